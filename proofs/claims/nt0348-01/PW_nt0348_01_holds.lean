import PyProof.Rows.All
import Wide.All
import OpenK.AllK
import Wide.FinOn
import KE.KItem
import PySem.Challenge.RW_nt0348_01
set_option maxRecDepth 100000
set_option Elab.async false
set_option linter.unusedVariables false
set_option linter.unusedSimpArgs false
set_option genSizeOf false
namespace Mine
open PySem PySem.W PyProof.Rows PySem.Calls


/-! names: one table; a number is a name -/
noncomputable def names : List Str := List.map Str.ofString ["a", "b", "c", "d", "e", "f", "g",
  "self", "number", "before", "proto", "key", "flags", "size", "is_open", "later", "closed", "places",
  "found", "shape", "slot", "row", "limit", "made", "roots", "step", "rows",
  "tree", "slots", "table", "is_alone", "alone_proto", "alone_open", "place", "value",
  "box", "own", "at", "is_new", "spots", "stores", "owns", "form", "store", "last", "above",
  "seen", "due", "name", "told", "one", "script", "many", "turn",
  "open", "alone",
  "append", "reverse", "get", "pop",
  "__init__", "next_number", "root", "added", "shut", "built", "can_grow", "find", "go_alone", "put", "reflag", "remove", "close", "set_proto",
  "_law_take", "_law_put", "_law_noted", "_law_left", "_law_step", "_law_right", "law",
  "Shape", "ShapeTree", "Store", "len", "range", "enumerate", "zip", "int", "repr",
  "(True, True)", "(True, False)", "(False, True)", "(False, False)", "iter"]
noncomputable def nm (n : Nat) : Str := match names[n]? with
  | some s => s
  | none => ⟨#[1000000 + n]⟩

theorem names_nodup : names.Nodup := by decide +kernel
theorem names_low : ∀ s ∈ names, s.cps.all (fun c => decide (c < 1000000)) = true := by decide +kernel
theorem nm_inj {i j : Nat} (h : nm i = nm j) : i = j := by
  unfold nm at h
  cases hi : names[i]? with
  | some s =>
    cases hj : names[j]? with
    | some t =>
      rw [hi, hj] at h
      dsimp only at h
      subst h
      exact (List.getElem?_inj (List.getElem?_eq_some_iff.mp hi).1 names_nodup).mp (hi.trans hj.symm)
    | none =>
      rw [hi, hj] at h
      dsimp only at h
      subst h
      have := names_low _ (List.mem_of_getElem? hi)
      simp at this; omega
  | none =>
    cases hj : names[j]? with
    | some t =>
      rw [hi, hj] at h
      dsimp only at h
      subst h
      have := names_low _ (List.mem_of_getElem? hj)
      simp at this; omega
    | none =>
      rw [hi, hj] at h
      dsimp only at h
      injection h with h
      have := congrArg Array.toList h
      simp at this
      omega

/-! values and objects -/
inductive V where
  | none | bool (b : Bool) | int (i : Int) | str (n : Nat) | ref (a : Addr) | tup (xs : List V)
  deriving Inhabited

inductive KA where | s (n : Nat) | i (z : Int)
  deriving DecidableEq

inductive O where
  | list (xs : List V)
  | sd (kvs : List (Nat × V))
  | nd (kvs : List (Int × V))
  | td (kvs : List (List KA × V))
  | inst (C : Addr) (fs : List (Nat × V))

noncomputable abbrev AH := Addr → Option O
noncomputable def upd (H : AH) (a : Addr) (o : O) : AH := fun b => if b = a then some o else H b
@[simp] theorem upd_self (H : AH) (a : Addr) (o : O) : upd H a o a = some o := if_pos rfl
theorem upd_ne {H : AH} {a b : Addr} {o : O} (h : b ≠ a) : upd H a o b = H b := if_neg h
theorem upd_upd (H : AH) (a : Addr) (o o' : O) : upd (upd H a o) a o' = upd H a o' := by
  funext b; by_cases h : b = a <;> simp [upd, h]

section
variable {K α : Type} [DecidableEq K]
noncomputable def dget (kvs : List (K × α)) (k : K) : Option α := (kvs.find? fun kv => kv.1 = k).map (·.2)
noncomputable def dset (kvs : List (K × α)) (k : K) (v : α) : List (K × α) :=
  if kvs.any (fun kv => kv.1 = k) then kvs.map (fun kv => if kv.1 = k then (kv.1, v) else kv) else kvs ++ [(k, v)]
noncomputable def ddel (kvs : List (K × α)) (k : K) : List (K × α) := kvs.filter fun kv => decide (kv.1 ≠ k)
end

noncomputable abbrev tupObj (items : Array Value) (n : Nat) : Obj := { cls := .type "tuple", data := .seq items n }
noncomputable abbrev lstObj (items : Array Value) (n : Nat) : Obj := { cls := .type "list", data := .seq items n }

mutual
inductive VR (h : Heap) (ψ : Addr → Prop) : V → Value → Prop
  | none : VR h ψ .none .none
  | bool (b) : VR h ψ (.bool b) (.bool b)
  | int (i t) : VR h ψ (.int i) (.int i t)
  | str (n t) : VR h ψ (.str n) (.str (nm n) t)
  | ref (a) : VR h ψ (.ref a) (.ref a)
  | tup {xs a n items} : h.get? a = some (tupObj items n) → ¬ ψ a → VRs h ψ xs items.toList → VR h ψ (.tup xs) (.ref a)
inductive VRs (h : Heap) (ψ : Addr → Prop) : List V → List Value → Prop
  | nil : VRs h ψ [] []
  | cons {x xs v vs} : VR h ψ x v → VRs h ψ xs vs → VRs h ψ (x :: xs) (v :: vs)
end

noncomputable def TM (h : Heap) (ψ : Addr → Prop) (h' : Heap) (ψ' : Addr → Prop) : Prop :=
  ∀ b items n, h.get? b = some (tupObj items n) → ¬ ψ b → h'.get? b = some (tupObj items n) ∧ ¬ ψ' b
theorem TM.refl (h : Heap) (ψ : Addr → Prop) : TM h ψ h ψ := fun _ _ _ e n => ⟨e, n⟩
theorem TM.trans {h h' h'' : Heap} {ψ ψ' ψ'' : Addr → Prop} (x : TM h ψ h' ψ') (y : TM h' ψ' h'' ψ'') : TM h ψ h'' ψ'' :=
  fun b i n e q => y b i n (x b i n e q).1 (x b i n e q).2
theorem VRs.ind {h : Heap} {ψ : Addr → Prop} {P : List V → List Value → Prop} (n : P [] []) (c : ∀ {x xs v vs}, VR h ψ x v → VRs h ψ xs vs → P xs vs → P (x :: xs) (v :: vs)) {xs vs} (r : VRs h ψ xs vs) : P xs vs :=
  VRs.rec (motive_1 := fun _ _ _ => True) (motive_2 := fun xs vs _ => P xs vs) trivial (fun _ => trivial) (fun _ _ => trivial) (fun _ _ => trivial) (fun _ => trivial) (fun _ _ _ _ => trivial) n (fun a r _ ih => c a r ih) r
theorem VR.mono {h h' : Heap} {ψ ψ' : Addr → Prop} (k : TM h ψ h' ψ') {x v} (r : VR h ψ x v) : VR h' ψ' x v :=
  VR.rec (motive_1 := fun x v _ => VR h' ψ' x v) (motive_2 := fun xs vs _ => VRs h' ψ' xs vs) .none .bool .int .str .ref (fun e n _ r => .tup (k _ _ _ e n).1 (k _ _ _ e n).2 r) .nil (fun _ _ a r => .cons a r) r
theorem VRs.mono {h h' : Heap} {ψ ψ' : Addr → Prop} (k : TM h ψ h' ψ') {x v} (r : VRs h ψ x v) : VRs h' ψ' x v :=
  r.ind .nil fun a _ ih => .cons (a.mono k) ih

theorem VRs.length {h : Heap} {ψ : Addr → Prop} {xs vs} (r : VRs h ψ xs vs) : xs.length = vs.length :=
  r.ind (P := fun xs vs => xs.length = vs.length) rfl fun _ _ ih => congrArg (· + 1) ih
theorem VRs.get {h : Heap} {ψ : Addr → Prop} {xs vs} (r : VRs h ψ xs vs) : ∀ {i : Nat} {x : V}, xs[i]? = some x → ∃ v, vs[i]? = some v ∧ VR h ψ x v :=
  r.ind (P := fun xs vs => ∀ {i : Nat} {x : V}, xs[i]? = some x → ∃ v, vs[i]? = some v ∧ VR h ψ x v) (fun e => by simp at e) fun {x _ v _} a _ ih i _ => Nat.casesOn (motive := fun i => ∀ {y}, (x :: _)[i]? = some y → ∃ w, (v :: _)[i]? = some w ∧ VR h ψ y w) i (fun e => ⟨v, rfl, Option.some.inj e ▸ a⟩) (fun _ _ e => ih e)
theorem VRs.append {h : Heap} {ψ : Addr → Prop} {xs vs ys ws} (r : VRs h ψ xs vs) (s : VRs h ψ ys ws) : VRs h ψ (xs ++ ys) (vs ++ ws) :=
  r.ind (P := fun xs vs => VRs h ψ (xs ++ ys) (vs ++ ws)) s fun a _ ih => .cons a ih
theorem VRs.reverse {h : Heap} {ψ : Addr → Prop} {xs vs} (r : VRs h ψ xs vs) : VRs h ψ xs.reverse vs.reverse :=
  r.ind (P := fun xs vs => VRs h ψ xs.reverse vs.reverse) .nil fun a _ ih => by rw [List.reverse_cons, List.reverse_cons]; exact ih.append (.cons a .nil)
theorem VRs.take {h : Heap} {ψ : Addr → Prop} {xs vs} (r : VRs h ψ xs vs) : ∀ (i : Nat), VRs h ψ (xs.take i) (vs.take i) :=
  r.ind (P := fun xs vs => ∀ i, VRs h ψ (xs.take i) (vs.take i)) (fun i => by rw [List.take_nil, List.take_nil]; exact .nil) fun a _ ih i => Nat.casesOn (motive := fun i => VRs h ψ ((_ :: _).take i) ((_ :: _).take i)) i .nil fun j => .cons a (ih j)
theorem VRs.drop {h : Heap} {ψ : Addr → Prop} {xs vs} (r : VRs h ψ xs vs) : ∀ (i : Nat), VRs h ψ (xs.drop i) (vs.drop i) :=
  r.ind (P := fun xs vs => ∀ i, VRs h ψ (xs.drop i) (vs.drop i)) (fun i => by rw [List.drop_nil, List.drop_nil]; exact .nil) fun a r ih i => Nat.casesOn (motive := fun i => VRs h ψ ((_ :: _).drop i) ((_ :: _).drop i)) i (.cons a r) fun j => ih j
theorem VRs.dropLast {h : Heap} {ψ : Addr → Prop} {xs vs} (r : VRs h ψ xs vs) : VRs h ψ xs.dropLast vs.dropLast := by
  rw [List.dropLast_eq_take, List.dropLast_eq_take, r.length]; exact r.take _
theorem VRs.set {h : Heap} {ψ : Addr → Prop} {x : V} {v : Value} (hx : VR h ψ x v) {xs vs} (r : VRs h ψ xs vs) : ∀ (i : Nat), VRs h ψ (xs.set i x) (vs.set i v) :=
  r.ind (P := fun xs vs => ∀ i, VRs h ψ (xs.set i x) (vs.set i v)) (fun _ => .nil) fun a r ih i => Nat.casesOn (motive := fun i => VRs h ψ ((_ :: _).set i x) ((_ :: _).set i v)) i (.cons hx r) fun j => .cons a (ih j)
theorem VRs.eraseIdx {h : Heap} {ψ : Addr → Prop} {xs vs} (r : VRs h ψ xs vs) : ∀ (i : Nat), VRs h ψ (xs.eraseIdx i) (vs.eraseIdx i) :=
  r.ind (P := fun xs vs => ∀ i, VRs h ψ (xs.eraseIdx i) (vs.eraseIdx i)) (fun _ => .nil) fun a r ih i => Nat.casesOn (motive := fun i => VRs h ψ ((_ :: _).eraseIdx i) ((_ :: _).eraseIdx i)) i r fun j => .cons a (ih j)

/-! dicts as lists of pairs -/
inductive PR {K : Type} (h : Heap) (ψ : Addr → Prop) : List (K × V) → List (K × Value) → Prop
  | nil : PR h ψ [] []
  | cons {k x v r s} : VR h ψ x v → PR h ψ r s → PR h ψ ((k, x) :: r) ((k, v) :: s)
section
variable {K : Type} {h h' : Heap} {ψ ψ' : Addr → Prop}
theorem PR.ind {P : List (K × V) → List (K × Value) → Prop} (n : P [] []) (c : ∀ {k x v r s}, VR h ψ x v → PR h ψ r s → P r s → P ((k, x) :: r) ((k, v) :: s)) {a b} (r : PR h ψ a b) : P a b :=
  PR.rec (motive := fun a b _ => P a b) n c r
theorem PR.mono (k : TM h ψ h' ψ') {a : List (K × V)} {b} (r : PR h ψ a b) : PR h' ψ' a b :=
  r.ind .nil fun x _ ih => .cons (x.mono k) ih
theorem PR.keys {a : List (K × V)} {b} (r : PR h ψ a b) : b.map (·.1) = a.map (·.1) :=
  r.ind (P := fun a b => b.map Prod.fst = a.map Prod.fst) rfl fun {k _ _ _ _} _ _ ih => congrArg (k :: ·) ih
theorem PR.length {a : List (K × V)} {b} (r : PR h ψ a b) : b.length = a.length :=
  r.ind (P := fun a b => b.length = a.length) rfl fun _ _ ih => congrArg (· + 1) ih
theorem PR.append {a : List (K × V)} {b c d} (r : PR h ψ a b) (s : PR h ψ c d) : PR h ψ (a ++ c) (b ++ d) :=
  r.ind (P := fun a b => PR h ψ (a ++ c) (b ++ d)) s fun x _ ih => .cons x ih
variable [DecidableEq K]
theorem PR.get (k : K) {a : List (K × V)} {b} (r : PR h ψ a b) : (∃ x v, dget a k = some x ∧ dget b k = some v ∧ VR h ψ x v) ∨ (dget a k = none ∧ dget b k = none) := by
  induction r with
  | nil => exact .inr ⟨rfl, rfl⟩
  | @cons k' x v _ _ hx r ih =>
    by_cases e : k' = k
    · exact .inl ⟨x, v, by simp [dget, e], by simp [dget, e], hx⟩
    · rcases ih with ⟨x, v, h1, h2, h3⟩ | ⟨h1, h2⟩
      · exact .inl ⟨x, v, by simpa [dget, e] using h1, by simpa [dget, e] using h2, h3⟩
      · exact .inr ⟨by simpa [dget, e] using h1, by simpa [dget, e] using h2⟩
theorem PR.mapSet {k : K} {x : V} {v : Value} (hx : VR h ψ x v) {a : List (K × V)} {b} (r : PR h ψ a b) :
    PR h ψ (a.map fun kv => if kv.1 = k then (kv.1, x) else kv) (b.map fun kv => if kv.1 = k then (kv.1, v) else kv) := by
  induction r with
  | nil => exact .nil
  | @cons k' _ _ _ _ hy r ih =>
    by_cases e : k' = k
    · simp only [List.map_cons, e, if_true]; exact .cons hx ih
    · simp only [List.map_cons, e, if_false]; exact .cons hy ih
theorem PR.any (k : K) {a : List (K × V)} {b} (p : PR h ψ a b) : b.any (fun kv => decide (kv.1 = k)) = a.any (fun kv => decide (kv.1 = k)) := by
  have := congrArg (fun l => l.any (fun y => decide (y = k))) p.keys
  simpa [List.any_map, Function.comp_def] using this
theorem PR.set {k : K} {x : V} {v : Value} (hx : VR h ψ x v) {a : List (K × V)} {b} (p : PR h ψ a b) : PR h ψ (dset a k x) (dset b k v) := by
  unfold dset
  rw [p.any k]
  split
  · exact p.mapSet hx
  · exact p.append (.cons hx .nil)
theorem PR.del (k : K) {a : List (K × V)} {b} (r : PR h ψ a b) : PR h ψ (ddel a k) (ddel b k) := by
  induction r with
  | nil => exact .nil
  | @cons k' _ _ _ _ hy r ih =>
    by_cases e : k' = k
    · simpa [ddel, e] using ih
    · simpa [ddel, e] using PR.cons hy ih
end

inductive FR (h : Heap) (ψ : Addr → Prop) : List (Nat × V) → List DictEntry → Prop
  | nil : FR h ψ [] []
  | cons {n x v hs t r s} : VR h ψ x v → FR h ψ r s → FR h ψ ((n, x) :: r) (⟨hs, .str (nm n) t, v⟩ :: s)
section
variable {h h' : Heap} {ψ ψ' : Addr → Prop}
theorem FR.mono (k : TM h ψ h' ψ') {a b} (r : FR h ψ a b) : FR h' ψ' a b :=
  FR.rec (motive := fun a b _ => FR h' ψ' a b) .nil (fun x _ ih => .cons (x.mono k) ih) r
theorem isStr_nm (n m : Nat) (t : Tok) : (Value.str (nm n) t).isStr (nm m) = decide (n = m) := by
  show (nm n == nm m) = _
  by_cases e : n = m
  · simp [e]
  · simp only [e, decide_false, beq_eq_false_iff_ne]; exact fun q => e (nm_inj q)
theorem FR.length {a b} (r : FR h ψ a b) : b.length = a.length :=
  FR.rec (motive := fun a b _ => b.length = a.length) rfl (fun _ _ ih => congrArg (· + 1) ih) r
theorem FR.noRef {a b} (r : FR h ψ a b) : b.any (·.refKey) = false :=
  FR.rec (motive := fun a b _ => b.any (·.refKey) = false) rfl (fun _ _ ih => ih) r
theorem FR.find (n : Nat) {a b} (r : FR h ψ a b) : (∃ x e, dget a n = some x ∧ b.find? (·.key.isStr (nm n)) = some e ∧ VR h ψ x e.val) ∨ (dget a n = none ∧ b.find? (·.key.isStr (nm n)) = none) := by
  induction r with
  | nil => exact .inr ⟨rfl, rfl⟩
  | @cons m x v hs t _ _ hx r ih =>
    by_cases e : m = n
    · subst e; exact .inl ⟨x, ⟨hs, .str (nm m) t, v⟩, by simp [dget], by rw [List.find?_cons, isStr_nm]; simp, hx⟩
    · rcases ih with ⟨x, v, h1, h2, h3⟩ | ⟨h1, h2⟩
      · exact .inl ⟨x, v, by simpa [dget, e] using h1, by rw [List.find?_cons, isStr_nm]; simpa [e] using h2, h3⟩
      · exact .inr ⟨by simpa [dget, e] using h1, by rw [List.find?_cons, isStr_nm]; simpa [e] using h2⟩
theorem FR.look {n : Nat} {a b x} (F : FR h ψ a b) (e : dget a n = some x) : ∃ v, getL (nm n) b = some (some v) ∧ VR h ψ x v := by
  rcases F.find n with ⟨x', v, h1, h2, h3⟩ | ⟨h1, h2⟩
  · rw [h1] at e; cases e; exact ⟨v.val, by unfold getL; rw [h2], h3⟩
  · rw [h1] at e; cases e
theorem FR.miss {n : Nat} {a b} (F : FR h ψ a b) (e : dget a n = none) : getL (nm n) b = some none := by
  rcases F.find n with ⟨x', v, h1, h2, h3⟩ | ⟨h1, h2⟩
  · rw [h1] at e; cases e
  · unfold getL; rw [h2]; simp [F.noRef]
noncomputable def fput (fs : List (Nat × V)) (n : Nat) (x : V) : List (Nat × V) := match fs with
  | [] => [(n, x)]
  | (m, y) :: r => if m = n then (m, x) :: r else (m, y) :: fput r n x
theorem FR.put {n : Nat} {x v} (hx : VR h ψ x v) (hs : Int) (t : Tok) {a b} (r : FR h ψ a b) : FR h ψ (fput a n x) (putL (nm n) hs (.str (nm n) t) v b) := by
  induction r with
  | nil => exact .cons hx .nil
  | @cons m _ _ _ _ _ _ hy r ih =>
    unfold fput putL
    dsimp only
    rw [isStr_nm]
    by_cases e : m = n
    · subst e; simp; exact .cons hx r
    · simp [e]; exact .cons hy ih
end
theorem fput_length (n : Nat) (x : V) : ∀ fs : List (Nat × V), (fput fs n x).length ≤ fs.length + 1
  | [] => by simp [fput]
  | (m, y) :: r => by
    unfold fput
    split
    · simp
    · have := fput_length n x r; simp; omega




/-! the surroundings of all -/
set_option genInjectivity false in
structure Amb where
  prog : Program
  w : World
  base : Heap
  gens : Array GenState
  os : OsState
  K : Frag
  mg : Str → Option Value
  mb : Str → Option Value
  kin : K.In base
  g : base.Ns mainGlobals mg
  b : base.Ns builtinsNs mb
  nolim : base.NoLimit
  bi : ∀ x : Str, x ≠ "__name__" → mb x = bootBuiltins x
  sm : ∃ o, base.get? sysModules = some o
  ro : Bool := false

noncomputable def kaIs (k : KA) (v : Value) : Bool := match k with | .s n => Value.isStrOf (nm n) v | .i z => Value.isInt z v
noncomputable def kaHash (w : World) (k : KA) : Int := match k with | .s n => hashStr w (nm n) | .i z => hashInt z
inductive KaS : KA → Value → Prop
  | s (n t) : KaS (.s n) (.str (nm n) t)
  | i (z t) : KaS (.i z) (.int z t)
theorem kaIs_shape {k : KA} {v : Value} (h : kaIs k v = true) : KaS k v := by
  cases k with
  | s n => obtain ⟨t, rfl⟩ := Value.isStrOf_shape h; exact .s n t
  | i z => obtain ⟨t, rfl⟩ := Value.isInt_shape h; exact .i z t
section
variable {prog : Program} {w : World} {A : Around} {E : Value → Shared → Prop} {s : Shared} {Q : Bool → Shared → Prop}
theorem eqB_str_int {a : Str} {t : Tok} {b : Int} {u : Tok} (h : Q false s) : wpAny (model prog w) A (eqBool (.str a t) (.int b u)) Q E s := by
  unfold eqBool
  refine wpAny_holding ?_
  rw [if_neg (by rw [beq_eq_false_iff_ne.mpr (fun q => by cases q)]; decide)]
  dsimp only
  exact wpAny_bind (EqMixed.eq_str_int (wpAny_truthy_bool h))
theorem eqB_int_str {a : Str} {t : Tok} {b : Int} {u : Tok} (h : Q false s) : wpAny (model prog w) A (eqBool (.int b u) (.str a t)) Q E s := by
  unfold eqBool
  refine wpAny_holding ?_
  rw [if_neg (by rw [beq_eq_false_iff_ne.mpr (fun q => by cases q)]; decide)]
  dsimp only
  exact wpAny_bind (EqMixed.eq_int_str (wpAny_truthy_bool h))
end
noncomputable def kaKind (prog : Program) (w : World) : KeyKind prog w KA where
  is := kaIs
  hash := kaHash w
  inj := fun v a b ha hb => by
    cases kaIs_shape ha with
    | s n t => generalize hv : Value.str (nm n) t = v at hb; cases kaIs_shape hb with
      | s m u => injection hv with e1; rw [nm_inj e1]
      | i z u => cases hv
    | i z t => cases kaIs_shape hb with
      | i y u => rfl
  byValue := fun k v h => by cases kaIs_shape h <;> rfl
  pyHash := fun hv h => by
    cases kaIs_shape hv with
    | s n t => exact wpAny_pyHash_str h
    | i z t => exact wpAny_pyHash_int h
  eqBool := fun {A E s a b u v Q} hu hv h => by
    cases kaIs_shape hu with
    | s n t => cases kaIs_shape hv with
      | s m t' => exact wpAny_eqBool_str ((decide_eq_decide.mpr ⟨fun e => congrArg KA.s (nm_inj e), fun e => congrArg nm (KA.s.inj e)⟩ : decide (nm n = nm m) = decide (KA.s n = KA.s m)) ▸ h)
      | i z t' => exact eqB_str_int ((decide_eq_false (fun q => KA.noConfusion q) : decide (KA.s n = KA.i z) = false) ▸ h)
    | i z t => cases kaIs_shape hv with
      | s m t' => exact eqB_int_str ((decide_eq_false (fun q => KA.noConfusion q) : decide (KA.i z = KA.s m) = false) ▸ h)
      | i y t' => exact wpAny_eqBool_int (show Q (decide (z = y)) s from (decide_eq_decide.mpr ⟨fun e => KA.i.inj e, fun e => congrArg KA.i e⟩ : decide (KA.i z = KA.i y) = decide (z = y)) ▸ h)
  «strs» := fun k x t v h => by
    cases k with
    | s n => exact (PySem.strKind prog w).strs (nm n) x t v h
    | i z => exact (intKind prog w).strs z x t v h

noncomputable def OR (D : Amb) (h : Heap) (ψ : Addr → Prop) (δ : Addr → Addr) (a : Addr) : O → Prop
  | .list xs => ∃ items n, h.get? a = some (lstObj items n) ∧ VRs h ψ xs items.toList
  | .sd kvs => ∃ l, h.DictOf (strKind D.prog D.w) a l ∧ PR h ψ (kvs.map fun p => (nm p.1, p.2)) l
  | .nd kvs => ∃ l, h.DictOf (intKind D.prog D.w) a l ∧ PR h ψ kvs l
  | .td kvs => ∃ xs, h.DictOfH (tupleKind (kaKind D.prog D.w)) a xs ∧ PR h ψ kvs (xs.map fun x => (x.1, x.2.2)) ∧ ∀ x ∈ xs, ¬ ψ x.2.1 ∧ ∃ items n, h.get? x.2.1 = some (tupObj items n)
  | .inst C fs => h.get? a = some (instObj C (δ a)) ∧ ∃ es n, h.get? (δ a) = some (dictOf es n) ∧ FR h ψ fs es

noncomputable def O.isInst : O → Bool
  | .inst .. => true
  | _ => false

theorem O.inst_of {o : O} (h : o.isInst = true) : ∃ C fs, o = .inst C fs := by
  cases o with
  | inst C fs => exact ⟨C, fs, rfl⟩
  | _ => cases h
theorem dictOf_at {prog : Program} {w : World} {K : Type} [DecidableEq K] {knd : KeyKind prog w K} {h h' : Heap} {a : Addr} {l : List (K × Value)} (x : h.DictOf knd a l)
    (e : ∀ o, h.get? a = some o → h'.get? a = some o) : h'.DictOf knd a l := let ⟨o, es, ep, ho, r⟩ := x; ⟨o, es, ep, e _ ho, r⟩

theorem OR.mono {D : Amb} {h h' : Heap} {ψ ψ' : Addr → Prop} {δ δ' : Addr → Addr} {a : Addr} (k : TM h ψ h' ψ') {o : O} (e : ∀ x, h.get? a = some x → h'.get? a = some x)
    (d : o.isInst = true → δ' a = δ a ∧ ∀ x, h.get? (δ a) = some x → h'.get? (δ a) = some x) (r : OR D h ψ δ a o) : OR D h' ψ' δ' a o := by
  cases o with
  | list xs => exact r.imp fun _ => .imp fun _ q => ⟨e _ q.1, q.2.mono k⟩
  | sd kvs => exact r.imp fun _ q => ⟨dictOf_at q.1 e, q.2.mono k⟩
  | nd kvs => exact r.imp fun _ q => ⟨dictOf_at q.1 e, q.2.mono k⟩
  | td kvs =>
    refine r.imp fun xs q => ⟨?_, q.2.1.mono k, fun x hx => ?_⟩
    · obtain ⟨o, es, ep, q'⟩ := q.1
      refine ⟨o, es, ep, e _ q'.1, q'.2.1, q'.2.2.1, q'.2.2.2.1, fun x hx => ?_, q'.2.2.2.2.2⟩
      obtain ⟨items, n, q2⟩ := (q.2.2 x hx).2
      refine (q'.2.2.2.2.1 x hx).imp fun o' => .imp fun its => .imp fun n' g => ⟨?_, g.2⟩
      have g1 := g.1
      rw [q2] at g1
      exact Option.some.inj g1 ▸ (k _ _ _ q2 (q.2.2 x hx).1).1
    · obtain ⟨items, n, q2⟩ := (q.2.2 x hx).2
      exact ⟨(k _ _ _ q2 (q.2.2 x hx).1).2, items, n, (k _ _ _ q2 (q.2.2 x hx).1).1⟩
  | inst C fs =>
    have d := d rfl
    exact ⟨d.1.symm ▸ e _ r.1, r.2.imp fun _ => .imp fun _ q => ⟨d.1.symm ▸ d.2 _ q.1, q.2.mono k⟩⟩

theorem OR.live {D : Amb} {h : Heap} {ψ : Addr → Prop} {δ : Addr → Addr} {a : Addr} {o : O} (r : OR D h ψ δ a o) : ∃ x, h.get? a = some x ∧ ∀ items n, x ≠ tupObj items n := by
  cases o with
  | list xs => obtain ⟨_, _, h1⟩ := r; exact ⟨_, h1.1, fun _ _ q => by have := congrArg Obj.cls q; simp at this⟩
  | sd kvs => obtain ⟨_, ⟨o, _, _, h1⟩, _⟩ := r; exact ⟨o, h1.1, fun _ _ q => by have := h1.2.2.1; rw [q] at this; cases this⟩
  | nd kvs => obtain ⟨_, ⟨o, _, _, h1⟩, _⟩ := r; exact ⟨o, h1.1, fun _ _ q => by have := h1.2.2.1; rw [q] at this; cases this⟩
  | td kvs => obtain ⟨_, ⟨o, _, _, h1⟩, _⟩ := r; exact ⟨o, h1.1, fun _ _ q => by have := h1.2.2.1; rw [q] at this; cases this⟩
  | inst C fs => exact ⟨_, r.1, fun _ _ q => by cases q⟩

noncomputable def isInstAt (H : AH) (a : Addr) : Prop := ∃ C fs, H a = some (.inst C fs)
noncomputable def foot (δ : Addr → Addr) (H : AH) (a : Addr) : Prop := H a ≠ none ∨ ∃ b, isInstAt H b ∧ δ b = a
noncomputable def psi (τ : Addr → Prop) (δ : Addr → Addr) (H : AH) (a : Addr) : Prop := foot δ H a ∨ τ a

structure St (D : Amb) (τ : Addr → Prop) (δ : Addr → Addr) (s : Shared) (H : AH) : Prop where
  base : ∀ b o, D.base.get? b = some o → s.heap.get? b = some o
  apart : ∀ b, foot δ H b → D.base.get? b = none
  objs : ∀ a o, H a = some o → OR D s.heap (psi τ δ H) δ a o
  inj : ∀ a b, isInstAt H a → isInstAt H b → δ a = δ b → a = b
  dsep : ∀ a, isInstAt H a → H (δ a) = none
  gens : s.gens = D.gens
  os : s.os = D.os
  tl : ∀ b, τ b → ∃ o, s.heap.get? b = some o

noncomputable def Pres (D : Amb) (φ φ' : Addr → Prop) (h h' : Heap) : Prop := (∀ b o, h.get? b = some o → ¬ φ b → h'.get? b = some o ∧ ¬ φ' b) ∧ (D.ro = true → ∀ b o, h.get? b = some o → h'.get? b = some o)
theorem Pres.refl (D : Amb) (φ : Addr → Prop) (h : Heap) : Pres D φ φ h h := ⟨fun _ _ e n => ⟨e, n⟩, fun _ _ _ e => e⟩
theorem Pres.trans {D : Amb} {φ φ' φ'' : Addr → Prop} {h h' h'' : Heap} (x : Pres D φ φ' h h') (y : Pres D φ' φ'' h' h'') : Pres D φ φ'' h h'' :=
  ⟨fun b o e n => y.1 b o (x.1 b o e n).1 (x.1 b o e n).2, fun r b o e => y.2 r b o (x.2 r b o e)⟩
theorem Pres.tm {D : Amb} {τ : Addr → Prop} {δ δ' : Addr → Addr} {H H' : AH} {h h' : Heap} (x : Pres D (foot δ H) (foot δ' H') h h') : TM h (psi τ δ H) h' (psi τ δ' H') :=
  fun b _ _ e n => ⟨(x.1 b _ e fun q => n (.inl q)).1, fun q => q.elim (fun q => (x.1 b _ e fun q => n (.inl q)).2 q) fun q => n (.inr q)⟩

section
variable {D : Amb} {τ : Addr → Prop} {δ : Addr → Addr} {s : Shared} {H : AH}
theorem St.live (S : St D τ δ s H) {b : Addr} (f : foot δ H b) : ∃ x, s.heap.get? b = some x ∧ ∀ items n, x ≠ tupObj items n := by
  rcases f with f | ⟨a, ⟨C, fs, e⟩, rfl⟩
  · cases e : H b with
    | none => exact absurd e f
    | some o => exact (S.objs _ _ e).live
  · obtain ⟨_, es, n, h2, _⟩ := S.objs _ _ e
    exact ⟨_, h2, fun _ _ q => by have := congrArg Obj.cls q; simp at this⟩
theorem St.lt (S : St D τ δ s H) {b : Addr} (f : foot δ H b) : b < s.heap.objs.size := let ⟨_, e, _⟩ := S.live f; Heap.lt_size e
theorem foot_of {δ : Addr → Addr} {H : AH} {a : Addr} {o : O} (e : H a = some o) : foot δ H a := .inl (by rw [e]; exact fun q => by cases q)
theorem foot_inst {δ : Addr → Addr} {H : AH} {a C : Addr} {fs : List (Nat × V)} (e : H a = some (.inst C fs)) : foot δ H (δ a) := .inr ⟨a, ⟨C, fs, e⟩, rfl⟩
theorem St.other (S : St D τ δ s H) {h' : Heap} {tk : Nat} (c : Addr → Prop) (hk : ∀ b o, ¬ c b → s.heap.get? b = some o → h'.get? b = some o)
    (hc : ∀ b, c b → ¬ foot δ H b ∧ D.base.get? b = none ∧ ((∀ items n, s.heap.get? b ≠ some (tupObj items n)) ∨ τ b) ∧ ∃ o, h'.get? b = some o) : St D τ δ { s with heap := h', toks := tk } H := by
  have tm : TM s.heap (psi τ δ H) h' (psi τ δ H) := fun b items n e q => ⟨hk b _ (fun z => ((hc b z).2.2.1).elim (fun y => y _ _ e) fun y => q (.inr y)) e, q⟩
  refine ⟨fun b o e => hk b o (fun z => ?_) (S.base b o e), S.apart, fun a o e => ?_, S.inj, S.dsep, S.gens, S.os, fun b t => ?_⟩
  · rw [(hc b z).2.1] at e; cases e
  · exact (S.objs a o e).mono tm (fun x q => hk a x (fun z => (hc a z).1 (foot_of e)) q)
      (fun i => ⟨rfl, fun x q => hk _ x (fun z => by
        obtain ⟨C, fs, rfl⟩ := O.inst_of i
        exact (hc _ z).1 (foot_inst e)) q⟩)
  · obtain ⟨o, e⟩ := S.tl b t
    by_cases z : c b
    · exact (hc b z).2.2.2
    · exact ⟨o, hk b o z e⟩
theorem St.toks (S : St D τ δ s H) (tk : Nat) : St D τ δ { s with toks := tk } H := S.other (h' := s.heap) (fun _ => False) (fun _ _ _ e => e) (fun _ z => z.elim)
theorem St.grow (S : St D τ δ s H) {h' : Heap} {tk : Nat} (hk : ∀ b o, s.heap.get? b = some o → h'.get? b = some o) : St D τ δ { s with heap := h', toks := tk } H :=
  S.other (fun _ => False) (fun b o _ e => hk b o e) (fun _ z => z.elim)
theorem Pres.grow {φ : Addr → Prop} {h h' : Heap} (hk : ∀ b o, h.get? b = some o → h'.get? b = some o) : Pres D φ φ h h' := ⟨fun b o e n => ⟨hk b o e, n⟩, fun _ => hk⟩
theorem Pres.other {φ : Addr → Prop} {h h' : Heap} (hro : D.ro = false) (hk : ∀ b o, ¬ φ b → h.get? b = some o → h'.get? b = some o) : Pres D φ φ h h' := ⟨fun b o e n => ⟨hk b o n e, n⟩, fun r => by rw [hro] at r; cases r⟩

theorem isInstAt_upd {H : AH} {a : Addr} {o o' : O} (e : H a = some o) (hi : o'.isInst = o.isInst) (b : Addr) : isInstAt (upd H a o') b ↔ isInstAt H b := by
  unfold isInstAt
  by_cases q : b = a
  · subst q
    rw [upd_self, e]
    cases o <;> cases o' <;> simp [O.isInst] at hi <;> simp
  · rw [upd_ne q]
theorem foot_upd {δ : Addr → Addr} {H : AH} {a : Addr} {o o' : O} (e : H a = some o) (hi : o'.isInst = o.isInst) : foot δ (upd H a o') = foot δ H := by
  funext b
  unfold foot
  simp only [isInstAt_upd e hi]
  by_cases q : b = a
  · subst q; simp [e]
  · rw [upd_ne q]
theorem St.set (S : St D τ δ s H) {h' : Heap} {tk : Nat} {a c : Addr} {o o' : O} (e : H a = some o) (hi : o'.isInst = o.isInst) (hc : c = if o.isInst then δ a else a)
    (hk : ∀ b x, b ≠ c → s.heap.get? b = some x → h'.get? b = some x)
    (hn : TM s.heap (psi τ δ H) h' (psi τ δ H) → OR D h' (psi τ δ H) δ a o') : St D τ δ { s with heap := h', toks := tk } (upd H a o') := by
  have hf : foot δ (upd H a o') = foot δ H := foot_upd e hi
  have hp : psi τ δ (upd H a o') = psi τ δ H := by unfold psi; rw [hf]
  have fc : foot δ H c := by
    rw [hc]
    split
    · rename_i q
      obtain ⟨C, fs, rfl⟩ := O.inst_of q
      exact foot_inst e
    · exact foot_of e
  have tm : TM s.heap (psi τ δ H) h' (psi τ δ H) := fun b items n q z => ⟨hk b _ (fun y => z (.inl (y ▸ fc))) q, z⟩
  refine ⟨fun b x q => hk b x (fun z => ?_) (S.base b x q), fun b f => S.apart b (hf ▸ f), fun b x q => ?_, ?_, ?_, S.gens, S.os, fun b t => ?_⟩
  · subst z; rw [S.apart _ fc] at q; cases q
  · rw [hp]
    by_cases z : b = a
    · subst z; rw [upd_self] at q; cases q; exact hn tm
    · rw [upd_ne z] at q
      refine (S.objs b x q).mono tm (fun y w => hk b y (fun u => ?_) w) (fun i => ⟨rfl, fun y w => hk _ y (fun u => ?_) w⟩)
      · rw [hc] at u
        split at u
        · rename_i v
          obtain ⟨C, fs, rfl⟩ := O.inst_of v
          have := S.dsep a ⟨C, fs, e⟩
          rw [← u, q] at this; cases this
        · exact z u
      · obtain ⟨C, fs, rfl⟩ := O.inst_of i
        rw [hc] at u
        split at u
        · rename_i v
          obtain ⟨C', fs', rfl⟩ := O.inst_of v
          exact z (S.inj b a ⟨C, fs, q⟩ ⟨C', fs', e⟩ u)
        · have := S.dsep b ⟨C, fs, q⟩
          rw [u, e] at this; cases this
  · intro x y hx hy q; exact S.inj x y ((isInstAt_upd e hi x).mp hx) ((isInstAt_upd e hi y).mp hy) q
  · intro x hx
    have hx' := (isInstAt_upd e hi x).mp hx
    have := S.dsep x hx'
    rw [upd_ne (fun q => by rw [q, e] at this; cases this)]; exact this
  · obtain ⟨x, q⟩ := S.tl b t
    by_cases z : b = c
    · have ho := hn tm
      rw [z, hc]
      split
      · rename_i v
        rw [v] at hi
        obtain ⟨C, fs, rfl⟩ := O.inst_of hi
        obtain ⟨_, es, m, g, _⟩ := ho
        exact ⟨_, g⟩
      · obtain ⟨x, g, _⟩ := ho.live; exact ⟨x, g⟩
    · exact ⟨x, hk b x z q⟩
theorem Pres.set (S : St D τ δ s H) (hro : D.ro = false) {h' : Heap} {a c : Addr} {o o' : O} (e : H a = some o) (hi : o'.isInst = o.isInst) (hc : c = if o.isInst then δ a else a)
    (hk : ∀ b x, b ≠ c → s.heap.get? b = some x → h'.get? b = some x) : Pres D (foot δ H) (foot δ (upd H a o')) s.heap h' := by
  rw [foot_upd e hi]
  refine Pres.other hro fun b x n q => hk b x (fun z => n ?_) q
  rw [z, hc]
  split
  · rename_i v
    obtain ⟨C, fs, rfl⟩ := O.inst_of v
    exact foot_inst e
  · exact foot_of e
theorem foot_new {δ : Addr → Addr} {H : AH} {a : Addr} {o : O} (hi : o.isInst = false) (hn : H a = none) (b : Addr) : foot δ (upd H a o) b ↔ foot δ H b ∨ b = a := by
  unfold foot
  have k : ∀ c, isInstAt (upd H a o) c ↔ isInstAt H c := fun c => by
    unfold isInstAt
    by_cases q : c = a
    · subst q; rw [upd_self, hn]; constructor
      · rintro ⟨C, fs, q⟩; cases q; cases hi
      · rintro ⟨C, fs, q⟩; cases q
    · rw [upd_ne q]
  simp only [k]
  by_cases q : b = a
  · subst q; simp
  · rw [upd_ne q]; simp [q]
theorem St.new (S : St D τ δ s H) {h' : Heap} {tk : Nat} {a : Addr} {o : O} (hi : o.isInst = false) (ha : s.heap.get? a = none) (hb : D.base.get? a = none)
    (hk : ∀ b x, s.heap.get? b = some x → h'.get? b = some x)
    (hn : TM s.heap (psi τ δ H) h' (psi τ δ (upd H a o)) → OR D h' (psi τ δ (upd H a o)) δ a o) : St D τ δ { s with heap := h', toks := tk } (upd H a o) := by
  have hna : ¬ foot δ H a := fun f => by obtain ⟨x, e, _⟩ := S.live f; rw [ha] at e; cases e
  have hH : H a = none := by cases q : H a with | none => rfl | some x => exact absurd (foot_of q) hna
  have hf := foot_new (δ := δ) hi hH
  have tm : TM s.heap (psi τ δ H) h' (psi τ δ (upd H a o)) := fun b items n e q => ⟨hk b _ e, fun z => z.elim (fun z => ((hf b).mp z).elim (fun z => q (.inl z)) fun z => by rw [z, ha] at e; cases e) fun z => q (.inr z)⟩
  have ii : ∀ c, isInstAt (upd H a o) c → isInstAt H c := fun c ⟨C, fs, q⟩ => by
    by_cases z : c = a
    · subst z; rw [upd_self] at q; cases q; cases hi
    · rw [upd_ne z] at q; exact ⟨C, fs, q⟩
  refine ⟨fun b x q => hk b x (S.base b x q), fun b f => ((hf b).mp f).elim (S.apart b) fun z => by rw [z]; exact hb, fun b x q => ?_, fun x y hx hy q => S.inj x y (ii x hx) (ii y hy) q, fun x hx => ?_, S.gens, S.os, fun b t => let ⟨x, q⟩ := S.tl b t; ⟨x, hk b x q⟩⟩
  · by_cases z : b = a
    · subst z; rw [upd_self] at q; cases q; exact hn tm
    · rw [upd_ne z] at q
      exact (S.objs b x q).mono tm (fun y w => hk _ _ w) fun i => ⟨rfl, fun y w => hk _ _ w⟩
  · have := S.dsep x (ii x hx)
    obtain ⟨C, fs, e⟩ := ii x hx
    have z : δ x ≠ a := fun q => hna (by rw [← q]; exact foot_inst e)
    rw [upd_ne z]; exact this
theorem Pres.new (S : St D τ δ s H) {h' : Heap} {a : Addr} {o : O} (hi : o.isInst = false) (ha : s.heap.get? a = none) (hk : ∀ b x, s.heap.get? b = some x → h'.get? b = some x) :
    Pres D (foot δ H) (foot δ (upd H a o)) s.heap h' := ⟨fun b x e n => ⟨hk b x e, fun f => by
  have hna : ¬ foot δ H a := fun f => by obtain ⟨x, e, _⟩ := S.live f; rw [ha] at e; cases e
  have hH : H a = none := by cases q : H a with | none => rfl | some x => exact absurd (foot_of q) hna
  exact ((foot_new (δ := δ) hi hH b).mp f).elim n fun z => by rw [z, ha] at e; cases e⟩, fun _ => hk⟩
noncomputable def dup (δ : Addr → Addr) (a d : Addr) : Addr → Addr := fun b => if b = a then d else δ b
theorem St.make (S : St D τ δ s H) {h' : Heap} {tk : Nat} {a d C : Addr} {fs : List (Nat × V)} (ha : s.heap.get? a = none) (hb : D.base.get? a = none) (hd : s.heap.get? d = none) (hbd : D.base.get? d = none) (hne : d ≠ a)
    (hk : ∀ b x, s.heap.get? b = some x → h'.get? b = some x)
    (hn : OR D h' (psi τ (dup δ a d) (upd H a (.inst C fs))) (dup δ a d) a (.inst C fs)) :
    St D τ (dup δ a d) { s with heap := h', toks := tk } (upd H a (.inst C fs)) ∧ Pres D (foot δ H) (foot (dup δ a d) (upd H a (.inst C fs))) s.heap h' := by
  have nf : ∀ c, s.heap.get? c = none → ¬ foot δ H c := fun c hc f => by obtain ⟨x, e, _⟩ := S.live f; rw [hc] at e; cases e
  have hH : H a = none := by cases q : H a with | none => rfl | some x => exact absurd (foot_of q) (nf a ha)
  have ii : ∀ c, c ≠ a → (isInstAt (upd H a (.inst C fs)) c ↔ isInstAt H c) := fun c z => by unfold isInstAt; rw [upd_ne z]
  have da : dup δ a d a = d := if_pos rfl
  have dn : ∀ c, c ≠ a → dup δ a d c = δ c := fun c z => if_neg z
  have hf : ∀ b, foot (dup δ a d) (upd H a (.inst C fs)) b → foot δ H b ∨ b = a ∨ b = d := fun b f => by
    rcases f with f | ⟨c, hc, rfl⟩
    · by_cases z : b = a
      · exact .inr (.inl z)
      · rw [upd_ne z] at f; exact .inl (.inl f)
    · by_cases z : c = a
      · subst z; exact .inr (.inr da)
      · rw [dn c z]; exact .inl (.inr ⟨c, (ii c z).mp hc, rfl⟩)
  have tm : TM s.heap (psi τ δ H) h' (psi τ (dup δ a d) (upd H a (.inst C fs))) := fun b items n e q => ⟨hk b _ e, fun z => z.elim (fun z => (hf b z).elim (fun z => q (.inl z)) fun z => z.elim (fun z => by rw [z, ha] at e; cases e) fun z => by rw [z, hd] at e; cases e) fun z => q (.inr z)⟩
  have Hd : H d = none := by cases q : H d with | none => rfl | some x => exact absurd (foot_of q) (nf d hd)
  refine ⟨⟨fun b x q => hk b x (S.base b x q), fun b f => (hf b f).elim (S.apart b) fun z => z.elim (fun z => by rw [z]; exact hb) fun z => by rw [z]; exact hbd, fun b x q => ?_, fun x y hx hy q => ?_, fun x hx => ?_, S.gens, S.os, fun b t => let ⟨x, q⟩ := S.tl b t; ⟨x, hk b x q⟩⟩,
    ⟨fun b x e n => ⟨hk b x e, fun f => (hf b f).elim n fun z => z.elim (fun z => by rw [z, ha] at e; cases e) fun z => by rw [z, hd] at e; cases e⟩, fun _ => hk⟩⟩
  · by_cases z : b = a
    · subst z; rw [upd_self] at q; cases q; exact hn
    · rw [upd_ne z] at q
      exact (S.objs b x q).mono tm (fun y w => hk _ _ w) fun i => ⟨dn b z, fun y w => hk _ _ w⟩
  · by_cases zx : x = a
    · by_cases zy : y = a
      · rw [zx, zy]
      · rw [zx, da, dn y zy] at q
        obtain ⟨C', fs', e⟩ := (ii y zy).mp hy
        exact absurd (q ▸ foot_inst e) (nf d hd)
    · by_cases zy : y = a
      · rw [zy, da, dn x zx] at q
        obtain ⟨C', fs', e⟩ := (ii x zx).mp hx
        exact absurd (q ▸ foot_inst e) (nf d hd)
      · rw [dn x zx, dn y zy] at q
        exact S.inj x y ((ii x zx).mp hx) ((ii y zy).mp hy) q
  · by_cases zx : x = a
    · rw [zx, da, upd_ne hne]; exact Hd
    · rw [dn x zx]
      obtain ⟨C', fs', e⟩ := (ii x zx).mp hx
      have z : δ x ≠ a := fun q => nf a ha (by rw [← q]; exact foot_inst e)
      rw [upd_ne z]; exact S.dsep x ⟨C', fs', e⟩
end




/-! a small tongue -/
set_option genInjectivity false in
inductive Tg where | one (i : Nat) | many (is : List Nat)
set_option genInjectivity false in
inductive X where
  | var (i : Nat)
  | int (z : Int) | str (i : Nat) | bool (b : Bool) | none
  | attr (e : X) (i : Nat)
  | item (e k : X)
  | cut (e : X) (z : Int)
  | neg (z : Int)
  | tup (es : List X) | list (es : List X)
  | dict (ks : List Nat) (vs : List X)
  | bin (op : Operator) (a b : X)
  | cmp (op : CmpOp) (a b : X)
  | not (e : X)
  | bop (op : BoolOp) (es : List X)
  | ife (c a b : X)
  | call (f : Nat) (es : List X)
  | meth (e : X) (m : Nat) (es : List X)
  | comp (elt : X) (t : Tg) (src : X) (ifs : List X)
set_option genInjectivity false in
inductive LV where | var (i : Nat) | attr (e : X) (i : Nat) | item (e k : X) | many (is : List Nat)
set_option genInjectivity false in
inductive S where
  | asg (t : LV) (e : X)
  | aug (e : X) (i : Nat) (op : Operator) (v : X)
  | ret (e : X) | retN
  | ife (c : X) (a b : List S)
  | for_ (t : Tg) (src : X) (body : List S)
  | whl (c : X) (body : List S)
  | ex (e : X)

noncomputable def X.isComp (x : X) : Bool := decide (x.ctorIdx = 19)
noncomputable def relabelS (cs sc : Scope) : Scope :=
  { cs with names := cs.names.map fun (n, k) => if (k == .free && sc.kind == .function && sc.names.lookup n == some .cell) then (n, .cell) else (n, k) }
noncomputable def compOk (cs sc : Scope) : Bool :=
  cs.kind == .function && cs.names.all (fun y => y.2 != .cell) && cs.names.all (fun y => y.2 != .local || cs.names.lookup y.1 == some .local) &&
  cs.names.all (fun y => y.2 != .free || sc.names.lookup y.1 == some .cell) && (cs.names.map (·.1)).all (fun y => (cs.names.filter (·.1 == y)).length == 1)

noncomputable def tgIds : Tg → List Nat
  | .one i => [i]
  | .many is => is
noncomputable def tgCover (tg : Tg) (cs : Scope) : Bool := (cs.names.all fun y => y.2 != .local || y.1 == (".0" : Str) || (tgIds tg).any fun i => nm i == y.1) && (tgIds tg).all fun i => cs.names.lookup (nm i) == some .local

noncomputable def isVar (k : Option NameKind) : Prop := k = some .local ∨ k = some .cell ∨ k = some .free
noncomputable def isLoc (k : Option NameKind) : Prop := k = some .local ∨ k = some .cell
noncomputable def Tk : List (Option Expr) → List Nat → Prop
  | ks, [] => ks = []
  | ks, i :: is => ∃ k p r, ks = some (.Constant (.str (nm i)) k p) :: r ∧ Tk r is
noncomputable def TN (sc : Scope) : List Expr → List Nat → Prop
  | es, [] => es = []
  | es, i :: is => ∃ p r, es = .Name (nm i) p :: r ∧ isLoc (sc.names.lookup (nm i)) ∧ TN sc r is
noncomputable def TT (sc : Scope) (e : Expr) : Tg → Prop
  | .one i => ∃ p, e = .Name (nm i) p ∧ isLoc (sc.names.lookup (nm i))
  | .many is => ∃ es k p, e = .Tuple es k p ∧ TN sc es is
mutual
noncomputable def T : Scope → Expr → X → Prop
  | sc, e, .var i => ∃ p, e = .Name (nm i) p ∧ isVar (sc.names.lookup (nm i))
  | _, e, .int z => ∃ k p, e = .Constant (.int z) k p
  | _, e, .str i => ∃ k p, e = .Constant (.str (nm i)) k p
  | _, e, .bool b => ∃ k p, e = .Constant (.bool b) k p
  | _, e, .none => ∃ k p, e = .Constant .none k p
  | sc, e, .attr x i => ∃ e' p, e = .Attribute e' (nm i) p ∧ (∀ env whole, attributeBase e' (nm i) env whole = whole) ∧ T sc e' x
  | sc, e, .item x y => ∃ e' k p, e = .Subscript e' k p ∧ T sc e' x ∧ T sc k y
  | sc, e, .cut x z => ∃ y q k p p1 p2, e = .Subscript (.Name y q) (.Slice .none (some (.Constant (.int z) k p2)) .none p1) p ∧ T sc (.Name y q) x
  | _, e, .neg z => ∃ k p1 p, e = .UnaryOp .USub (.Constant (.int z) k p1) p
  | sc, e, .tup xs => ∃ es k p, e = .Tuple es k p ∧ Ts sc es xs
  | sc, e, .list xs => ∃ es p, e = .List es p ∧ Ts sc es xs
  | sc, e, .dict is xs => ∃ ks vs p, e = .Dict ks vs p ∧ Tk ks is ∧ Ts sc vs xs
  | sc, e, .bin op x y => ∃ a b p, e = .BinOp a op b p ∧ T sc a x ∧ T sc b y
  | sc, e, .cmp op x y => ∃ a b p, e = .Compare a [op] [b] p ∧ behindInMarks op b = false ∧ T sc a x ∧ T sc b y
  | sc, e, .not x => ∃ e' p, e = .UnaryOp .Not e' p ∧ T sc e' x
  | sc, e, .bop op xs => ∃ es p, e = .BoolOp op es p ∧ Ts sc es xs
  | sc, e, .ife x y z => ∃ c a b p, e = .IfExp c a b p ∧ T sc c x ∧ T sc a y ∧ T sc b z
  | sc, e, .call f xs => ∃ es p q, e = .Call (.Name (nm f) p) es [] q ∧ sc.names.lookup (nm f) = some .globalImplicit ∧ Ts sc es xs
  | sc, e, .meth x m xs => ∃ e' es p q, e = .Call (.Attribute e' (nm m) p) es [] q ∧ (p.endLine == q.line) = true ∧ (∀ env whole, attributeBase e' (nm m) env whole = whole) ∧ decide (es.length < 20) = true ∧ T sc e' x ∧ Ts sc es xs
  | sc, e, .comp x tg src xs => ∃ cs elt t it ifs p, e = .ListComp elt [⟨t, it, ifs, 0⟩] cs p ∧ compOk cs sc = true ∧ tgCover tg cs = true ∧ (∀ env y, foldedSetIterable it env y = pure y) ∧ T (relabelS cs sc) elt x ∧ TT (relabelS cs sc) t tg ∧ T sc it src ∧ Ts (relabelS cs sc) ifs xs
noncomputable def Ts : Scope → List Expr → List X → Prop
  | _, es, [] => es = []
  | sc, es, x :: xs => ∃ e r, es = e :: r ∧ T sc e x ∧ Ts sc r xs
end
noncomputable def TL (sc : Scope) (e : Expr) : LV → Prop
  | .var i => ∃ p, e = .Name (nm i) p ∧ isLoc (sc.names.lookup (nm i))
  | .attr x i => ∃ e' p, e = .Attribute e' (nm i) p ∧ T sc e' x
  | .item x y => ∃ e' k p, e = .Subscript e' k p ∧ T sc e' x ∧ T sc k y
  | .many is => ∃ es k p, e = .Tuple es k p ∧ TN sc es is
noncomputable def AsgP (sc : Scope) (st : Stmt) (l : LV) (x : X) : Prop := ∃ t e p, st = .Assign [t] e p ∧ (∀ env : Env, env.scope = sc → swapsWithSole [t] e p.line env = pure false) ∧ (∀ env : Env, env.scope = sc → swappedStores [t] e env = pure Option.none) ∧ TL sc t l ∧ T sc e x
noncomputable def AsgS (sc : Scope) (st : Stmt) (is : List Nat) (x : X) : Prop := ∃ es k q e p, st = .Assign [.Tuple es k q] e p ∧ (∀ env : Env, env.scope = sc → swapsWithSole [.Tuple es k q] e p.line env = pure false) ∧ (∀ env : Env, env.scope = sc → swappedStores [.Tuple es k q] e env = pure (some (is.map nm))) ∧
  is.Nodup ∧ (∀ i ∈ is, sc.names.lookup (nm i) = some .local) ∧ T sc e x
noncomputable def AsgC (sc : Scope) (st : Stmt) (i : Nat) (x : X) : Prop := ∃ q elt t it ifs cs pc p, st = .Assign [.Name (nm i) q] (.ListComp elt [⟨t, it, ifs, 0⟩] cs pc) p ∧ (∀ env : Env, env.scope = sc → swapsWith (.ListComp elt [⟨t, it, ifs, 0⟩] cs pc) (some (.Name (nm i) q)) p.line env = pure true) ∧ sc.names.lookup (nm i) = some .local ∧ x.isComp = true ∧
  T sc (.ListComp elt [⟨t, it, ifs, 0⟩] cs pc) x
mutual
noncomputable def TS : Scope → Stmt → S → Prop
  | sc, st, .asg l x => AsgP sc st l x ∨ (∃ is, l = .many is ∧ AsgS sc st is x) ∨ (∃ i, l = .var i ∧ AsgC sc st i x)
  | sc, st, .aug x i op y => ∃ e v p q, st = .AugAssign (.Attribute e (nm i) p) op v q ∧ T sc e x ∧ T sc v y
  | sc, st, .ret x => ∃ e p, st = .Return (some e) p ∧ T sc e x
  | _, st, .retN => ∃ p, st = .Return .none p
  | sc, st, .ife x ss rs => ∃ c a b p, st = .If c a b p ∧ T sc c x ∧ TSs sc a ss ∧ TSs sc b rs
  | sc, st, .for_ tg src ss => ∃ t it b p, st = .For t it b [] p ∧ (∀ env y, foldedSetIterable it env y = pure y) ∧ TT sc t tg ∧ T sc it src ∧ TSs sc b ss
  | sc, st, .whl x ss => ∃ c b p, st = .While c b [] p ∧ T sc c x ∧ TSs sc b ss
  | sc, st, .ex x => ∃ e p, st = .Expr e p ∧ (∀ env : Env, swapsWith e Option.none p.line env = pure false) ∧ T sc e x
noncomputable def TSs : Scope → List Stmt → List S → Prop
  | _, ss, [] => ss = []
  | sc, ss, x :: xs => ∃ s r, ss = s :: r ∧ TS sc s x ∧ TSs sc r xs
end
theorem no {p : Prop} (h : false = true) : p := absurd h Bool.false_ne_true
noncomputable def starB (e : Expr) : Bool := PySem.swappedStores.match_5 (fun _ => Bool) e (fun _ _ => true) (fun _ => false)
structure PlainE (x : X) (e : Expr) : Prop where
  star : ∀ (es : List Expr) (env : Env), starEach (e :: es) env = (false, eval e env) :: starEach es env
  sub : ∀ o i : Value, subscripted e false o i = operate [o, i] (getItem o i)
  nost : starB e = false
  nc : x.isComp = false → ∀ t line env, swapsWith e t line env = pure false
theorem T.plain {sc : Scope} {e : Expr} {x : X} (h : T sc e x) : PlainE x e := by
  cases x with
  | var i => obtain ⟨_, rfl, _⟩ := h; exact ⟨fun _ _ => rfl, fun _ _ => rfl, rfl, fun _ _ _ _ => rfl⟩
  | int z => obtain ⟨_, _, rfl⟩ := h; exact ⟨fun _ _ => rfl, fun _ _ => rfl, rfl, fun _ _ _ _ => rfl⟩
  | str z => obtain ⟨_, _, rfl⟩ := h; exact ⟨fun _ _ => rfl, fun _ _ => rfl, rfl, fun _ _ _ _ => rfl⟩
  | bool z => obtain ⟨_, _, rfl⟩ := h; exact ⟨fun _ _ => rfl, fun _ _ => rfl, rfl, fun _ _ _ _ => rfl⟩
  | none => obtain ⟨_, _, rfl⟩ := h; exact ⟨fun _ _ => rfl, fun _ _ => rfl, rfl, fun _ _ _ _ => rfl⟩
  | attr x i => obtain ⟨_, _, rfl, _⟩ := h; exact ⟨fun _ _ => rfl, fun _ _ => rfl, rfl, fun _ _ _ _ => rfl⟩
  | item x y => obtain ⟨_, _, _, rfl, _⟩ := h; exact ⟨fun _ _ => rfl, fun _ _ => rfl, rfl, fun _ _ _ _ => rfl⟩
  | cut x z => obtain ⟨_, _, _, _, _, _, rfl, _⟩ := h; exact ⟨fun _ _ => rfl, fun _ _ => rfl, rfl, fun _ _ _ _ => rfl⟩
  | neg z => obtain ⟨_, _, _, rfl⟩ := h; exact ⟨fun _ _ => rfl, fun _ _ => rfl, rfl, fun _ _ _ _ => rfl⟩
  | tup xs => obtain ⟨_, _, _, rfl, _⟩ := h; exact ⟨fun _ _ => rfl, fun _ _ => rfl, rfl, fun _ _ _ _ => rfl⟩
  | list xs => obtain ⟨_, _, rfl, _⟩ := h; exact ⟨fun _ _ => rfl, fun _ _ => rfl, rfl, fun _ _ _ _ => rfl⟩
  | dict is xs => obtain ⟨_, _, _, rfl, _⟩ := h; exact ⟨fun _ _ => rfl, fun _ _ => rfl, rfl, fun _ _ _ _ => rfl⟩
  | bin op x y => obtain ⟨_, _, _, rfl, _⟩ := h; exact ⟨fun _ _ => rfl, fun _ _ => rfl, rfl, fun _ _ _ _ => rfl⟩
  | cmp op x y => obtain ⟨_, _, _, rfl, _⟩ := h; exact ⟨fun _ _ => rfl, fun _ _ => rfl, rfl, fun _ _ _ _ => rfl⟩
  | not x => obtain ⟨_, _, rfl, _⟩ := h; exact ⟨fun _ _ => rfl, fun _ _ => rfl, rfl, fun _ _ _ _ => rfl⟩
  | bop op xs => obtain ⟨_, _, rfl, _⟩ := h; exact ⟨fun _ _ => rfl, fun _ _ => rfl, rfl, fun _ _ _ _ => rfl⟩
  | ife x y z => obtain ⟨_, _, _, _, rfl, _⟩ := h; exact ⟨fun _ _ => rfl, fun _ _ => rfl, rfl, fun _ _ _ _ => rfl⟩
  | call f xs => obtain ⟨_, _, _, rfl, _⟩ := h; exact ⟨fun _ _ => rfl, fun _ _ => rfl, rfl, fun _ _ _ _ => rfl⟩
  | meth x m xs => obtain ⟨_, _, _, _, rfl, _⟩ := h; exact ⟨fun _ _ => rfl, fun _ _ => rfl, rfl, fun _ _ _ _ => rfl⟩
  | comp x tg src xs => obtain ⟨_, _, _, _, _, _, rfl, _⟩ := h; exact ⟨fun _ _ => rfl, fun _ _ => rfl, rfl, fun q => Bool.noConfusion q⟩
theorem T.star {sc : Scope} {e : Expr} {x : X} (h : T sc e x) (es : List Expr) (env : Env) : starEach (e :: es) env = (false, eval e env) :: starEach es env := h.plain.star es env
theorem Ts.star {sc : Scope} {env : Env} : ∀ {xs : List X} {es : List Expr}, Ts sc es xs → starEach es env = es.map fun e => (false, eval e env)
  | [], es, h => by cases (h : es = []); rfl
  | x :: xs, es, h => by
    obtain ⟨e, r, rfl, te, ts⟩ := h
    rw [te.star, ts.star]; rfl

/-! frames -/
noncomputable def Room (A : Around) (n : Nat) : Prop := (A.depth + 2 * n + 10 ≤ 900 ∧ A.guards = some []) ∧ A.units + 20 * n + 200 ≤ 9000 ∧ A.handled = none
noncomputable abbrev Loc := Nat → Option V
noncomputable def isFr (env : Env) (b : Addr) : Prop := b = env.locals ∨ ∃ x, env.cells.lookup x = some b

structure EnvR (D : Amb) (env : Env) (φ ψ : Addr → Prop) (ρ : Loc) (h : Heap) : Prop where
  kind : env.scope.kind = .function
  glob : env.globals = mainGlobals
  blt : env.builtins = builtinsNs
  loc : ∃ m, h.Ns env.locals m ∧ ∀ i v, ρ i = some v → env.kindOf (nm i) = some .local → ∃ v', m (nm i) = some v' ∧ VR h ψ v v'
  cel : ∀ i v, ρ i = some v → (env.kindOf (nm i) = some .cell ∨ env.kindOf (nm i) = some .free) → ∃ c v', env.cells.lookup (nm i) = some c ∧ h.IsCell c (some v') ∧ VR h ψ v v'
  cst : ∀ x c, env.cells.lookup x = some c → (∃ v, h.IsCell c v) ∧ D.base.get? c = none ∧ ¬ φ c
  all : ∀ x, (env.kindOf x = some .cell ∨ env.kindOf x = some .free) → (env.cells.lookup x).isSome = true
  cinj : ∀ x y c, env.cells.lookup x = some c → env.cells.lookup y = some c → x = y
  fr : D.base.get? env.locals = none ∧ ¬ φ env.locals

noncomputable def PresX (env : Env) (φ φ' : Addr → Prop) (h h' : Heap) : Prop := ∀ b o, h.get? b = some o → ¬ φ b → ¬ isFr env b → h'.get? b = some o ∧ ¬ φ' b
noncomputable def PresF (env : Env) (L : Prop) (h h' : Heap) : Prop := ∀ b o, h.get? b = some o → ((L ∧ b ≠ env.locals) ∨ ¬ isFr env b) → h'.get? b = some o
theorem PresF.x {env : Env} {L : Prop} {h h' : Heap} (x : PresF env L h h') (φ : Addr → Prop) : PresX env φ φ h h' := fun b o e n f => ⟨x b o e (.inr f), n⟩
theorem PresF.trans {env : Env} {L : Prop} {h h' h'' : Heap} (x : PresF env L h h') (y : PresF env L h' h'') : PresF env L h h'' := fun b o e f => y b o (x b o e f) f
theorem PresF.mono {env : Env} {L L' : Prop} {h h' : Heap} (x : PresF env L h h') (k : L' → L) : PresF env L' h h' := fun b o e f => x b o e (f.imp (fun q => ⟨k q.1, q.2⟩) id)
theorem PresX.refl (env : Env) (φ : Addr → Prop) (h : Heap) : PresX env φ φ h h := fun _ _ e n _ => ⟨e, n⟩
theorem PresX.trans {env : Env} {φ φ' φ'' : Addr → Prop} {h h' h'' : Heap} (x : PresX env φ φ' h h') (y : PresX env φ' φ'' h' h'') : PresX env φ φ'' h h'' :=
  fun b o e n m => y b o (x b o e n m).1 (x b o e n m).2 m
theorem Pres.x {D : Amb} {env : Env} {φ φ' : Addr → Prop} {h h' : Heap} (x : Pres D φ φ' h h') : PresX env φ φ' h h' := fun b o e n _ => x.1 b o e n

section
variable {D : Amb} {env : Env} {φ ψ φ' ψ' : Addr → Prop} {ρ : Loc} {h h' : Heap}
theorem EnvR.notTup (R : EnvR D env φ ψ ρ h) {b : Addr} (f : isFr env b) : ∀ items n, h.get? b ≠ some (tupObj items n) := by
  intro items n e
  rcases f with rfl | ⟨x, hx⟩
  · obtain ⟨m, ⟨o, es, ep, ho, hd, _⟩, _⟩ := R.loc
    rw [e] at ho; cases ho; cases hd
  · obtain ⟨⟨v, o, ho, hd⟩, _⟩ := R.cst x b hx
    rw [e] at ho; cases ho; cases hd
theorem EnvR.out (R : EnvR D env φ ψ ρ h) {b : Addr} (f : isFr env b) : D.base.get? b = none ∧ ¬ φ b := by
  rcases f with rfl | ⟨x, hx⟩
  · exact R.fr
  · exact (R.cst x b hx).2
theorem EnvR.live (R : EnvR D env φ ψ ρ h) {b : Addr} (f : isFr env b) : ∃ o, h.get? b = some o := by
  rcases f with rfl | ⟨x, hx⟩
  · obtain ⟨m, ⟨o, es, ep, ho, _⟩, _⟩ := R.loc; exact ⟨o, ho⟩
  · obtain ⟨⟨v, o, ho, hd⟩, _⟩ := R.cst x b hx; exact ⟨o, ho⟩
theorem EnvR.pres (R : EnvR D env φ ψ ρ h) (p : Pres D φ φ' h h') (k : TM h ψ h' ψ') : EnvR D env φ' ψ' ρ h' := by
  have kk : ∀ b, isFr env b → ∀ o, h.get? b = some o → h'.get? b = some o := fun b f o e => (p.1 b o e (R.out f).2).1
  refine ⟨R.kind, R.glob, R.blt, ?_, fun i v e q => ?_, fun x c e => ?_, R.all, R.cinj, ?_⟩
  · obtain ⟨m, ⟨o, es, ep, ho, r⟩, hv⟩ := R.loc
    exact ⟨m, ⟨o, es, ep, kk _ (.inl rfl) _ ho, r⟩, fun i v e q => let ⟨v', a, b⟩ := hv i v e q; ⟨v', a, b.mono k⟩⟩
  · obtain ⟨c, v', h1, ⟨o, ho, hd⟩, h3⟩ := R.cel i v e q
    exact ⟨c, v', h1, ⟨o, kk c (.inr ⟨_, h1⟩) _ ho, hd⟩, h3.mono k⟩
  · obtain ⟨⟨v, o, ho, hd⟩, h2, h3⟩ := R.cst x c e
    exact ⟨⟨v, o, kk c (.inr ⟨_, e⟩) _ ho, hd⟩, h2, (p.1 c o ho h3).2⟩
  · obtain ⟨o, ho⟩ := R.live (.inl rfl)
    exact ⟨R.fr.1, (p.1 _ o ho R.fr.2).2⟩
theorem EnvR.tmx {τ : Addr → Prop} {δ δ' : Addr → Addr} {H H' : AH} (R : EnvR D env (foot δ H) (psi τ δ H) ρ h) (p : PresX env (foot δ H) (foot δ' H') h h') : TM h (psi τ δ H) h' (psi τ δ' H') :=
  fun b _ _ e n => have f : ¬ isFr env b := fun f => R.notTup f _ _ e
    ⟨(p b _ e (fun q => n (.inl q)) f).1, fun q => q.elim (fun q => (p b _ e (fun q => n (.inl q)) f).2 q) fun q => n (.inr q)⟩
end

/-! judgements -/
inductive PE (D : Amb) (τ : Addr → Prop) (φ : Addr → Prop) (h : Heap) (Q : V → AH → Prop) (v : Value) (s' : Shared) : Prop
  | mk (x : V) (H' : AH) (δ' : Addr → Addr) : St D τ δ' s' H' → Pres D φ (foot δ' H') h s'.heap → VR s'.heap (psi τ δ' H') x v → Q x H' → PE D τ φ h Q v s'
inductive PEs (D : Amb) (τ : Addr → Prop) (φ : Addr → Prop) (h : Heap) (Q : List V → AH → Prop) (v : List Value) (s' : Shared) : Prop
  | mk (x : List V) (H' : AH) (δ' : Addr → Addr) : St D τ δ' s' H' → Pres D φ (foot δ' H') h s'.heap → VRs s'.heap (psi τ δ' H') x v → Q x H' → PEs D τ φ h Q v s'
inductive PB (D : Amb) (τ : Addr → Prop) (φ : Addr → Prop) (h : Heap) (Q : Bool → AH → Prop) (b : Bool) (s' : Shared) : Prop
  | mk (H' : AH) (δ' : Addr → Addr) : St D τ δ' s' H' → Pres D φ (foot δ' H') h s'.heap → Q b H' → PB D τ φ h Q b s'
inductive OpP {α : Type} (o : Option α) (Q : α → Prop) : Prop
  | mk (z : α) : o = some z → Q z → OpP o Q
inductive Fl where | nxt | brk | cnt | ret (v : V)
inductive FlR (h : Heap) (ψ : Addr → Prop) : Fl → Flow → Prop
  | nxt : FlR h ψ .nxt .next
  | brk : FlR h ψ .brk .brk
  | cnt : FlR h ψ .cnt .cont
  | ret {x v} : VR h ψ x v → FlR h ψ (.ret x) (.ret v)
inductive PS (D : Amb) (τ : Addr → Prop) (env : Env) (φ : Addr → Prop) (h : Heap) (Q : Fl → Loc → AH → Prop) (f : Flow) (s' : Shared) : Prop
  | mk (fl : Fl) (ρ' : Loc) (H' : AH) (δ' : Addr → Addr) : St D τ δ' s' H' → PresX env φ (foot δ' H') h s'.heap → EnvR D env (foot δ' H') (psi τ δ' H') ρ' s'.heap → FlR s'.heap (psi τ δ' H') fl f → Q fl ρ' H' → PS D τ env φ h Q f s'
inductive PA (D : Amb) (τ : Addr → Prop) (env : Env) (φ : Addr → Prop) (h : Heap) (Q : Loc → AH → Prop) (u : Unit) (s' : Shared) : Prop
  | mk (ρ' : Loc) (H' : AH) (δ' : Addr → Addr) : St D τ δ' s' H' → PresX env φ (foot δ' H') h s'.heap → EnvR D env (foot δ' H') (psi τ δ' H') ρ' s'.heap → Q ρ' H' → PA D τ env φ h Q u s'
noncomputable abbrev NoE : Value → Shared → Prop := fun _ _ => False

noncomputable def WE (D : Amb) (n : Nat) (x : X) (ρ : Loc) (H : AH) (Q : V → AH → Prop) : Prop :=
  ∀ (e : Expr) (env : Env) (A : Around) (τ : Addr → Prop) (δ : Addr → Addr) (s : Shared), T env.scope e x → Room A n → St D τ δ s H → EnvR D env (foot δ H) (psi τ δ H) ρ s.heap →
    wpAny (model D.prog D.w) A (eval e env) (PE D τ (foot δ H) s.heap Q) NoE s
noncomputable def WEs (D : Amb) (n : Nat) (xs : List X) (ρ : Loc) (H : AH) (Q : List V → AH → Prop) : Prop :=
  ∀ (es : List Expr) (env : Env) (A : Around) (τ : Addr → Prop) (δ : Addr → Addr) (s : Shared) (pos : Pos), Ts env.scope es xs → Room A n → St D τ δ s H → EnvR D env (foot δ H) (psi τ δ H) ρ s.heap →
    wpAny (model D.prog D.w) A (spliced (backTo pos (starEach es env))) (PEs D τ (foot δ H) s.heap Q) NoE s
noncomputable def WB (D : Amb) (n : Nat) (x : X) (ρ : Loc) (H : AH) (Q : Bool → AH → Prop) : Prop :=
  ∀ (e : Expr) (env : Env) (A : Around) (τ : Addr → Prop) (δ : Addr → Addr) (s : Shared), T env.scope e x → Room A n → St D τ δ s H → EnvR D env (foot δ H) (psi τ δ H) ρ s.heap →
    wpAny (model D.prog D.w) A (isTrue e env (eval e env)) (PB D τ (foot δ H) s.heap Q) NoE s
noncomputable def WA (D : Amb) (n : Nat) (t : LV) (v : V) (ρ : Loc) (H : AH) (Q : Loc → AH → Prop) : Prop :=
  ∀ (e : Expr) (env : Env) (A : Around) (τ : Addr → Prop) (δ : Addr → Addr) (s : Shared) (vv : Value), TL env.scope e t → Room A n → St D τ δ s H → EnvR D env (foot δ H) (psi τ δ H) ρ s.heap →
    VR s.heap (psi τ δ H) v vv → wpAny (model D.prog D.w) A (assign e env vv) (PA D τ env (foot δ H) s.heap Q) NoE s
noncomputable def WS (D : Amb) (n : Nat) (xs : List S) (ρ : Loc) (H : AH) (Q : Fl → Loc → AH → Prop) : Prop :=
  ∀ (ss : List Stmt) (env : Env) (A : Around) (τ : Addr → Prop) (δ : Addr → Addr) (s : Shared), TSs env.scope ss xs → Room A n → St D τ δ s H → EnvR D env (foot δ H) (psi τ δ H) ρ s.heap →
    wpAny (model D.prog D.w) A (execs ss env) (PS D τ env (foot δ H) s.heap Q) NoE s
noncomputable def W1 (D : Amb) (n : Nat) (x : S) (ρ : Loc) (H : AH) (Q : Fl → Loc → AH → Prop) : Prop :=
  ∀ (st : Stmt) (env : Env) (A : Around) (τ : Addr → Prop) (δ : Addr → Addr) (s : Shared), TS env.scope st x → Room A n → St D τ δ s H → EnvR D env (foot δ H) (psi τ δ H) ρ s.heap →
    wpAny (model D.prog D.w) A (exec st env) (PS D τ env (foot δ H) s.heap Q) NoE s
noncomputable def WC (D : Amb) (n : Nat) (f : Value) (args : List V) (H : AH) (Q : V → AH → Prop) : Prop :=
  ∀ (A : Around) (τ : Addr → Prop) (δ : Addr → Addr) (s : Shared) (vals : List Value), Room A n → St D τ δ s H → VRs s.heap (psi τ δ H) args vals →
    wpAny (model D.prog D.w) A (call f vals []) (PE D τ (foot δ H) s.heap Q) NoE s

section
variable {D : Amb} {n : Nat} {ρ : Loc} {H : AH}
theorem PE.mono {τ φ : Addr → Prop} {h : Heap} {Q Q' : V → AH → Prop} (k : ∀ x H, Q x H → Q' x H) {v s'} : PE D τ φ h Q v s' → PE D τ φ h Q' v s'
  | ⟨x, H', δ', a, b, c, d⟩ => ⟨x, H', δ', a, b, c, k _ _ d⟩
theorem PE.pre {τ φ φ' : Addr → Prop} {h h' : Heap} {Q : V → AH → Prop} (p : Pres D φ φ' h h') {v s'} : PE D τ φ' h' Q v s' → PE D τ φ h Q v s'
  | ⟨x, H', δ', a, b, c, d⟩ => ⟨x, H', δ', a, p.trans b, c, d⟩
theorem PEs.pre {τ φ φ' : Addr → Prop} {h h' : Heap} {Q : List V → AH → Prop} (p : Pres D φ φ' h h') {v s'} : PEs D τ φ' h' Q v s' → PEs D τ φ h Q v s'
  | ⟨x, H', δ', a, b, c, d⟩ => ⟨x, H', δ', a, p.trans b, c, d⟩
theorem PB.pre {τ φ φ' : Addr → Prop} {h h' : Heap} {Q : Bool → AH → Prop} (p : Pres D φ φ' h h') {v s'} : PB D τ φ' h' Q v s' → PB D τ φ h Q v s'
  | ⟨H', δ', a, b, d⟩ => ⟨H', δ', a, p.trans b, d⟩
theorem PS.pre {τ : Addr → Prop} {env : Env} {φ φ' : Addr → Prop} {h h' : Heap} {Q : Fl → Loc → AH → Prop} (p : PresX env φ φ' h h') {v s'} : PS D τ env φ' h' Q v s' → PS D τ env φ h Q v s'
  | ⟨fl, ρ', H', δ', a, b, c, d, e⟩ => ⟨fl, ρ', H', δ', a, p.trans b, c, d, e⟩
theorem PA.pre {τ : Addr → Prop} {env : Env} {φ φ' : Addr → Prop} {h h' : Heap} {Q : Loc → AH → Prop} (p : PresX env φ φ' h h') {v s'} : PA D τ env φ' h' Q v s' → PA D τ env φ h Q v s'
  | ⟨ρ', H', δ', a, b, c, d⟩ => ⟨ρ', H', δ', a, p.trans b, c, d⟩

theorem WE.bind {x : X} {Q : V → AH → Prop} (h : WE D n x ρ H Q) {e : Expr} {env : Env} {A : Around} {τ : Addr → Prop} {δ : Addr → Addr} {s : Shared} {P : Value → Shared → Prop}
    (t : T env.scope e x) (r : Room A n) (S : St D τ δ s H) (R : EnvR D env (foot δ H) (psi τ δ H) ρ s.heap)
    (k : ∀ v s' x H' δ', St D τ δ' s' H' → Pres D (foot δ H) (foot δ' H') s.heap s'.heap → EnvR D env (foot δ' H') (psi τ δ' H') ρ s'.heap → VR s'.heap (psi τ δ' H') x v → Q x H' → P v s') :
    wpAny (model D.prog D.w) A (eval e env) P NoE s :=
  wpAny_mono (h e env A τ δ s t r S R) (fun v s' ⟨x, H', δ', a, b, c, d⟩ => k v s' x H' δ' a b (R.pres b b.tm) c d) fun _ _ z => z
theorem WEs.bind {xs : List X} {Q : List V → AH → Prop} (h : WEs D n xs ρ H Q) {es : List Expr} {env : Env} {A : Around} {τ : Addr → Prop} {δ : Addr → Addr} {s : Shared} {pos : Pos} {P : List Value → Shared → Prop}
    (t : Ts env.scope es xs) (r : Room A n) (S : St D τ δ s H) (R : EnvR D env (foot δ H) (psi τ δ H) ρ s.heap)
    (k : ∀ v s' x H' δ', St D τ δ' s' H' → Pres D (foot δ H) (foot δ' H') s.heap s'.heap → EnvR D env (foot δ' H') (psi τ δ' H') ρ s'.heap → VRs s'.heap (psi τ δ' H') x v → Q x H' → P v s') :
    wpAny (model D.prog D.w) A (spliced (backTo pos (starEach es env))) P NoE s :=
  wpAny_mono (h es env A τ δ s pos t r S R) (fun v s' ⟨x, H', δ', a, b, c, d⟩ => k v s' x H' δ' a b (R.pres b b.tm) c d) fun _ _ z => z
theorem WB.bind {x : X} {Q : Bool → AH → Prop} (h : WB D n x ρ H Q) {e : Expr} {env : Env} {A : Around} {τ : Addr → Prop} {δ : Addr → Addr} {s : Shared} {P : Bool → Shared → Prop}
    (t : T env.scope e x) (r : Room A n) (S : St D τ δ s H) (R : EnvR D env (foot δ H) (psi τ δ H) ρ s.heap)
    (k : ∀ b s' H' δ', St D τ δ' s' H' → Pres D (foot δ H) (foot δ' H') s.heap s'.heap → EnvR D env (foot δ' H') (psi τ δ' H') ρ s'.heap → Q b H' → P b s') :
    wpAny (model D.prog D.w) A (isTrue e env (eval e env)) P NoE s :=
  wpAny_mono (h e env A τ δ s t r S R) (fun v s' ⟨H', δ', a, b, d⟩ => k v s' H' δ' a b (R.pres b b.tm) d) fun _ _ z => z
theorem WE.mono {x : X} {Q Q' : V → AH → Prop} (h : WE D n x ρ H Q) (k : ∀ v H, Q v H → Q' v H) : WE D n x ρ H Q' :=
  fun e env A τ δ s t r S R => wpAny_mono (h e env A τ δ s t r S R) (fun _ _ z => z.mono k) fun _ _ z => z
theorem WC.mono {f : Value} {args : List V} {Q Q' : V → AH → Prop} (h : WC D n f args H Q) (k : ∀ v H, Q v H → Q' v H) : WC D n f args H Q' :=
  fun A τ δ s vals r S R => wpAny_mono (h A τ δ s vals r S R) (fun _ _ z => z.mono k) fun _ _ z => z
theorem WS.mono {xs : List Mine.S} {Q Q' : Fl → Loc → AH → Prop} (h : WS D n xs ρ H Q) (k : ∀ f ρ H, Q f ρ H → Q' f ρ H) : WS D n xs ρ H Q' :=
  fun e env A τ δ s t r S R => wpAny_mono (h e env A τ δ s t r S R) (fun _ _ ⟨fl, ρ', H', δ', a, b, c, d, e⟩ => ⟨fl, ρ', H', δ', a, b, c, d, k _ _ _ e⟩) fun _ _ z => z
theorem PE.here {τ : Addr → Prop} {δ : Addr → Addr} {s : Shared} {Q : V → AH → Prop} {x : V} {v : Value} (S : St D τ δ s H) (c : VR s.heap (psi τ δ H) x v) (q : Q x H) (tk : Nat) :
    PE D τ (foot δ H) s.heap Q v { s with toks := tk } := ⟨x, H, δ, S.toks tk, .refl _ _ _, c, q⟩
end




section
variable {D : Amb} {n : Nat} {ρ : Loc} {H : AH} {Q : V → AH → Prop}

theorem nm_debug (i : Nat) (h : ∀ j, nm j ≠ ("__debug__" : Str)) : (nm i == ("__debug__" : Str)) = false := beq_eq_false_iff_ne.mpr (h i)
theorem nm_ne_debug (i : Nat) : (nm i == ("__debug__" : Str)) = false := by
  refine beq_eq_false_iff_ne.mpr fun h => ?_
  unfold nm at h
  cases hi : names[i]? with
  | some s =>
    rw [hi] at h
    dsimp only at h
    have : ∀ s ∈ names, s ≠ ("__debug__" : Str) := by decide +kernel
    exact this _ (List.mem_of_getElem? hi) h
  | none =>
    rw [hi] at h
    dsimp only at h
    have := congrArg (fun s : Str => s.cps.size) h
    revert this; simp; decide +kernel
theorem nm_ne_class (i : Nat) : (nm i == ("__classdict__" : Str)) = false := by
  refine beq_eq_false_iff_ne.mpr fun h => ?_
  unfold nm at h
  cases hi : names[i]? with
  | some s =>
    rw [hi] at h
    dsimp only at h
    have : ∀ s ∈ names, s ≠ ("__classdict__" : Str) := by decide +kernel
    exact this _ (List.mem_of_getElem? hi) h
  | none =>
    rw [hi] at h
    dsimp only at h
    have := congrArg (fun s : Str => s.cps.size) h
    revert this; simp; decide +kernel

theorem we_var {i : Nat} {v : V} (e : ρ i = some v) (q : Q v H) : WE D n (.var i) ρ H Q := by
  intro ex env A τ δ s t r S R
  · obtain ⟨_, rfl, hk⟩ := t
    refine wpAny_Name ?_ (nm_ne_debug i)
    rcases hk with hk | hk | hk
    · obtain ⟨m, hm, hv⟩ := R.loc
      obtain ⟨v', h1, h2⟩ := hv i v e hk
      exact wpAny_loadName_local R.kind hk hm h1 (PE.here S h2 q s.toks)
    · obtain ⟨c, v', h1, h2, h3⟩ := R.cel i v e (.inl hk)
      exact wpAny_loadName_cell R.kind hk h1 h2 (PE.here S h3 q s.toks)
    · obtain ⟨c, v', h1, h2, h3⟩ := R.cel i v e (.inr hk)
      exact wpAny_loadName_free R.kind hk h1 h2 (PE.here S h3 q s.toks) (nm_ne_class i)
theorem we_int {z : Int} (q : Q (.int z) H) : WE D n (.int z) ρ H Q := by
  intro ex env A τ δ s t r S R
  obtain ⟨_, _, rfl⟩ := t; exact wpAny_Constant_int (PE.here S (.int _ _) q _)
theorem we_str {i : Nat} (q : Q (.str i) H) : WE D n (.str i) ρ H Q := by
  intro ex env A τ δ s t r S R
  obtain ⟨_, _, rfl⟩ := t; exact wpAny_Constant_str (PE.here S (.str _ _) q _)
theorem we_bool {b : Bool} (q : Q (.bool b) H) : WE D n (.bool b) ρ H Q := by
  intro ex env A τ δ s t r S R
  obtain ⟨_, _, rfl⟩ := t; exact wpAny_Constant_bool (PE.here S (.bool _) q s.toks)
theorem we_none (q : Q .none H) : WE D n .none ρ H Q := by
  intro ex env A τ δ s t r S R
  obtain ⟨_, _, rfl⟩ := t; exact wpAny_Constant_none (PE.here S .none q s.toks)
theorem we_neg {z : Int} (q : Q (.int (-z)) H) : WE D n (.neg z) ρ H Q := by
  intro ex env A τ δ s t r S R
  obtain ⟨_, _, _, rfl⟩ := t
  exact wpAny_UnaryOp (wpAny_Constant_int (neg_int (PE.here S (.int _ _) q _)))

theorem wes_nil {Q : List V → AH → Prop} (q : Q [] H) : WEs D n [] ρ H Q := by
  intro es env A τ δ s pos t r S R
  cases t
  exact wpAny_items_nil ⟨[], H, δ, S, .refl _ _ _, .nil, q⟩
theorem wes_cons {Q : List V → AH → Prop} {x : X} {xs : List X} (h : WE D n x ρ H fun v H₁ => WEs D n xs ρ H₁ fun vs H₂ => Q (v :: vs) H₂) : WEs D n (x :: xs) ρ H Q := by
  intro es env A τ δ s pos t r S R
  · obtain ⟨e, es, rfl, te, ts⟩ := t
    have hs : starEach (e :: es) env = (false, eval e env) :: starEach es env := te.star es env
    rw [hs]
    refine spliced_cons (rest := backTo pos (starEach es env)) ?_
    refine h.bind te r S R fun v s' x' H' δ' S' P' R' c q => ?_
    refine q.bind ts r S' R' fun vs s'' xs' H'' δ'' S'' P'' R'' cs qq => ?_
    exact ⟨_, H'', δ'', S'', P'.trans P'', .cons (c.mono P''.tm) cs, qq⟩

/-! conditions -/
theorem wb_of {x : X} {Q : Bool → AH → Prop} (hx : match x with | .not _ | .bop .. | .ife .. | .cmp .. => False | _ => True) (h : WE D n x ρ H fun v H₁ => ∃ b, v = .bool b ∧ Q b H₁) : WB D n x ρ H Q := by
  intro ex env A τ δ s t r S R
  have go : wpAny (model D.prog D.w) A (do let v ← eval ex env; standAt ex.pos; holding [v] (truthy v)) (PB D τ (foot δ H) s.heap Q) NoE s := by
    refine wpAny_bind (h.bind t r S R fun v s' x' H' δ' S' P' R' c q => ?_)
    obtain ⟨b, rfl, q⟩ := q
    cases c
    exact wpAny_bind (wpAny_standAt (wpAny_holding (wpAny_truthy_bool ⟨H', δ', S', P', q⟩)))
  cases x <;> first | exact hx.elim | (obtain ⟨_, rfl, _⟩ := t; exact go) | (obtain ⟨_, _, rfl⟩ := t; exact go) | (obtain ⟨_, _, rfl, _⟩ := t; exact go) | (obtain ⟨_, _, _, rfl⟩ := t; exact go) | (obtain ⟨_, _, _, rfl, _⟩ := t; exact go) | (obtain ⟨_, _, _, _, rfl, _⟩ := t; exact go) | (obtain ⟨_, _, _, _, _, _, rfl, _⟩ := t; exact go)
theorem wb_not {x : X} {Q : Bool → AH → Prop} (h : WB D n x ρ H fun b H₁ => Q (!b) H₁) : WB D n (.not x) ρ H Q := by
  intro ex env A τ δ s t r S R
  · obtain ⟨_, _, rfl, te⟩ := t
    exact wpAny_isTrue_Not (h.bind te r S R fun b s' H' δ' S' P' R' q => ⟨H', δ', S', P', q⟩)
theorem wb_and_nil {Q : Bool → AH → Prop} (q : Q true H) : WB D n (.bop .And []) ρ H Q := by
  intro ex env A τ δ s t r S R
  · obtain ⟨_, _, rfl, ts⟩ := t
    cases ts; exact wpAny_isTrue_BoolOp (wpAny_allTrue_And_nil ⟨H, δ, S, .refl _ _ _, q⟩)
theorem wb_or_nil {Q : Bool → AH → Prop} (q : Q false H) : WB D n (.bop .Or []) ρ H Q := by
  intro ex env A τ δ s t r S R
  · obtain ⟨_, _, rfl, ts⟩ := t
    cases ts; exact wpAny_isTrue_BoolOp (wpAny_allTrue_Or_nil ⟨H, δ, S, .refl _ _ _, q⟩)
theorem wb_and {x : X} {xs : List X} {Q : Bool → AH → Prop} (h : WB D n x ρ H fun b H₁ => if b then WB D n (.bop .And xs) ρ H₁ Q else Q false H₁) : WB D n (.bop .And (x :: xs)) ρ H Q := by
  intro ex env A τ δ s t r S R
  · obtain ⟨_, p, rfl, ts⟩ := t
    · obtain ⟨e, es, rfl, te, ts⟩ := ts
      refine wpAny_isTrue_BoolOp ?_
      show wpAny _ A (do match BoolOp.And, ← isTrue e env (eval e env) with
        | .And, false => pure false
        | .Or, true => pure true
        | _, _ => allTrue .And es env) _ _ _
      refine wpAny_bind (h.bind te r S R fun b s' H' δ' S' P' R' q => ?_)
      cases b with
      | false => exact wpAny_pure ⟨H', δ', S', P', q⟩
      | true =>
        have := wpAny_mono (q (.BoolOp .And es p) env A τ δ' s' ⟨_, _, rfl, ts⟩ r S' R') (fun _ _ z => z.pre P') fun _ _ z => z
        exact this
theorem wb_or {x : X} {xs : List X} {Q : Bool → AH → Prop} (h : WB D n x ρ H fun b H₁ => if b then Q true H₁ else WB D n (.bop .Or xs) ρ H₁ Q) : WB D n (.bop .Or (x :: xs)) ρ H Q := by
  intro ex env A τ δ s t r S R
  · obtain ⟨_, p, rfl, ts⟩ := t
    · obtain ⟨e, es, rfl, te, ts⟩ := ts
      refine wpAny_isTrue_BoolOp ?_
      show wpAny _ A (do match BoolOp.Or, ← isTrue e env (eval e env) with
        | .And, false => pure false
        | .Or, true => pure true
        | _, _ => allTrue .Or es env) _ _ _
      refine wpAny_bind (h.bind te r S R fun b s' H' δ' S' P' R' q => ?_)
      cases b with
      | true => exact wpAny_pure ⟨H', δ', S', P', q⟩
      | false =>
        have := wpAny_mono (q (.BoolOp .Or es p) env A τ δ' s' ⟨_, _, rfl, ts⟩ r S' R') (fun _ _ z => z.pre P') fun _ _ z => z
        exact this
theorem we_ife {c a b : X} (h : WB D n c ρ H fun z H₁ => if z then WE D n a ρ H₁ Q else WE D n b ρ H₁ Q) : WE D n (.ife c a b) ρ H Q := by
  intro ex env A τ δ s t r S R
  · obtain ⟨_, _, _, _, rfl, tc, ta, tb⟩ := t
    refine wpAny_IfExp (h.bind tc r S R fun z s' H' δ' S' P' R' q => ?_)
    cases z with
    | true => exact wpAny_mono (q _ env A τ δ' s' ta r S' R') (fun _ _ z => z.pre P') fun _ _ z => z
    | false => exact wpAny_mono (q _ env A τ δ' s' tb r S' R') (fun _ _ z => z.pre P') fun _ _ z => z
end




/-! what values say as data -/
noncomputable def NN : Nat := 95
theorem names_length : names.length = NN := by decide +kernel
theorem strOk_names : ∀ s ∈ names, (PyData.str s).canLay0 = true := by decide +kernel
theorem strOk_nm {k : Nat} (h : k < NN) : (PyData.str (nm k)).canLay0 = true := by
  unfold nm
  have : k < names.length := by rw [names_length]; exact h
  rw [List.getElem?_eq_getElem this]
  exact strOk_names _ (List.getElem_mem _)

noncomputable def dOfs (f : V → Option PyData) : List V → Option (List PyData)
  | [] => some []
  | x :: r => match f x, dOfs f r with
    | some d, some ds => some (d :: ds)
    | _, _ => none
noncomputable def dOf (H : AH) : Nat → V → Option PyData
  | 0, _ => none
  | n + 1, v => match v with
    | .none => some .none
    | .bool b => some (.bool b)
    | .int i => some (.int i)
    | .str k => if k < NN then some (.str (nm k)) else none
    | .tup xs => (dOfs (dOf H n) xs).map .tuple
    | .ref a => match H a with
      | some (.list xs) => (dOfs (dOf H n) xs).map .list
      | _ => none

theorem dOfs_reads {H : AH} {h : Heap} {ψ : Addr → Prop} {f : V → Option PyData} {n : Nat} (k : ∀ x d v, f x = some d → VR h ψ x v → (∃ as, Reads h v d as) ∧ d.canLay0 = true ∧ d.depth ≤ n) :
    ∀ {xs ds vs}, dOfs f xs = some ds → VRs h ψ xs vs → (∃ as, ReadsAll h vs ds as) ∧ PyData.canLayAll0 ds = true ∧ PyData.depthAll ds ≤ n
  | [], ds, vs, e, r => by cases r; cases e; exact ⟨⟨[], .nil⟩, rfl, Nat.zero_le _⟩
  | x :: xs, ds, vs, e, r => by
    cases r with
    | cons a r =>
      unfold dOfs at e
      cases e1 : f x with
      | none => rw [e1] at e; cases e
      | some d =>
        cases e2 : dOfs f xs with
        | none => rw [e1, e2] at e; cases e
        | some ds' =>
          rw [e1, e2] at e; cases e
          obtain ⟨⟨as, h1⟩, h2, h3⟩ := k _ _ _ e1 a
          obtain ⟨⟨bs, g1⟩, g2, g3⟩ := dOfs_reads (H := H) k e2 r
          refine ⟨⟨_, .cons h1 g1⟩, ?_, ?_⟩
          · show (d.canLay0 && PyData.canLayAll0 ds') = true; rw [h2, g2]; rfl
          · show max d.depth (PyData.depthAll ds') ≤ n; exact Nat.max_le.mpr ⟨h3, g3⟩
theorem dOf_reads {D : Amb} {τ : Addr → Prop} {δ : Addr → Addr} {s : Shared} {H : AH} (S : St D τ δ s H) : ∀ (n : Nat) (x : V) (d : PyData) (v : Value), dOf H n x = some d → VR s.heap (psi τ δ H) x v →
    (∃ as, Reads s.heap v d as) ∧ d.canLay0 = true ∧ d.depth ≤ n
  | 0, _, _, _, e, _ => by cases e
  | n + 1, x, d, v, e, r => by
    cases r with
    | none => cases e; exact ⟨⟨[], .none⟩, rfl, Nat.zero_le _⟩
    | bool b => cases e; exact ⟨⟨[], .bool b⟩, rfl, Nat.zero_le _⟩
    | int i t => cases e; exact ⟨⟨[], .int i t⟩, rfl, Nat.zero_le _⟩
    | str k t =>
      simp only [dOf] at e
      split at e
      · rename_i hk; cases e; exact ⟨⟨[], .str _ t⟩, strOk_nm hk, Nat.zero_le _⟩
      · cases e
    | ref a =>
      unfold dOf at e
      dsimp only at e
      split at e
      · rename_i xs hx
        cases e2 : dOfs (dOf H n) xs with
        | none => rw [e2] at e; cases e
        | some ds =>
          rw [e2] at e; cases e
          obtain ⟨items, m, h1, h2⟩ := S.objs _ _ hx
          obtain ⟨⟨as, g1⟩, g2, g3⟩ := dOfs_reads (H := H) (dOf_reads S n) e2 h2
          exact ⟨⟨_, .list h1 rfl rfl g1⟩, g2, Nat.succ_le_succ g3⟩
      · cases e
    | tup h1 h2 h3 =>
      rename_i xs a m items
      unfold dOf at e
      dsimp only at e
      cases e2 : dOfs (dOf H n) xs with
      | none => rw [e2] at e; cases e
      | some ds =>
        rw [e2] at e; cases e
        obtain ⟨⟨as, g1⟩, g2, g3⟩ := dOfs_reads (H := H) (dOf_reads S n) e2 h3
        exact ⟨⟨_, .tuple h1 rfl rfl g1⟩, g2, Nat.succ_le_succ g3⟩

/-! operators by values -/
noncomputable def V.asInt : V → Option Int
  | .none => Option.none | .bool _ => Option.none | .int z => some z | .str _ => Option.none | .ref _ => Option.none | .tup _ => Option.none
noncomputable def V.asStr : V → Option Nat
  | .none => Option.none | .bool _ => Option.none | .int _ => Option.none | .str z => some z | .ref _ => Option.none | .tup _ => Option.none
noncomputable def V.asRef : V → Option Addr
  | .none => Option.none | .bool _ => Option.none | .int _ => Option.none | .str _ => Option.none | .ref z => some z | .tup _ => Option.none
noncomputable def V.asTup : V → Option (List V)
  | .none => Option.none | .bool _ => Option.none | .int _ => Option.none | .str _ => Option.none | .ref _ => Option.none | .tup z => some z
noncomputable def V.asBool : V → Option Bool
  | .none => Option.none | .bool z => some z | .int _ => Option.none | .str _ => Option.none | .ref _ => Option.none | .tup _ => Option.none
noncomputable def V.isN : V → Bool
  | .none => true | .bool _ => false | .int _ => false | .str _ => false | .ref _ => false | .tup _ => false
noncomputable def V.ka : V → Option KA
  | .none => Option.none | .bool _ => Option.none | .int z => some (.i z) | .str z => some (.s z) | .ref _ => Option.none | .tup _ => Option.none
@[simp] theorem asInt_int (z : Int) : (V.int z).asInt = some z := rfl
@[simp] theorem asStr_str (z : Nat) : (V.str z).asStr = some z := rfl
@[simp] theorem asRef_ref (z : Addr) : (V.ref z).asRef = some z := rfl
@[simp] theorem asTup_tup (z : List V) : (V.tup z).asTup = some z := rfl
@[simp] theorem asBool_bool (z : Bool) : (V.bool z).asBool = some z := rfl
@[simp] theorem isN_none : V.none.isN = true := rfl
@[simp] theorem isN_bool (z : Bool) : (V.bool z).isN = false := rfl
@[simp] theorem isN_int (z : Int) : (V.int z).isN = false := rfl
@[simp] theorem isN_str (z : Nat) : (V.str z).isN = false := rfl
@[simp] theorem isN_ref (z : Addr) : (V.ref z).isN = false := rfl
@[simp] theorem isN_tup (z : List V) : (V.tup z).isN = false := rfl
theorem V.asInt_eq {x : V} {z : Int} (h : x.asInt = some z) : x = .int z := by cases x <;> cases h; rfl
theorem V.asStr_eq {x : V} {z : Nat} (h : x.asStr = some z) : x = .str z := by cases x <;> cases h; rfl
theorem V.asRef_eq {x : V} {z : Addr} (h : x.asRef = some z) : x = .ref z := by cases x <;> cases h; rfl
theorem V.asTup_eq {x : V} {z : List V} (h : x.asTup = some z) : x = .tup z := by cases x <;> cases h; rfl
theorem V.asBool_eq {x : V} {z : Bool} (h : x.asBool = some z) : x = .bool z := by cases x <;> cases h; rfl
theorem V.isN_eq {x : V} (h : x.isN = true) : x = .none := by cases x <;> cases h; rfl
theorem bsome {α β : Type} {o : Option α} {f : α → Option β} {z : β} (h : o.bind f = some z) : ∃ x, o = some x ∧ f x = some z := Option.bind_eq_some_iff.mp h
theorem msome {α β : Type} {o : Option α} {f : α → β} {z : β} (h : o.map f = some z) : ∃ x, o = some x ∧ f x = z := Option.map_eq_some_iff.mp h
theorem isome {α : Type} {c : Prop} [Decidable c] {x z : α} (h : (if c then some x else none) = some z) : c ∧ x = z := by
  by_cases e : c
  · rw [if_pos e] at h; exact ⟨e, Option.some.inj h⟩
  · rw [if_neg e] at h; cases h
noncomputable def binI (op : Operator) (a b : Int) : Option V := match op with
  | .Add => some (.int (a + b))
  | .Sub => some (.int (a - b))
  | .Mult => if Builtin.Int.intBits b ≤ 64 then some (.int (a * b)) else none
  | .Mod => if 0 < b then some (.int (a % b)) else none
  | .FloorDiv => if 0 < b ∧ b < 1000000 then some (.int (a / b)) else none
  | .MatMult => none | .Div => none | .Pow => none | .LShift => none | .RShift => none | .BitOr => none | .BitXor => none | .BitAnd => none
@[simp] theorem binI_add (a b : Int) : binI .Add a b = some (.int (a + b)) := rfl
@[simp] theorem binI_sub (a b : Int) : binI .Sub a b = some (.int (a - b)) := rfl
@[simp] theorem binI_mult (a b : Int) : binI .Mult a b = if Builtin.Int.intBits b ≤ 64 then some (.int (a * b)) else none := rfl
@[simp] theorem binI_mod (a b : Int) : binI .Mod a b = if 0 < b then some (.int (a % b)) else none := rfl
@[simp] theorem binI_div (a b : Int) : binI .FloorDiv a b = if 0 < b ∧ b < 1000000 then some (.int (a / b)) else none := rfl
noncomputable def binV (op : Operator) (x y : V) : Option V := x.asInt.bind fun a => y.asInt.bind fun b => binI op a b
noncomputable def kaOf : List V → Option (List KA)
  | [] => some []
  | x :: r => x.ka.bind fun k => (kaOf r).map (k :: ·)
noncomputable def hasO (x : V) (o : O) : Option Bool := match o with
  | .list _ => none
  | .sd _ => none
  | .nd kvs => x.asInt.map fun z => (dget kvs z).isSome
  | .td kvs => x.asTup.bind fun ks => (kaOf ks).map fun k => (dget kvs k).isSome
  | .inst _ _ => none
noncomputable def hasV (H : AH) (x y : V) : Option Bool := y.asRef.bind fun a => (H a).bind (hasO x)
noncomputable def cmpV (H : AH) (op : CmpOp) (x y : V) : Option Bool := match op with
  | .Lt => x.asInt.bind fun a => y.asInt.map fun b => decide (a < b)
  | .LtE => x.asInt.bind fun a => y.asInt.map fun b => decide (a ≤ b)
  | .Gt => x.asInt.bind fun a => y.asInt.map fun b => decide (b < a)
  | .GtE => x.asInt.bind fun a => y.asInt.map fun b => decide (b ≤ a)
  | .Is => if y.isN = true then some x.isN else none
  | .IsNot => if y.isN = true then some (!x.isN) else none
  | .In => hasV H x y
  | .NotIn => (hasV H x y).map (! ·)
  | .Eq => (dOf H 5 x).bind fun d => (dOf H 5 y).map fun e => PyData.eqv d e
  | .NotEq => (dOf H 5 x).bind fun d => (dOf H 5 y).map fun e => !PyData.eqv d e

section
variable {D : Amb} {n : Nat} {ρ : Loc} {H : AH} {A : Around} {τ : Addr → Prop} {δ : Addr → Addr} {s : Shared}
theorem kaOf_items {h : Heap} {ψ : Addr → Prop} : ∀ {ks k vs}, kaOf ks = some k → VRs h ψ ks vs → ItemsAre (kaKind D.prog D.w) k vs
  | [], k, vs, e, r => by cases r; cases e; exact .nil
  | x :: ks, k, vs, e, r => by
    cases r with
    | cons a r =>
      obtain ⟨k0, e1, e⟩ := bsome e
      obtain ⟨k', e2, rfl⟩ := msome e
      cases a with
      | int i t => cases e1; exact .cons (beq_self_eq_true _) (kaOf_items e2 r)
      | str i t => cases e1; exact .cons (beq_self_eq_true _) (kaOf_items e2 r)
      | none => cases e1
      | bool b => cases e1
      | ref a => cases e1
      | tup _ _ _ => cases e1
theorem key_of {h : Heap} {ψ : Addr → Prop} {ks : List V} {k : List KA} {v : Value} (e : kaOf ks = some k) (r : VR h ψ (.tup ks) v) :
    ∃ a items m, v = .ref a ∧ h.get? a = some (tupObj items m) ∧ ¬ ψ a ∧ IsTupleKey (kaKind D.prog D.w) h k a := by
  cases r with
  | tup h1 h2 h3 => exact ⟨_, _, _, rfl, h1, h2, _, _, _, h1, rfl, rfl, kaOf_items e h3⟩

theorem bin_ok {op : Operator} {x y z : V} {v u : Value} (e : binV op x y = some z) (hv : VR s.heap (psi τ δ H) x v) (hu : VR s.heap (psi τ δ H) y u) {Q : Value → Shared → Prop}
    (k : ∀ r, VR s.heap (psi τ δ H) z r → Q r { s with toks := s.toks + 1 }) : wpAny (model D.prog D.w) A (binaryOp op v u) Q NoE s := by
  obtain ⟨a, h1, e⟩ := bsome e
  obtain ⟨b, h2, e⟩ := bsome e
  cases V.asInt_eq h1; cases V.asInt_eq h2; cases hv; cases hu
  cases op with
  | Add => cases e; exact PyProof.Rows.add_int (k _ (.int _ _))
  | Sub => cases e; exact PyProof.Rows.sub_int (k _ (.int _ _))
  | Mult =>
    obtain ⟨hb, rfl⟩ := isome e
    exact PyProof.Rows.mul_int (k _ (.int _ _)) (IntMulOk.of_right hb)
  | Mod =>
    obtain ⟨hb, rfl⟩ := isome e
    refine PyProof.Rows.mod_int (by omega) ?_
    rw [Int.fmod_eq_emod_of_nonneg _ (by omega)]; exact k _ (.int _ _)
  | FloorDiv =>
    obtain ⟨hb, rfl⟩ := isome e
    refine PyProof.Rows.floordiv_int (by omega) ?_ (.inl (PyProof.noPylong_small (by omega)))
    rw [Int.fdiv_eq_ediv_of_nonneg _ (by omega)]; exact k _ (.int _ _)
  | _ => cases e
theorem in_inv {a b : Value} {Q : Bool → Shared → Prop} (h : wpAny (model D.prog D.w) A (compareOp .In a b) (fun v s' => ∀ c, v = .bool c → Q c s') NoE s) : wpAny (model D.prog D.w) A (contains b a) Q NoE s := by
  intro Γ p hΓ
  have := h Γ p hΓ
  change Sem.wp (model D.prog D.w) Γ (contains b a >>= fun c => pure (Value.bool c)) _ _ p s at this
  rw [Sem.wp_bind'] at this
  exact Sem.wp_mono _ Γ _ (fun c p' s' z => z c rfl) (fun _ _ _ z => z) p s this
theorem notIn_of {a b : Value} {Q : Bool → Shared → Prop} (h : wpAny (model D.prog D.w) A (compareOp .In a b) (fun v s' => ∀ c, v = .bool c → Q c s') NoE s) :
    wpAny (model D.prog D.w) A (compareOp .NotIn a b) (fun v s' => ∃ c, v = .bool (!c) ∧ Q c s') NoE s := by
  show wpAny _ _ (contains b a >>= fun c => pure (Value.bool (!c))) _ _ _
  exact wpAny_bind (wpAny_mono (in_inv h) (fun c s' z => wpAny_pure ⟨c, rfl, z⟩) fun _ _ z => z)
theorem not_sys (S : St D τ δ s H) {a : Addr} (f : foot δ H a) : (a == sysModules) = false := by
  refine beq_eq_false_iff_ne.mpr fun e => ?_
  obtain ⟨o, ho⟩ := D.sm
  have := S.apart a f
  rw [e, ho] at this; cases this
theorem dget_map_nm (kvs : List (Nat × V)) (k : Nat) : dget (kvs.map fun p => (nm p.1, p.2)) (nm k) = dget kvs k := by
  unfold dget
  induction kvs with
  | nil => rfl
  | cons p r ih =>
    simp only [List.map_cons, List.find?_cons]
    by_cases e : p.1 = k
    · simp [e]
    · have : ¬ nm p.1 = nm k := fun q => e (nm_inj q)
      simp only [e, this, decide_false]; exact ih
theorem PR.getSome {K : Type} [DecidableEq K] {h : Heap} {ψ : Addr → Prop} {k : K} {a : List (K × V)} {b x} (p : PR h ψ a b) (e : dget a k = some x) : ∃ v, dget b k = some v ∧ VR h ψ x v := by
  rcases p.get k with ⟨x', v, h1, h2, h3⟩ | ⟨h1, h2⟩
  · rw [e] at h1; cases h1; exact ⟨v, h2, h3⟩
  · rw [e] at h1; cases h1
theorem PR.isSome {K : Type} [DecidableEq K] {h : Heap} {ψ : Addr → Prop} (k : K) {a : List (K × V)} {b} (p : PR h ψ a b) : (dget b k).isSome = (dget a k).isSome := by
  rcases p.get k with ⟨x', v, h1, h2, h3⟩ | ⟨h1, h2⟩
  · rw [h1, h2]; rfl
  · rw [h1, h2]; rfl
theorem atKey_dget {K : Type} [DecidableEq K] (xs : List (K × Addr × Value)) (k : K) : (atKey xs k).map (·.2) = dget (xs.map fun x => (x.1, x.2.2)) k := by
  unfold atKey dget
  induction xs with
  | nil => rfl
  | cons x r ih =>
    simp only [List.map_cons, List.find?_cons]
    by_cases e : x.1 = k
    · simp [e]
    · simp only [e, decide_false]; exact ih
theorem in_ok {x y : V} {z : Bool} {v u : Value} (S : St D τ δ s H) (r : Room A n) (e : hasV H x y = some z) (hv : VR s.heap (psi τ δ H) x v) (hu : VR s.heap (psi τ δ H) y u) {Q : Value → Shared → Prop}
    (k : ∀ tk, Q (.bool z) { s with toks := tk }) : wpAny (model D.prog D.w) A (compareOp .In v u) Q NoE s := by
  obtain ⟨a, e1, e⟩ := bsome e
  obtain ⟨ob, hH, e⟩ := bsome e
  cases V.asRef_eq e1; cases hu
  cases ob with
  | nd kvs =>
    obtain ⟨i, e2, rfl⟩ := msome e
    cases V.asInt_eq e2; cases hv
    obtain ⟨l, h1, h2⟩ := S.objs _ _ hH
    refine wpAny_in_of (knd := intKind D.prog D.w) (k := i) (by simp [intKind, Value.isInt]) (not_sys S (foot_of hH)) h1.mapOf ?_
    have : (valueAt l i).isSome = (dget kvs i).isSome := h2.isSome i
    rw [this]; exact k _
  | td kvs =>
    obtain ⟨ks, e2, e⟩ := bsome e
    obtain ⟨kk, hk, rfl⟩ := msome e
    cases V.asTup_eq e2
    obtain ⟨b, items, m, rfl, g1, g2, g3⟩ := key_of (D := D) hk hv
    obtain ⟨xs, h1, h2, h3⟩ := S.objs _ _ hH
    refine wpAny_in_heap (knd := tupleKind (kaKind D.prog D.w)) (tupleKind_room_in1 (by have := r.2.1; unfold cLine; omega)) g3 (not_sys S (foot_of hH)) h1 ?_
    have : (atKey xs kk).isSome = (dget kvs kk).isSome := by
      rw [← h2.isSome kk, ← atKey_dget]; simp
    rw [this]; exact k _
  | _ => cases e
theorem ints_of {x y : V} {z : Bool} {f : Int → Int → Bool} (e : (x.asInt.bind fun a => y.asInt.map fun b => f a b) = some z) : ∃ a b, x = .int a ∧ y = .int b ∧ f a b = z := by
  obtain ⟨a, h1, e⟩ := bsome e
  obtain ⟨b, h2, e⟩ := msome e
  exact ⟨a, b, V.asInt_eq h1, V.asInt_eq h2, e⟩
theorem cmp_ok {op : CmpOp} {x y : V} {z : Bool} {v u : Value} (S : St D τ δ s H) (r : Room A n) (e : cmpV H op x y = some z) (hv : VR s.heap (psi τ δ H) x v) (hu : VR s.heap (psi τ δ H) y u) {Q : Value → Shared → Prop}
    (k : ∀ tk, Q (.bool z) { s with toks := tk }) : wpAny (model D.prog D.w) A (compareOp op v u) Q NoE s := by
  cases op with
  | Lt => obtain ⟨a, b, rfl, rfl, rfl⟩ := ints_of e; cases hv; cases hu; exact PyProof.Rows.lt_int (k s.toks)
  | LtE => obtain ⟨a, b, rfl, rfl, rfl⟩ := ints_of e; cases hv; cases hu; exact PyProof.Rows.le_int (k s.toks)
  | Gt => obtain ⟨a, b, rfl, rfl, rfl⟩ := ints_of e; cases hv; cases hu; exact PyProof.Rows.gt_int (k s.toks)
  | GtE => obtain ⟨a, b, rfl, rfl, rfl⟩ := ints_of e; cases hv; cases hu; exact PyProof.Rows.ge_int (k s.toks)
  | Is =>
    obtain ⟨e1, rfl⟩ := isome e
    cases V.isN_eq e1; cases hu; refine is_none_gen ?_
    cases hv <;> exact k s.toks
  | IsNot =>
    obtain ⟨e1, rfl⟩ := isome e
    cases V.isN_eq e1; cases hu; refine isnot_none_gen ?_
    cases hv <;> exact k s.toks
  | In => exact in_ok S r e hv hu k
  | NotIn =>
    obtain ⟨c, e1, rfl⟩ := msome e
    refine wpAny_mono (notIn_of (Q := fun b s' => b = c ∧ ∃ tk, s' = { s with toks := tk }) (in_ok S r e1 hv hu fun tk b q => by cases q; exact ⟨rfl, tk, rfl⟩)) (fun v s' ⟨b, hb, hc, tk, hs⟩ => ?_) fun _ _ z => z
    subst hb hc hs; exact k tk
  | Eq =>
    obtain ⟨d, h1, e⟩ := bsome e
    obtain ⟨d', h2, rfl⟩ := msome e
    obtain ⟨⟨as, g1⟩, g2, g3⟩ := dOf_reads S 5 _ _ _ h1 hv
    obtain ⟨⟨bs, f1⟩, f2, f3⟩ := dOf_reads S 5 _ _ _ h2 hu
    exact SeqAt.compareEq_reads g1 f1 g2 f2 (by have := r.2.1; have := Nat.min_le_left d.depth d'.depth; unfold cLine; omega) (k s.toks)
  | NotEq =>
    obtain ⟨d, h1, e⟩ := bsome e
    obtain ⟨d', h2, rfl⟩ := msome e
    obtain ⟨⟨as, g1⟩, g2, g3⟩ := dOf_reads S 5 _ _ _ h1 hv
    obtain ⟨⟨bs, f1⟩, f2, f3⟩ := dOf_reads S 5 _ _ _ h2 hu
    exact SeqAt.compareNe_reads g1 f1 g2 f2 (by have := r.2.1; have := Nat.min_le_left d.depth d'.depth; unfold cLine; omega) (k s.toks)
end

section
variable {D : Amb} {n : Nat} {ρ : Loc} {H : AH} {Q : V → AH → Prop}
theorem we_bin {op : Operator} {a b : X} (h : WE D n a ρ H fun x H₁ => WE D n b ρ H₁ fun y H₂ => OpP (binV op x y) fun z => Q z H₂) : WE D n (.bin op a b) ρ H Q := by
  intro ex env A τ δ s t r S R
  · obtain ⟨_, _, _, rfl, ta, tb⟩ := t
    refine wpAny_BinOp (h.bind ta r S R fun v s' x H' δ' S' P' R' c q => ?_)
    refine q.bind tb r S' R' fun u s'' y H'' δ'' S'' P'' R'' c' ⟨z, e, q'⟩ => ?_
    exact bin_ok e (c.mono P''.tm) c' fun r hr => ⟨z, H'', δ'', S''.toks _, P'.trans P'', hr, q'⟩
theorem we_cmp {op : CmpOp} {a b : X} (h : WE D n a ρ H fun x H₁ => WE D n b ρ H₁ fun y H₂ => OpP (cmpV H₂ op x y) fun z => Q (.bool z) H₂) : WE D n (.cmp op a b) ρ H Q := by
  intro ex env A τ δ s t r S R
  · obtain ⟨_, _, _, rfl, hm, ta, tb⟩ := t
    refine wpAny_Compare1 (hm := hm) (h.bind ta r S R fun v s' x H' δ' S' P' R' c q => ?_)
    refine q.bind tb r S' R' fun u s'' y H'' δ'' S'' P'' R'' c' ⟨z, e, q'⟩ => ?_
    exact cmp_ok S'' r e (c.mono P''.tm) c' fun tk => ⟨.bool z, H'', δ'', S''.toks _, P'.trans P'', .bool _, q'⟩
theorem wb_cmp {op : CmpOp} {a b : X} {Q : Bool → AH → Prop} (h : WE D n a ρ H fun x H₁ => WE D n b ρ H₁ fun y H₂ => OpP (cmpV H₂ op x y) fun z => Q z H₂) : WB D n (.cmp op a b) ρ H Q := by
  intro ex env A τ δ s t r S R
  · obtain ⟨_, _, _, rfl, hm, ta, tb⟩ := t
    refine wpAny_isTrue_Compare1 (hm := hm) (h.bind ta r S R fun v s' x H' δ' S' P' R' c q => ?_)
    refine q.bind tb r S' R' fun u s'' y H'' δ'' S'' P'' R'' c' ⟨z, e, q'⟩ => ?_
    exact cmp_ok S'' r e (c.mono P''.tm) c' fun tk => wpAny_truthy_bool ⟨H'', δ'', S''.toks _, P'.trans P'', q'⟩
theorem we_or2 {a b : X} (h : WE D n a ρ H fun x H₁ => ∃ c, x = .bool c ∧ if c then Q (.bool true) H₁ else WE D n b ρ H₁ Q) : WE D n (.bop .Or [a, b]) ρ H Q := by
  intro ex env A τ δ s t r S R
  · obtain ⟨_, _, rfl, ts⟩ := t
    · obtain ⟨_, _, rfl, ta, ts⟩ := ts
      · obtain ⟨_, _, rfl, tb, ts⟩ := ts
        cases ts
        refine wpAny_Or2 (h.bind ta r S R fun v s' x H' δ' S' P' R' c q => ?_)
        obtain ⟨z, rfl, q⟩ := q
        cases c
        cases z with
        | true => exact wpAny_truthy_bool ⟨_, H', δ', S', P', .bool _, q⟩
        | false => exact wpAny_truthy_bool (wpAny_mono (q _ env A τ δ' s' tb r S' R') (fun _ _ z => z.pre P') fun _ _ z => z)
end




noncomputable def AttrOk (K : Frag) (C : Addr) (i : Nat) : Prop := plainGet K C (nm i) = true ∧ hasDictIn K C = true ∧ findIn K (.ref C) (nm i) = some none
noncomputable def MethOk (K : Frag) (C : Addr) (i : Nat) (f : Addr) : Prop := plainGet K C (nm i) = true ∧ findIn K (.ref C) (nm i) = some (some (.ref f)) ∧ isFn K (.ref f) = true ∧ keepIn K (.ref f) = true
noncomputable def sget (xs : List V) (z : Int) : Option V := if z = -1 then xs.getLast? else if 0 ≤ z ∧ z < 1000000 then xs[z.toNat]? else none
noncomputable def itemO (o : O) (k : V) : Option V := match o with
  | .list xs => k.asInt.bind (sget xs)
  | .sd kvs => k.asStr.bind (dget kvs)
  | .nd kvs => k.asInt.bind (dget kvs)
  | .td kvs => k.asTup.bind fun ks => (kaOf ks).bind (dget kvs)
  | .inst _ _ => none
noncomputable def itemV (H : AH) (x k : V) : Option V := match x with
  | .none => none
  | .bool _ => none
  | .int _ => none
  | .str _ => none
  | .ref a => (H a).bind fun o => itemO o k
  | .tup xs => k.asInt.bind (sget xs)

section
variable {D : Amb} {n : Nat} {ρ : Loc} {H : AH} {Q : V → AH → Prop} {A : Around} {τ : Addr → Prop} {δ : Addr → Addr} {s : Shared}

theorem VR.handed {h : Heap} {ψ : Addr → Prop} {x : V} {v : Value} (r : VR h ψ x v) : handedIn v = true := by cases r <;> rfl
theorem St.kin (S : St D τ δ s H) : D.K.In s.heap := D.kin.keeps S.base
theorem St.inst (S : St D τ δ s H) {a C : Addr} {fs : List (Nat × V)} (e : H a = some (.inst C fs)) :
    ∃ es m, InstAt s.heap a (instObj C (δ a)) C (some (dictOf es m)) ∧ s.heap.get? (δ a) = some (dictOf es m) ∧ FR s.heap (psi τ δ H) fs es := by
  obtain ⟨h1, es, m, h2, h3⟩ := S.objs _ _ e
  exact ⟨es, m, ⟨h1, rfl, rfl, h2⟩, h2, h3⟩

theorem we_attr {e : X} {i : Nat} (h : WE D n e ρ H fun x H₁ => ∃ a C fs v, x = .ref a ∧ H₁ a = some (.inst C fs) ∧ AttrOk D.K C i ∧ dget fs i = some v ∧ Q v H₁) : WE D n (.attr e i) ρ H Q := by
  intro ex env A τ δ s t r S R
  · obtain ⟨e', p, rfl, hb, te⟩ := t
    have he : eval (.Attribute e' (nm i) p) env = (do
      let o ← eval e' env
      standAt p.atName
      let r ← holding [o] (getAttr o (nm i) true)
      letTemporaryGo e' o r
      pure r) := by
      show (do
        let o ← attributeBase e' (nm i) env (eval e' env)
        standAt p.atName
        let r ← holding [o] (getAttr o (nm i) true)
        letTemporaryGo e' o r
        pure r) = _
      rw [hb]
    refine Attribute_any_ (he := he) (h.bind te r S R fun v s' x H' δ' S' P' R' c q => ?_)
    obtain ⟨a, C, fs, w, rfl, hH, ⟨k1, k2, k3⟩, hg, q⟩ := q
    cases c
    obtain ⟨es, m, I, hd, F⟩ := S'.inst hH
    obtain ⟨u, hu, hv⟩ := F.look hg
    refine get_value S'.kin I (plainGet_of k1).1 (findObj_own k2 k3 (by rfl) ?_) hv.handed ?_
    · rw [lookIn_dict]; exact hu
    · exact ⟨w, H', δ', S'.toks _, P', hv, q⟩

theorem sub_plain {sc : Scope} {e : Expr} {x : X} (t : T sc e x) (o i : Value) : subscripted e false o i = operate [o, i] (getItem o i) := t.plain.sub o i
theorem sget_at {h : Heap} {ψ : Addr → Prop} {xs : List V} {vs : List Value} {z : Int} {x : V} (e : sget xs z = some x) (r : VRs h ψ xs vs) :
    ∃ (j : Nat) (v : Value), vs[j]? = some v ∧ VR h ψ x v ∧ ((z = -1 ∧ j + 1 = vs.length) ∨ (0 ≤ z ∧ z < 1000000 ∧ j = z.toNat)) := by
  unfold sget at e
  split at e
  · rename_i hz
    rw [List.getLast?_eq_getElem?] at e
    obtain ⟨v, h1, h2⟩ := r.get e
    refine ⟨_, v, h1, h2, .inl ⟨hz, ?_⟩⟩
    have := (List.getElem?_eq_some_iff.mp e).1
    rw [← r.length]; omega
  · split at e
    · rename_i hz
      obtain ⟨v, h1, h2⟩ := r.get e
      exact ⟨_, v, h1, h2, .inr ⟨hz.1, hz.2, rfl⟩⟩
    · cases e
theorem item_ok {value slice : Expr} {sc : Scope} {y : X} (t : T sc slice y) {x k z : V} {o i : Value} (S : St D τ δ s H) (r : Room A n) (e : itemV H x k = some z) (ho : VR s.heap (psi τ δ H) x o) (hi : VR s.heap (psi τ δ H) k i)
    {P : Value → Shared → Prop} (go : ∀ v tk, VR s.heap (psi τ δ H) z v → P v { s with toks := tk }) : wpAny (model D.prog D.w) A (subscriptTail value slice o i) P NoE s := by
  cases ho with
  | none => cases e
  | bool _ => cases e
  | int _ _ => cases e
  | str _ _ => cases e
  | tup h1 h2 h3 =>
    rename_i xs a m items
    obtain ⟨zz, e1, e0⟩ := bsome e
    cases V.asInt_eq e1
    cases hi
    obtain ⟨j, v, g1, g2, g3⟩ := sget_at e0 h3
    have hT : IsTup s.heap a items.toList.toArray := ⟨_, h1, rfl, m, by rw [Array.toArray_toList]⟩
    refine tail_any hT.typeIs slot_tuple_getitem.lookup (PyProof.Rows.getItem_tuple hT (by omega) (by omega) (j := j) ?_ (by simpa using g1) (go v s.toks g2)) (sub_plain t _ _)
    have hj := (List.getElem?_eq_some_iff.mp g1).1
    simp only [Array.length_toList] at hj g3
    unfold seqIndex?
    rcases g3 with ⟨rfl, g3⟩ | ⟨g3, _, rfl⟩
    · simp; omega
    · simp; omega
  | ref a =>
    obtain ⟨ob, hH, e⟩ := bsome e
    cases ob with
    | inst _ _ => cases e
    | list xs =>
      obtain ⟨zz, e1, e0⟩ := bsome e
      cases V.asInt_eq e1
      cases hi
      obtain ⟨items, m, h1, h2⟩ := S.objs _ _ hH
      obtain ⟨j, v, g1, g2, g3⟩ := sget_at e0 h2
      have hl : s.heap.IsList a items := ⟨_, h1, rfl, m, rfl⟩
      have hj := (List.getElem?_eq_some_iff.mp g1).1
      simp only [Array.length_toList] at hj g3
      rcases g3 with ⟨rfl, g3⟩ | ⟨g3, g4, rfl⟩
      · refine tail_any hl.typeIs slot_list_getitem.lookup (wpAny_getItem_list_neg (x := v) hl (by omega) (by omega) (by omega) ?_ (go v s.toks g2)) (sub_plain t _ _)
        have : ((-1 : Int) + (items.size : Int)).toNat = j := by omega
        rw [this]; simpa using g1
      · exact tail_any hl.typeIs slot_list_getitem.lookup (wpAny_getItem_list (x := v) hl g3 (by omega) (by simpa using g1) (go v s.toks g2)) (sub_plain t _ _)
    | nd kvs =>
      obtain ⟨zz, e1, e0⟩ := bsome e
      cases V.asInt_eq e1
      cases hi
      obtain ⟨l, h1, h2⟩ := S.objs _ _ hH
      obtain ⟨v, g1, g2⟩ := h2.getSome e0
      exact tail_any h1.typeIs slot_dict_getitem.lookup (wpAny_getItem_of (knd := intKind D.prog D.w) (by simp [intKind, Value.isInt]) h1.mapOf g1 (go v _ g2)) (sub_plain t _ _)
    | sd kvs =>
      obtain ⟨kk, e1, e0⟩ := bsome e
      cases V.asStr_eq e1
      cases hi
      obtain ⟨l, h1, h2⟩ := S.objs _ _ hH
      rw [← dget_map_nm] at e0
      obtain ⟨v, g1, g2⟩ := h2.getSome e0
      exact tail_any h1.typeIs slot_dict_getitem.lookup (wpAny_getItem_of (knd := PySem.strKind D.prog D.w) (by simp [PySem.strKind, Value.isStrOf]) h1.mapOf g1 (go v _ g2)) (sub_plain t _ _)
    | td kvs =>
      obtain ⟨ks, e1, e0⟩ := bsome e
      obtain ⟨kk, hk, e0⟩ := bsome e0
      cases V.asTup_eq e1
      obtain ⟨b, items, m, rfl, g1, g2, g3⟩ := key_of (D := D) hk hi
      obtain ⟨xs, h1, h2, h3⟩ := S.objs _ _ hH
      obtain ⟨v, f1, f2⟩ := h2.getSome e0
      rw [← atKey_dget] at f1
      obtain ⟨p, f3, rfl⟩ := Option.map_eq_some_iff.mp f1
      exact tail_any h1.typeIs slot_dict_getitem.lookup (wpAny_getItem_heap (knd := tupleKind (kaKind D.prog D.w)) (tupleKind_room_in1 (by have := r.2.1; unfold cLine; omega)) g3 h1 f3 (go _ _ f2)) (sub_plain t _ _)
theorem we_item {e k : X} (h : WE D n e ρ H fun x H₁ => WE D n k ρ H₁ fun y H₂ => OpP (itemV H₂ x y) fun z => Q z H₂) : WE D n (.item e k) ρ H Q := by
  intro ex env A τ δ s t r S R
  · obtain ⟨_, _, _, rfl, te, tk⟩ := t
    refine Subscript_ (h.bind te r S R fun v s' x H' δ' S' P' R' c q => ?_)
    refine q.bind tk r S' R' fun u s'' y H'' δ'' S'' P'' R'' c' ⟨z, e, q'⟩ => ?_
    exact item_ok tk S'' r e (c.mono P''.tm) c' fun w tk' hw => ⟨z, H'', δ'', S''.toks _, P'.trans P'', hw, q'⟩

/-! new things -/
theorem St.fresh (S : St D τ δ s H) : s.heap.get? s.heap.objs.size = none ∧ D.base.get? s.heap.objs.size = none ∧ ¬ foot δ H s.heap.objs.size ∧ ¬ τ s.heap.objs.size ∧ H s.heap.objs.size = none := by
  have h1 : s.heap.get? s.heap.objs.size = none := by
    cases e : s.heap.get? s.heap.objs.size with
    | none => rfl
    | some o => exact absurd (Heap.lt_size e) (Nat.lt_irrefl _)
  have h3 : ¬ foot δ H s.heap.objs.size := fun f => absurd (S.lt f) (Nat.lt_irrefl _)
  refine ⟨h1, ?_, h3, fun t => ?_, ?_⟩
  · cases e : D.base.get? s.heap.objs.size with
    | none => rfl
    | some o => rw [S.base _ _ e] at h1; cases h1
  · obtain ⟨o, e⟩ := S.tl _ t; rw [e] at h1; cases h1
  · cases e : H s.heap.objs.size with
    | none => rfl
    | some o => exact absurd (foot_of e) h3
theorem push_keeps (h : Heap) (o : Obj) : ∀ b x, h.get? b = some x → (h.push o).get? b = some x := fun b x e => Heap.get?_push_of_some o e

theorem newTup_ok {xs : List V} {vs : List Value} (S : St D τ δ s H) (c : VRs s.heap (psi τ δ H) xs vs) (hl : xs.length ≤ 1000) {P : Value → Shared → Prop}
    (k : ∀ v s', St D τ δ s' H → Pres D (foot δ H) (foot δ H) s.heap s'.heap → VR s'.heap (psi τ δ H) (.tup xs) v → P v s') : wpAny (model D.prog D.w) A (newTuple vs) P NoE s := by
  refine wpAny_newObj_type (k _ _ (S.grow (tk := s.toks) (push_keeps _ _)) (Pres.grow (push_keeps _ _)) ?_) ?_
  · have f := S.fresh
    exact .tup (n := 0) (items := vs.toArray) (Heap.get?_push_size _ rfl) (fun q => q.elim f.2.2.1 f.2.2.2.1) (by rw [List.toList_toArray]; exact c.mono (TM.trans (TM.refl _ _) (Pres.tm (D := D) (Pres.grow (push_keeps _ _)))))
  · show vs.toArray.size ≤ sizeLine
    rw [List.size_toArray, ← c.length, sizeLine_eq]; omega
theorem we_tup {es : List X} (h : WEs D n es ρ H fun vs H₁ => vs.length ≤ 1000 ∧ Q (.tup vs) H₁) : WE D n (.tup es) ρ H Q := by
  intro ex env A τ δ s t r S R
  · obtain ⟨_, _, _, rfl, ts⟩ := t
    refine PyProof.Rows.Tuple_ (h.bind ts r S R fun vs s' xs H' δ' S' P' R' c ⟨hl, q⟩ => ?_)
    exact newTup_ok S' c hl fun v s'' S'' P'' c' => ⟨_, H', δ', S'', P'.trans P'', c', q⟩
theorem newLst_ok {xs : List V} {vs : List Value} (S : St D τ δ s H) (c : VRs s.heap (psi τ δ H) xs vs) (hl : xs.length ≤ 1000000) {P : Value → Shared → Prop}
    (k : ∀ a s', H a = none → St D τ δ s' (upd H a (.list xs)) → Pres D (foot δ H) (foot δ (upd H a (.list xs))) s.heap s'.heap → P (.ref a) s') : wpAny (model D.prog D.w) A (newList vs) P NoE s := by
  have f := S.fresh
  refine wpAny_newObj_type (k _ _ f.2.2.2.2 (S.new (tk := s.toks) rfl f.1 f.2.1 (push_keeps _ _) fun tm => ?_) (Pres.new S rfl f.1 (push_keeps _ _))) ?_
  · exact ⟨vs.toArray, 0, Heap.get?_push_size _ rfl, by rw [List.toList_toArray]; exact c.mono tm⟩
  · show vs.toArray.size ≤ sizeLine
    rw [List.size_toArray, ← c.length, sizeLine_eq]; omega
theorem we_list {es : List X} (h : WEs D n es ρ H fun vs H₁ => vs.length ≤ 1000 ∧ ∀ a, H₁ a = none → Q (.ref a) (upd H₁ a (.list vs))) : WE D n (.list es) ρ H Q := by
  intro ex env A τ δ s t r S R
  · obtain ⟨_, _, rfl, ts⟩ := t
    refine PyProof.Rows.List_ (h.bind ts r S R fun vs s' xs H' δ' S' P' R' c ⟨hl, q⟩ => ?_)
    exact newLst_ok S' c (by omega) fun a s'' ha S'' P'' => ⟨_, _, δ', S'', P'.trans P'', .ref a, q a ha⟩
noncomputable def O.isEmptyDict : O → Bool
  | .sd [] | .nd [] | .td [] => true
  | _ => false
theorem emptyDict_ok {o : O} (ho : o.isEmptyDict = true) (S : St D τ δ s H) {P : Value → Shared → Prop}
    (k : ∀ a s', H a = none → St D τ δ s' (upd H a o) → Pres D (foot δ H) (foot δ (upd H a o)) s.heap s'.heap → P (.ref a) s') :
    P (.ref s.heap.objs.size) { s with heap := s.heap.push { cls := .type "dict", data := .dict #[] } } := by
  have f := S.fresh
  have hi : o.isInst = false := by cases o <;> first | rfl | cases ho
  refine k _ _ f.2.2.2.2 (S.new (tk := s.toks) hi f.1 f.2.1 (push_keeps _ _) fun tm => ?_) (Pres.new S hi f.1 (push_keeps _ _))
  cases o with
  | sd kvs => cases kvs with
    | nil => exact ⟨[], Heap.DictOf.new _, .nil⟩
    | cons _ _ => cases ho
  | nd kvs => cases kvs with
    | nil => exact ⟨[], Heap.DictOf.new _, .nil⟩
    | cons _ _ => cases ho
  | td kvs => cases kvs with
    | nil => exact ⟨[], Heap.DictOfH.new _, .nil, fun _ h => nomatch h⟩
    | cons _ _ => cases ho
  | list _ => cases ho
  | inst _ _ => cases ho
theorem we_dict0 (o : O) (ho : o.isEmptyDict = true) (q : ∀ a, H a = none → Q (.ref a) (upd H a o)) : WE D n (.dict [] []) ρ H Q := by
  intro ex env A τ δ s t r S R
  · obtain ⟨_, _, _, rfl, tk, tv⟩ := t
    cases tk; cases tv
    refine wpAny_Dict_empty ?_
    exact emptyDict_ok ho S fun a s' ha S' P' => ⟨_, _, δ, S', P', .ref a, q a ha⟩
end




theorem Ts.noStar {sc : Scope} {env : Env} {pos : Pos} {es : List Expr} {xs : List X} (t : Ts sc es xs) : (backTo pos (starEach es env)).any (·.1) = false := by
  rw [t.star]
  induction es with
  | nil => rfl
  | cons e es ih => simp [backTo]
theorem Ts.allPlain {sc : Scope} {env : Env} {pos : Pos} {es : List Expr} {xs : List X} (t : Ts sc es xs) : (backTo pos (starEach es env)).all (fun x => !x.1) = true := by
  rw [t.star]
  induction es with
  | nil => rfl
  | cons e es ih => simp [backTo]

section
variable {D : Amb} {n : Nat} {ρ : Loc} {H : AH} {Q : V → AH → Prop} {A : Around} {τ : Addr → Prop} {δ : Addr → Addr} {s : Shared}

theorem args_ok {f : Value} {env : Env} {pos : Pos} {es : List Expr} {xs : List X} {Qs : List V → AH → Prop} {P : Args → Shared → Prop} (h : WEs D n xs ρ H Qs) (t : Ts env.scope es xs) (r : Room A n) (S : St D τ δ s H)
    (R : EnvR D env (foot δ H) (psi τ δ H) ρ s.heap)
    (k : ∀ v s' x H' δ', St D τ δ' s' H' → Pres D (foot δ H) (foot δ' H') s.heap s'.heap → EnvR D env (foot δ' H') (psi τ δ' H') ρ s'.heap → VRs s'.heap (psi τ δ' H') x v → Qs x H' → P ⟨v, []⟩ s') :
    wpAny (model D.prog D.w) A (evalArgs f true (backTo pos (starEach es env)) []) P NoE s := by
  have hh := h.bind (pos := pos) t r S R k
  cases xs with
  | nil =>
    cases t
    unfold evalArgs
    exact wpAny_bind (wpAny_mono hh (fun v s' z => by
      first
        | exact wpAny_pure z
        | exact wpAny_bind (wpAny_pure (wpAny_pure z))
        | exact wpAny_holding (wpAny_bind (wpAny_pure (wpAny_bind (wpAny_pure (wpAny_pure z)))))) fun _ _ z => z)
  | cons x xs =>
    obtain ⟨e, es, rfl, te, ts⟩ := t
    have hs : starEach (e :: es) env = (false, eval e env) :: starEach es env := te.star es env
    rw [hs] at hh ⊢
    exact evalArgs_plain hh

theorem meth_base {e : X} {m : Nat} {es : List X} {ex : Expr} {env : Env} (t : T env.scope ex (.meth e m es)) {P : Value → Shared → Prop}
    (h : ∀ o as pos, T env.scope o e → Ts env.scope as es → wpAny (model D.prog D.w) A (eval o env) (fun ov s₁ => ∀ pl, wpAny (model D.prog D.w) A (getMethod ov (nm m) pl) (fun fx s₂ =>
      wpAny (model D.prog D.w) A (callWith pos fx.1 fx.2 (backTo pos (starEach as env)) []) P NoE s₂) NoE s₁) NoE s) : wpAny (model D.prog D.w) A (eval ex env) P NoE s := by
  · obtain ⟨o, as, p, q, rfl, hline, hb, hlen, to, ts⟩ := t
    rw [arm_eval_Call, hb]
    refine wpAny_bind (wpAny_mono (h o as q to ts) (fun ov s₁ h₁ => ?_) fun _ _ e => e)
    refine wpAny_bind (wpAny_standAt ?_)
    have hform : methodCallForm (as.length + ([] : List Keyword).length) (backTo q (starEach as env)) (backToKw q (keywordEach [] env)) = true := by
      have hk : backToKw q (keywordEach [] env) = [] := rfl
      rw [hk]
      unfold methodCallForm
      have a1 := ts.allPlain (env := env) (pos := q)
      have a2 := of_decide_eq_true hlen
      first
        | (simp only [a1, Bool.true_and]; simp; omega)
        | (rw [a1]; simp; omega)
    have hpos : methodCallPos true o env p q = pure q := by unfold methodCallPos; simp [hline]
    unfold methodCall
    rw [hform]
    refine wpAny_bind (wpAny_holding (m := getMethod ov (nm m) _) (wpAny_mono (h₁ _) (fun fx s₂ h₂ => ?_) fun _ _ z => z))
    obtain ⟨f, first⟩ := fx
    exact wpAny_bind (wpAny_of_eq hpos h₂)

theorem bmeth {e : X} {m : Nat} {es : List X} {Tn id : String} (pa : PlainAttrs Tn) (slot : Slot Tn (nm m) id) (hty : typeOf (.builtin id) = pure (.type "method_descriptor"))
    (h : WE D n e ρ H fun x H₁ => ∃ a o, x = .ref a ∧ H₁ a = some o ∧ (∀ D τ δ s, St D τ δ s H₁ → s.TypeIs (.ref a) Tn ∧ ∃ ob, s.heap.get? a = some ob ∧ ob.dict = none) ∧ WEs D n es ρ H₁ fun vs H₂ =>
      ∀ A τ δ s vals, Room A n → St D τ δ s H₂ → VRs s.heap (psi τ δ H₂) vs vals → wpAny (model D.prog D.w) A (call (.builtin id) (.ref a :: vals)) (PE D τ (foot δ H₂) s.heap Q) NoE s) :
    WE D n (.meth e m es) ρ H Q := by
  intro ex env A τ δ s t r S R
  refine meth_base t fun o as pos to ts => ?_
  refine h.bind to r S R fun v s' x H' δ' S' P' R' c q => ?_
  obtain ⟨a, ob, rfl, hH, hT, q⟩ := q
  cases c
  intro pl
  obtain ⟨hT, od, hd1, hd2⟩ := hT _ _ _ _ S'
  refine getMethod_builtin hT pa slot hty (fun b e => by cases e; exact ⟨od, hd1, hd2⟩) ?_
  refine Calls.callWith_builtin ts.noStar (args_ok q ts r S' R' fun v s'' xs H'' δ'' S'' P'' R'' cs k => ?_)
  exact wpAny_mono (k A τ δ'' s'' v r S'' cs) (fun _ _ z => z.pre (P'.trans P'')) fun _ _ z => z
theorem list_is {H : AH} {a : Addr} {xs : List V} (e : H a = some (.list xs)) : ∀ (D : Amb) τ δ s, St D τ δ s H → s.TypeIs (.ref a) "list" ∧ ∃ ob, s.heap.get? a = some ob ∧ ob.dict = none := fun D τ δ s S => by
  obtain ⟨items, m, h1, h2⟩ := S.objs _ _ e
  exact ⟨⟨_, h1, rfl⟩, _, h1, rfl⟩
theorem dict_is {H : AH} {a : Addr} {o : O} (e : H a = some o) (hd : match o with | .sd _ | .nd _ | .td _ => True | _ => False) : ∀ (D : Amb) τ δ s, St D τ δ s H → s.TypeIs (.ref a) "dict" ∧ ∃ ob, s.heap.get? a = some ob ∧ ob.dict = none := fun D τ δ s S => by
  have := S.objs _ _ e
  cases o with
  | sd kvs => exact this.elim fun l h1 => ⟨h1.1.typeIs, h1.1.imp fun o q => q.elim fun _ q => q.elim fun _ q => ⟨q.1, q.2.1.2.1⟩⟩
  | nd kvs => exact this.elim fun l h1 => ⟨h1.1.typeIs, h1.1.imp fun o q => q.elim fun _ q => q.elim fun _ q => ⟨q.1, q.2.1.2.1⟩⟩
  | td kvs => exact this.elim fun l h1 => ⟨h1.1.typeIs, h1.1.imp fun o q => q.elim fun _ q => q.elim fun _ q => ⟨q.1, q.2.1.2.1⟩⟩
  | list _ => exact hd.elim
  | inst _ _ => exact hd.elim

theorem St.setList (S : St D τ δ s H) (hro : D.ro = false) {a : Addr} {xs ys : List V} (e : H a = some (.list xs)) {h' : Heap} {tk : Nat} (hk : Heap.SameBut a s.heap h') {items : Array Value} {m : Nat}
    (hn : h'.get? a = some (lstObj items m)) (c : TM s.heap (psi τ δ H) h' (psi τ δ H) → VRs h' (psi τ δ H) ys items.toList) :
    St D τ δ { s with heap := h', toks := tk } (upd H a (.list ys)) ∧ Pres D (foot δ H) (foot δ (upd H a (.list ys))) s.heap h' :=
  ⟨S.set (c := a) e rfl rfl (fun b x hb q => hk.extBut b x hb q) fun tm => ⟨items, m, hn, c tm⟩, Pres.set S hro (c := a) e rfl rfl fun b x hb q => hk.extBut b x hb q⟩

inductive AppQ (Q : V → AH → Prop) (a : Addr) (y : V) (H₂ : AH) : Prop
  | mk (ys : List V) : H₂ a = some (.list ys) → ys.length < 1000000 → Q .none (upd H₂ a (.list (ys ++ [y]))) → AppQ Q a y H₂
inductive AppP (D : Amb) (n : Nat) (x : X) (ρ : Loc) (Q : V → AH → Prop) (v : V) (H₁ : AH) : Prop
  | mk (a : Addr) (xs : List V) : v = .ref a → H₁ a = some (.list xs) → WE D n x ρ H₁ (AppQ Q a) → AppP D n x ρ Q v H₁
theorem we_append {e x : X} (hro : D.ro = false) (h : WE D n e ρ H (AppP D n x ρ Q)) :
    WE D n (.meth e 56 [x]) ρ H Q := by
  refine bmeth (m := 56) (id := "list.append") F.plainAttrs_list slot_list_append type_list_append (h.mono fun v H₁ ⟨a, xs, hv, hH, k⟩ => ⟨a, _, hv, hH, list_is hH, ?_⟩)
  refine wes_cons (k.mono fun y H₂ ⟨ys, hy, hl, q⟩ => wes_nil ?_)
  intro A τ δ s vals r S c
  cases c with
  | cons c cs =>
    cases cs
    obtain ⟨items, m, h1, h2⟩ := S.objs _ _ hy
    refine wpAny_list_append_plain ⟨m, h1⟩ (fun h' ⟨m', hl'⟩ hs => ?_) (by
      have := h2.length; rw [sizeLine_eq]; have e2 : items.toList.length = items.size := by simp
      omega)
    obtain ⟨S', P'⟩ := S.setList hro (tk := s.toks) hy hs hl' fun tm => by
      rw [Array.toList_push]; exact (h2.mono tm).append (.cons (c.mono tm) .nil)
    exact ⟨.none, _, δ, S', P', .none, q⟩
theorem we_reverse {e : X} (hro : D.ro = false) (h : WE D n e ρ H fun v H₁ => ∃ a xs, v = .ref a ∧ H₁ a = some (.list xs) ∧ xs.length < 1000000 ∧ Q .none (upd H₁ a (.list xs.reverse))) : WE D n (.meth e 57 []) ρ H Q := by
  refine bmeth (m := 57) (id := "list.reverse") F.plainAttrs_list F.slot_list_reverse F.type_list_reverse (h.mono fun v H₁ ⟨a, xs, hv, hH, hl, q⟩ => ⟨a, _, hv, hH, list_is hH, wes_nil ?_⟩)
  intro A τ δ s vals r S c
  cases c
  obtain ⟨items, m, h1, h2⟩ := S.objs _ _ hH
  have e2 : items.toList.length = items.size := by simp
  have hsz : items.size ≤ sizeLine := by have := h2.length; rw [sizeLine_eq]; omega
  refine call_meets F.slot_list_reverse ⟨_, h1, rfl⟩ F.entry_list_reverse (F.args_list_reverse_1 _) (PySem.AutoListH.list_reverse_list_0 a items m hsz) ⟨h1, ?_⟩
  obtain ⟨S', P'⟩ := S.setList hro (tk := s.toks) (ys := xs.reverse) hH (Heap.SameBut.update s.heap a (Obj.mapSeq fun x => x.reverse)) (items := items.reverse) (PySem.IsL.update h1 fun x => x.reverse) fun tm => by
      rw [Array.toList_reverse]; exact (h2.mono tm).reverse
  exact ⟨.none, _, δ, S', P', .none, q⟩
inductive PopP (Q : V → AH → Prop) (v : V) (H₁ : AH) : Prop
  | mk (a : Addr) (xs : List V) (y : V) : v = .ref a → H₁ a = some (.list xs) → xs.length < 1000000 → xs.getLast? = some y → Q y (upd H₁ a (.list xs.dropLast)) → PopP Q v H₁
theorem we_pop {e : X} (hro : D.ro = false) (h : WE D n e ρ H (PopP Q)) : WE D n (.meth e 59 []) ρ H Q := by
  refine bmeth (m := 59) (id := "list.pop") F.plainAttrs_list F.slot_list_pop F.type_list_pop (h.mono fun v H₁ ⟨a, xs, y, hv, hH, hl, hy, q⟩ => ⟨a, _, hv, hH, list_is hH, wes_nil ?_⟩)
  intro A τ δ s vals r S c
  cases c
  obtain ⟨items, m, h1, h2⟩ := S.objs _ _ hH
  have e2 : items.toList.length = items.size := by simp
  have hsz : items.size ≤ sizeLine := by have := h2.length; rw [sizeLine_eq]; omega
  rw [List.getLast?_eq_getElem?] at hy
  obtain ⟨w, hw, hc⟩ := h2.get hy
  have hlen := h2.length
  have hw' : items[items.size - 1]? = some w := by rw [← Array.getElem?_toList]; rw [hlen] at hw; simpa using hw
  have hlt : items.size - 1 < items.size := (Array.getElem?_eq_some_iff.mp hw').1
  refine call_meets F.slot_list_pop ⟨_, h1, rfl⟩ F.entry_list_pop (F.args_list_pop_1 _) (PySem.MeetsSeq.list_pop_last a items m w hw' hsz) ⟨h1, ?_⟩
  obtain ⟨S', P'⟩ := S.setList hro (tk := s.toks) (ys := xs.dropLast) hH (Heap.SameBut.update s.heap a (Obj.mapSeq fun xs => xs.eraseIdxIfInBounds (items.size - 1))) (PySem.IsL.update h1 fun xs => xs.eraseIdxIfInBounds (items.size - 1)) fun tm => by
    rw [Array.eraseIdxIfInBounds, dif_pos hlt, Array.toList_eraseIdx]
    have z := (h2.mono tm).eraseIdx (items.size - 1)
    have e3 : xs.eraseIdx (items.size - 1) = xs.dropLast := by rw [← e2, ← hlen, List.eraseIdx_length_sub_one]
    rw [e3] at z; exact z
  exact ⟨y, _, δ, S', P', hc.mono (by have := P'.tm (τ := τ); exact this), q⟩
theorem we_popAt0 {e : X} (hro : D.ro = false) (h : WE D n e ρ H fun v H₁ => ∃ a y ys, v = .ref a ∧ H₁ a = some (.list (y :: ys)) ∧ ys.length < 1000000 ∧ Q y (upd H₁ a (.list ys))) : WE D n (.meth e 59 [.int 0]) ρ H Q := by
  refine bmeth (m := 59) (id := "list.pop") F.plainAttrs_list F.slot_list_pop F.type_list_pop (h.mono fun v H₁ ⟨a, y, ys, hv, hH, hl, q⟩ => ⟨a, _, hv, hH, list_is hH, wes_cons (we_int (wes_nil ?_))⟩)
  intro A τ δ s vals r S c
  cases c with
  | cons c cs =>
    cases cs; cases c
    rename_i t
    obtain ⟨items, m, h1, h2⟩ := S.objs _ _ hH
    have hlen := h2.length
    have e2 : items.toList.length = items.size := by simp
    have hsz : items.size ≤ sizeLine := by
      have : items.size = ys.length + 1 := by rw [← e2, ← hlen, List.length_cons]
      rw [sizeLine_eq, this]; omega
    obtain ⟨w, hw, hc⟩ := h2.get (i := 0) (x := y) (by simp)
    have hw' : items[0]? = some w := by rw [← Array.getElem?_toList]; exact hw
    have hlt : 0 < items.size := by rw [← e2, ← hlen, List.length_cons]; omega
    have hk : seqIndex? 0 items.size = some 0 := by
      unfold seqIndex?
      have : (0 : Int) < (items.size : Int) := by omega
      simp [hlt]
    refine call_meets F.slot_list_pop ⟨_, h1, rfl⟩ F.entry_list_pop (F.args_list_pop_2 _ _) (PySem.MeetsSeq.list_pop_at a items m 0 t 0 w (by decide) hk hw' hsz) ⟨h1, ?_⟩
    obtain ⟨S', P'⟩ := S.setList hro (tk := s.toks) (ys := ys) hH (Heap.SameBut.update s.heap a (Obj.mapSeq fun xs => xs.eraseIdxIfInBounds 0)) (PySem.IsL.update h1 fun xs => xs.eraseIdxIfInBounds 0) fun tm => by
        have z := (h2.mono tm).eraseIdx 0
        simp only [List.eraseIdx_cons_zero] at z
        rw [Array.eraseIdxIfInBounds, dif_pos hlt, Array.toList_eraseIdx]; exact z
    exact ⟨y, _, δ, S', P', hc.mono (by have := P'.tm (τ := τ); exact this), q⟩
end




section
variable {D : Amb} {n : Nat} {ρ : Loc} {H : AH} {Q : V → AH → Prop} {A : Around} {τ : Addr → Prop} {δ : Addr → Addr} {s : Shared}

theorem getD_vr {h : Heap} {ψ : Addr → Prop} {K : Type} [DecidableEq K] {k : K} {a : List (K × V)} {b : List (K × Value)} (p : PR h ψ a b) {d : V} {dv : Value} (hd : VR h ψ d dv) : VR h ψ ((dget a k).getD d) ((valueAt b k).getD dv) := by
  rcases p.get k with ⟨x, v, h1, h2, h3⟩ | ⟨h1, h2⟩
  · have : valueAt b k = some v := h2
    rw [h1, this]; exact h3
  · have : valueAt b k = none := h2
    rw [h1, this]; exact hd
theorem WEs.mono {xs : List X} {Q Q' : List V → AH → Prop} (h : WEs D n xs ρ H Q) (k : ∀ v H, Q v H → Q' v H) : WEs D n xs ρ H Q' :=
  fun e env A τ δ s pos t r S R => wpAny_mono (h e env A τ δ s pos t r S R) (fun v s' ⟨x, H', δ', a, b, c, d⟩ => ⟨x, H', δ', a, b, c, k _ _ d⟩) fun _ _ z => z
theorem we_get1 {e : X} {es : List X} (h : WE D n e ρ H fun v H₁ => ∃ a kvs, v = .ref a ∧ H₁ a = some (.sd kvs) ∧ WEs D n es ρ H₁ fun y H₂ => ∃ i kvs', y = [.str i] ∧ H₂ a = some (.sd kvs') ∧ Q ((dget kvs' i).getD .none) H₂) :
    WE D n (.meth e 58 es) ρ H Q := by
  refine bmeth (m := 58) (id := "dict.get") F.plainAttrs_dict F.slot_dict_get F.type_dict_get (h.mono fun v H₁ ⟨a, kvs, hv, hH, q⟩ => ⟨a, _, hv, hH, dict_is hH trivial, q.mono fun y H₂ ⟨i, kvs', hy, hH', q⟩ => ?_⟩)
  subst hy
  intro A τ δ s vals r S c
  cases c with
  | cons c cs =>
    cases cs; cases c
    obtain ⟨l, h1, h2⟩ := S.objs _ _ hH'
    refine call_meetsIn F.slot_dict_get h1.typeIs F.entry_dict_get (F.args_dict_get_2 _ _) (meets_dict_get (PySem.strKind D.prog D.w) a (k := nm i) (by simp [PySem.strKind, Value.isStrOf]) (not_sys S (foot_of hH'))) ⟨_, h1.mapOf, ?_⟩
    refine ⟨_, H₂, δ, S.toks _, .refl _ _ _, ?_, q⟩
    have := getD_vr (k := nm i) h2 (d := .none) (dv := .none) .none
    rw [dget_map_nm] at this; exact this
theorem we_get2n {e : X} {es : List X} (h : WE D n e ρ H fun v H₁ => ∃ a kvs, v = .ref a ∧ H₁ a = some (.nd kvs) ∧ WEs D n es ρ H₁ fun y H₃ => ∃ i z kvs', y = [.int i, z] ∧ H₃ a = some (.nd kvs') ∧ Q ((dget kvs' i).getD z) H₃) :
    WE D n (.meth e 58 es) ρ H Q := by
  refine bmeth (m := 58) (id := "dict.get") F.plainAttrs_dict F.slot_dict_get F.type_dict_get (h.mono fun v H₁ ⟨a, kvs, hv, hH, q⟩ => ⟨a, _, hv, hH, dict_is hH trivial, q.mono fun y H₃ ⟨i, z, kvs', hy, hH', q'⟩ => ?_⟩)
  subst hy
  intro A τ δ s vals r S c
  cases c with
  | cons c cs =>
    cases cs with
    | cons c2 cs =>
      cases cs; cases c
      obtain ⟨l, h1, h2⟩ := S.objs _ _ hH'
      refine call_meetsIn F.slot_dict_get h1.typeIs F.entry_dict_get (F.args_dict_get_3 _ _ _) (meets_dict_get_default (intKind D.prog D.w) a (k := i) (by simp [intKind, Value.isInt]) (not_sys S (foot_of hH')) _) ⟨_, h1.mapOf, ?_⟩
      exact ⟨_, H₃, δ, S.toks _, .refl _ _ _, getD_vr (k := i) h2 c2, q'⟩

theorem ddel_map_nm (kvs : List (Nat × V)) (k : Nat) : ddel (kvs.map fun p => (nm p.1, p.2)) (nm k) = (ddel kvs k).map fun p => (nm p.1, p.2) := by
  unfold ddel
  induction kvs with
  | nil => rfl
  | cons p r ih =>
    simp only [List.map_cons, List.filter_cons, ih]
    by_cases e : p.1 = k
    · simp [e]
    · have : ¬ nm p.1 = nm k := fun q => e (nm_inj q)
      simp [e, this]
theorem dset_map_nm (kvs : List (Nat × V)) (k : Nat) (v : V) : dset (kvs.map fun p => (nm p.1, p.2)) (nm k) v = (dset kvs k v).map fun p => (nm p.1, p.2) := by
  have a : ∀ p : Nat × V, decide (nm p.1 = nm k) = decide (p.1 = k) := fun p => by
    by_cases e : p.1 = k
    · simp [e]
    · rw [decide_eq_false e, decide_eq_false (fun q => e (nm_inj q))]
  unfold dset
  rw [List.any_map]
  simp only [Function.comp_def, a]
  split
  · rw [List.map_map, List.map_map]
    refine List.map_congr_left fun p _ => ?_
    simp only [Function.comp_def]
    by_cases e : p.1 = k
    · simp [e]
    · have : ¬ nm p.1 = nm k := fun q => e (nm_inj q)
      simp [e, this]
  · simp
theorem ddel_none {K α : Type} [DecidableEq K] {kvs : List (K × α)} {k : K} (h : dget kvs k = none) : ddel kvs k = kvs := by
  unfold dget at h
  unfold ddel
  rw [List.filter_eq_self]
  intro p hp
  simp only [Option.map_eq_none_iff, List.find?_eq_none] at h
  simpa using h p hp

theorem St.setDict (S : St D τ δ s H) (hro : D.ro = false) {a : Addr} {kvs kvs' : List (Nat × V)} (e : H a = some (.sd kvs)) {h' : Heap} {tk : Nat} (hk : Heap.SameBut a s.heap h') {l : List (Str × Value)}
    (hn : h'.DictOf (PySem.strKind D.prog D.w) a l) (c : TM s.heap (psi τ δ H) h' (psi τ δ H) → PR h' (psi τ δ H) (kvs'.map fun p => (nm p.1, p.2)) l) :
    St D τ δ { s with heap := h', toks := tk } (upd H a (.sd kvs')) ∧ Pres D (foot δ H) (foot δ (upd H a (.sd kvs'))) s.heap h' :=
  ⟨S.set (c := a) e rfl rfl (fun b x hb q => hk.extBut b x hb q) fun tm => ⟨l, hn, c tm⟩, Pres.set S hro (c := a) e rfl rfl fun b x hb q => hk.extBut b x hb q⟩

theorem pop_missing {K : Type} [DecidableEq K] {knd : KeyKind D.prog D.w K} {k : K} {key dflt : Value} {d : Addr} (hkey : knd.is k key = true) (hd : (d == sysModules) = false) (hpart : (keyPart key).isSome = true) :
    MeetsIn D.prog D.w (Builtin.«dict.pop» ⟨[.ref d, key, dflt], []⟩) (fun _ R s => ∃ kvs, s.heap.DictOf knd d kvs ∧ valueAt kvs k = none ∧ ∀ tk, R (.ok (.ret dflt)) { s with toks := tk }) :=
  .of_wp fun A R s ⟨kvs, hm, hv, h⟩ => by
    unfold Builtin.«dict.pop»
    refine wpAny_bind ?_
    unfold Builtin.Dict.keyAndDefault
    refine wpAny_bind (wpAny_notOrdered_dict hm.typeIs ?_)
    show wpAny _ _ (pure (d, key, some dflt)) _ _ s
    refine wpAny_pure ?_
    simp only [hpart, if_true]
    refine wpAny_bind (wpAny_pure ?_)
    simp only [Bool.false_eq_true, if_false]
    refine wpAny_bind (wpAny_takeOut_pairs_none hkey hm hv ?_)
    simp only [Option.isNone_none, if_true]
    refine wpAny_bind (wpAny_missedRemoval_other hd ?_)
    exact wpAny_bind (wpAny_rule (wpAny_pure ⟨dflt, rfl, h _⟩))
inductive DelQ (Q : V → AH → Prop) (a : Addr) (y z : V) (H₃ : AH) : Prop
  | mk (i : Nat) (kvs' : List (Nat × V)) : y = .str i → H₃ a = some (.sd kvs') → kvs'.length < 1000000 → Q ((dget kvs' i).getD z) (upd H₃ a (.sd (ddel kvs' i))) → DelQ Q a y z H₃
inductive DelP (D : Amb) (n : Nat) (k d : X) (ρ : Loc) (Q : V → AH → Prop) (v : V) (H₁ : AH) : Prop
  | mk (a : Addr) (kvs : List (Nat × V)) : v = .ref a → H₁ a = some (.sd kvs) → WE D n k ρ H₁ (fun y H₂ => WE D n d ρ H₂ (DelQ Q a y)) → DelP D n k d ρ Q v H₁
theorem we_pop2 {e k d : X} (hro : D.ro = false) (h : WE D n e ρ H (DelP D n k d ρ Q)) :
    WE D n (.meth e 59 [k, d]) ρ H Q := by
  refine bmeth (m := 59) (id := "dict.pop") F.plainAttrs_dict F.slot_dict_pop F.type_dict_pop (h.mono fun v H₁ ⟨a, kvs, hv, hH, q⟩ => ⟨a, _, hv, hH, dict_is hH trivial, wes_cons (q.mono fun y H₂ q => wes_cons (q.mono fun z H₃ ⟨i, kvs', hy, hH', hl, q'⟩ => wes_nil ?_))⟩)
  subst hy
  intro A τ δ s vals r S c
  cases c with
  | cons c cs =>
    cases cs with
    | cons c2 cs =>
      cases cs; cases c
      rename_i dv t
      obtain ⟨l, h1, h2⟩ := S.objs _ _ hH'
      have hsz : l.length ≤ sizeLine := by rw [h2.length, List.length_map, sizeLine_eq]; omega
      have hkey : (PySem.strKind D.prog D.w).is (nm i) (Value.str (nm i) t) = true := by simp [PySem.strKind, Value.isStrOf]
      rcases h2.get (nm i) with ⟨x, v, g1, g2, g3⟩ | ⟨g1, g2⟩
      · rw [dget_map_nm] at g1
        refine call_meetsIn F.slot_dict_pop h1.typeIs F.entry_dict_pop (F.args_dict_pop_3 _ _ _) (meets_dict_pop_there (PySem.strKind D.prog D.w) a hkey [dv] (.inr ⟨dv, rfl⟩) rfl) ⟨l, v, h1, hsz, g2, fun h' hd hs => ?_⟩
        obtain ⟨S', P'⟩ := S.setDict hro (tk := s.toks + 1) (kvs' := ddel kvs' i) hH' hs hd fun tm => by
          have := (h2.mono tm).del (nm i); rw [ddel_map_nm] at this; exact this
        refine ⟨_, _, δ, S', P', ?_, q'⟩
        rw [g1]; exact g3.mono P'.tm
      · rw [dget_map_nm] at g1
        refine call_meetsIn F.slot_dict_pop h1.typeIs F.entry_dict_pop (F.args_dict_pop_3 _ _ _) (pop_missing (D := D) (knd := PySem.strKind D.prog D.w) hkey (not_sys S (foot_of hH')) rfl) ⟨l, h1, g2, fun tk => ?_⟩
        have e2 : upd H₃ a (.sd (ddel kvs' i)) = H₃ := by
          rw [ddel_none g1]; funext b; by_cases z : b = a
          · subst z; rw [upd_self, hH']
          · rw [upd_ne z]
        rw [g1, e2] at q'
        exact ⟨_, H₃, δ, S.toks _, .refl _ _ _, c2, q'⟩

end




noncomputable def Glob (D : Amb) (f : Nat) (fv : Value) : Prop := D.mg (nm f) = some fv ∨ (D.mg (nm f) = none ∧ bootBuiltins (nm f) = some fv ∧ nm f ≠ "__name__")
noncomputable def Callable (D : Amb) (fv : Value) : Prop := (∃ id, fv = .builtin id) ∨ (∃ Tn, fv = .type Tn) ∨ keepIn D.K fv = true

noncomputable def WK (D : Amb) (n : Nat) (f : Addr) (args : List V) (H : AH) (Q : V → AH → Prop) : Prop :=
  ∀ (A : Around) (τ : Addr → Prop) (δ : Addr → Addr) (s : Shared) (vals : List Value), Room A n → St D τ δ s H → VRs s.heap (psi τ δ H) args vals →
    codeAny (model D.prog D.w) A (.call (.ref f) ⟨vals, []⟩) (fun r s' => ∃ v, r = .ok (.ret v) ∧ PE D τ (foot δ H) s.heap Q v s') s

section
variable {D : Amb} {n : Nat} {ρ : Loc} {H : AH} {Q : V → AH → Prop} {A : Around} {τ : Addr → Prop} {δ : Addr → Addr} {s : Shared}

theorem WK.mono {f : Addr} {args : List V} {Q' : V → AH → Prop} (h : WK D n f args H Q) (k : ∀ v H, Q v H → Q' v H) : WK D n f args H Q' :=
  fun A τ δ s vals r S c => codeAny_mono (h A τ δ s vals r S c) fun r s' ⟨v, hr, p⟩ => ⟨v, hr, p.mono k⟩
theorem wc_of {f : Addr} {args : List V} (h : WK D n f args H Q) : WC D n (.ref f) args H Q := fun A τ δ s vals r S c =>
  wpAny_call (codeAny_mono (h A τ δ s vals r S c) fun r s' ⟨v, hr, p⟩ => by subst hr; exact p)

theorem name_ok {f : Nat} {fv : Value} {env : Env} {p : Pos} (g : Glob D f fv) (S : St D τ δ s H) (R : EnvR D env (foot δ H) (psi τ δ H) ρ s.heap) (hk : env.scope.names.lookup (nm f) = some .globalImplicit)
    {P : Value → Shared → Prop} (k : P fv s) : wpAny (model D.prog D.w) A (eval (.Name (nm f) p) env) P NoE s := by
  have hg : s.heap.Ns env.globals D.mg := by rw [R.glob]; exact D.g.keeps S.base
  have hb : s.heap.Ns env.builtins D.mb := by rw [R.blt]; exact D.b.keeps S.base
  rcases g with g | ⟨g1, g2, g3⟩
  · exact Name_function_global R.kind hk (loadGlobal_global hg g k) (nm_ne_debug f)
  · exact Name_function_global R.kind hk (loadGlobal_builtin hg g1 hb ((D.bi _ g3).trans g2) k) (nm_ne_debug f)

theorem callWith_ok {fv : Value} {env : Env} {pos : Pos} {es : List Expr} {xs : List X} {first : List Value} {Qs : List V → AH → Prop} {P : Value → Shared → Prop} (hc : Callable D fv) (h : WEs D n xs ρ H Qs) (t : Ts env.scope es xs) (r : Room A n)
    (S : St D τ δ s H) (R : EnvR D env (foot δ H) (psi τ δ H) ρ s.heap)
    (k : ∀ v s' x H' δ', St D τ δ' s' H' → Pres D (foot δ H) (foot δ' H') s.heap s'.heap → VRs s'.heap (psi τ δ' H') x v → Qs x H' → wpAny (model D.prog D.w) A (call fv (first ++ v)) P NoE s') :
    wpAny (model D.prog D.w) A (callWith pos fv first (backTo pos (starEach es env)) []) P NoE s := by
  rcases hc with ⟨id, rfl⟩ | ⟨Tn, rfl⟩ | hk
  · exact Calls.callWith_builtin t.noStar (args_ok h t r S R fun v s' x H' δ' S' P' R' c q => k v s' x H' δ' S' P' c q)
  · exact PySem.callWith_type t.noStar (args_ok h t r S R fun v s' x H' δ' S' P' R' c q => k v s' x H' δ' S' P' c q)
  · exact callWith_of (P := fun h => D.K.In h) (by rw [t.noStar]; rfl) (keeps_K hk) (args_ok h t r S R fun v s' x H' δ' S' P' R' c q => ⟨S'.kin, k v s' x H' δ' S' P' c q⟩)

theorem we_call {f : Nat} {es : List X} (fv : Value) (g : Glob D f fv) (hc : Callable D fv) (h : WEs D n es ρ H fun vs H₁ => WC D n fv vs H₁ Q) : WE D n (.call f es) ρ H Q := by
  intro ex env A τ δ s t r S R
  · obtain ⟨_, _, _, rfl, hk, ts⟩ := t
    refine PyProof.Rows.Call_ (name_ok g S R hk ?_)
    refine callWith_ok (first := []) hc h ts r S R fun v s' x H' δ' S' P' c q => ?_
    exact wpAny_mono (q A τ δ' s' v r S' c) (fun _ _ z => z.pre P') fun _ _ z => z
theorem we_meth {e : X} {m : Nat} {es : List X} (h : WE D n e ρ H fun x H₁ => ∃ a C fs f, x = .ref a ∧ H₁ a = some (.inst C fs) ∧ MethOk D.K C m f ∧ dget fs m = none ∧ WEs D n es ρ H₁ fun vs H₂ => WC D n (.ref f) (.ref a :: vs) H₂ Q) :
    WE D n (.meth e m es) ρ H Q := by
  intro ex env A τ δ s t r S R
  refine meth_base t fun o as pos to ts => ?_
  refine h.bind to r S R fun v s' x H' δ' S' P' R' c q => ?_
  obtain ⟨a, C, fs, f, rfl, hH, ⟨k1, k2, k3, k4⟩, hg, q⟩ := q
  cases c
  intro pl
  obtain ⟨es', mm, I, hd, F⟩ := S'.inst hH
  refine method_fn S'.kin I (plainGet_of k1).1 (plainGet_of k1).2 k2 (beq_iff_eq.mp k3) (by show (lookIn (nm m) (dictOf es' mm)).map _ = _; rw [lookIn_dict, F.miss hg]; rfl) ?_
  refine callWith_ok (first := [.ref a]) (.inr (.inr k4)) q ts r S' R' fun v s'' x H'' δ'' S'' P'' c q => ?_
  exact wpAny_mono (q A τ δ'' s'' (.ref a :: v) r S'' (.cons (.ref a) c)) (fun _ _ z => z.pre (P'.trans P'')) fun _ _ z => z

/-! built-in calls -/
theorem wc_len {a : Addr} {xs : List V} (e : H a = some (.list xs)) (hl : xs.length < 1000000) (q : Q (.int xs.length) H) : WC D n (.builtin "len") [.ref a] H Q := by
  intro A τ δ s vals r S c
  cases c with
  | cons c cs =>
    cases cs; cases c
    obtain ⟨items, m, h1, h2⟩ := S.objs _ _ e
    have e2 : items.size = xs.length := by rw [h2.length]; simp
    refine call_len_list ⟨_, h1, rfl, m, rfl⟩ (by rw [e2]; omega) ?_
    refine ⟨.int xs.length, H, δ, S.toks _, .refl _ _ _, ?_, q⟩
    rw [e2]; exact .int _ _
theorem wc_int {z : Int} (q : Q (.int z) H) : WC D n (.type "int") [.int z] H Q := by
  intro A τ δ s vals r S c
  cases c with
  | cons c cs =>
    cases cs; cases c
    exact call_int_int ⟨.int z, H, δ, S, .refl _ _ _, .int _ _, q⟩

/-! own defs -/
inductive FnEx (D : Amb) (f : Addr) (ps : List Nat) (body : List S) : Prop
  | mk (oc : Value) (od : Option Addr) (osl : Array (Option Value)) (name qual : Str) (params : Arguments) (stmts : List Stmt) (scope : Scope) (dV kV doc pm : Value) (an : Option Addr) (cdv ct : Value) :
    D.K.lookup f = some ⟨oc, od, .func (fnOf name qual params stmts scope dV kV doc pm an cdv ct), osl⟩ → codeIn D.K cdv qual = true → scope.kind = .function → scope.isCoroutine = false → scope.isGenerator = false →
    TSs scope stmts body → (∀ vals : List Value, vals.length = ps.length → bindArgs (fnOf name qual params stmts scope dV kV doc pm an cdv ct) ⟨vals, []⟩ = pure ((ps.map nm).zip vals)) →
    (∀ p ∈ ps, scope.names.lookup (nm p) = some .local ∨ scope.names.lookup (nm p) = some .cell) → (∀ x, scope.names.lookup x ≠ some .free) → FnEx D f ps body
structure Fn (D : Amb) (f : Addr) (ps : List Nat) (body : List S) : Prop where
  ex : FnEx D f ps body
  nodup : ps.Nodup

theorem zip_nm (ps : List Nat) (vals : List Value) : (ps.map nm).zip vals = (ps.zip vals).map fun p => (nm p.1, p.2) := by
  induction ps generalizing vals with
  | nil => rfl
  | cons p ps ih => cases vals with
    | nil => rfl
    | cons v vs => simp [ih]
theorem bindL_get (k : Str → Option NameKind) {i : Nat} (hk : k (nm i) = some .local) : ∀ (l : List (Nat × Value)) (m : Str → Option Value), (l.map (·.1)).Nodup →
    bindL k (l.map fun p => (nm p.1, p.2)) m (nm i) = (match dget l i with | some v => some v | none => m (nm i))
  | [], m, _ => rfl
  | (j, v) :: l, m, hn => by
    rw [List.map_cons, List.nodup_cons] at hn
    rw [List.map_cons, bindL, bindL_get k hk l _ hn.2]
    by_cases e : j = i
    · subst e
      have : dget l j = none := by
        unfold dget
        rw [Option.map_eq_none_iff, List.find?_eq_none]
        intro x hx hxe
        exact hn.1 (List.mem_map.mpr ⟨x, hx, by simpa using hxe⟩)
      rw [this]
      have h2 : dget ((j, v) :: l) j = some v := by simp [dget]
      rw [h2]
      simp [hk]
    · have h2 : dget ((j, v) :: l) i = dget l i := by simp [dget, e]
      rw [h2]
      cases dget l i with
      | some w => rfl
      | none =>
        dsimp only
        split
        · exact if_neg (fun q => e (nm_inj q).symm)
        · rfl
theorem bindC_get (k : Str → Option NameKind) {i : Nat} (hk : k (nm i) = some .cell) : ∀ (l : List (Nat × Value)) (m : Str → Option Value), (l.map (·.1)).Nodup →
    bindC k (l.map fun p => (nm p.1, p.2)) m (nm i) = (match dget l i with | some v => some v | none => m (nm i))
  | [], m, _ => rfl
  | (j, v) :: l, m, hn => by
    rw [List.map_cons, List.nodup_cons] at hn
    rw [List.map_cons, bindC, bindC_get k hk l _ hn.2]
    by_cases e : j = i
    · subst e
      have : dget l j = none := by
        unfold dget
        rw [Option.map_eq_none_iff, List.find?_eq_none]
        intro x hx hxe
        exact hn.1 (List.mem_map.mpr ⟨x, hx, by simpa using hxe⟩)
      rw [this]
      have h2 : dget ((j, v) :: l) j = some v := by simp [dget]
      rw [h2]
      simp [hk]
    · have h2 : dget ((j, v) :: l) i = dget l i := by simp [dget, e]
      rw [h2]
      cases dget l i with
      | some w => rfl
      | none =>
        dsimp only
        split
        · rfl
        · exact if_neg (fun q => e (nm_inj q).symm)
theorem zip_pr {h : Heap} {ψ : Addr → Prop} : ∀ (ps : List Nat) {args : List V} {vals : List Value}, VRs h ψ args vals → PR h ψ (ps.zip args) (ps.zip vals)
  | [], _, _, _ => by simp; exact .nil
  | p :: ps, _, _, .nil => by simp; exact .nil
  | p :: ps, _, _, .cons a r => by simp only [List.zip_cons_cons]; exact .cons a (zip_pr ps r)

noncomputable def Ends (Q : V → AH → Prop) : Fl → Loc → AH → Prop := fun fl _ H' => match fl with
  | .ret v => Q v H'
  | .nxt => Q .none H'
  | _ => False
theorem wk_fn (hro : D.ro = false) {f : Addr} {ps : List Nat} {body : List Mine.S} {args : List V} (F : Fn D f ps body) (hlen : args.length = ps.length) (h : WS D n body (fun i => dget (ps.zip args) i) H (Ends Q)) : WK D (n + 1) f args H Q := by
  intro A τ δ s vals r S c
  obtain ⟨⟨oc, od, osl, name, qual, params, stmts, scope, dV, kV, doc, pm, an, cdv, ct, hl, hcd, hk, hco, hgen, hT, hb, hp, hf⟩, hnd⟩ := F
  have X := S.kin
  have hbind := hb vals (by rw [← c.length, hlen])
  rw [zip_nm] at hbind
  have hmem : ∀ x ∈ (ps.zip vals).map (fun p => (nm p.1, p.2)), ∃ p ∈ ps, x.1 = nm p := fun x hx => by
    obtain ⟨y, hy, rfl⟩ := List.mem_map.mp hx
    exact ⟨y.1, (List.of_mem_zip hy).1, rfl⟩
  have hz : ((ps.zip vals).map (·.1)).Nodup := by
    have : (ps.zip vals).map (·.1) = ps := by
      have e := List.map_fst_zip (l₁ := ps) (l₂ := vals) (by rw [← c.length, hlen]; exact Nat.le_refl _)
      exact e
    rw [this]; exact hnd
  refine codeAny_call_cells (fd := fnOf name qual params stmts scope dV kV doc pm an cdv ct) (body := stmts) (binds := (ps.zip vals).map fun p => (nm p.1, p.2)) (by have := r.1; unfold recursionLimit; omega) (X _ _ hl) rfl (D.nolim.keeps S.base) (codeRec_of X hcd) rfl hbind rfl
    (fun x hx => by
      obtain ⟨p, hp', e⟩ := hmem x hx
      rcases hp p hp' with q | q
      · exact .inl (by rw [e]; exact q)
      · exact .inr ⟨by rw [e]; exact q, by rw [e]; exact cellsFrom_some _ _ _ (.inl q)⟩) (fun s₁ x => ?_) hco hgen hk
  obtain ⟨h₁, tk, rfl, hk₁⟩ := x.done
  generalize henv : callEnvC (fnOf name qual params stmts scope dV kV doc pm an cdv ct) s.heap.objs.size f = env at x ⊢
  have henv1 : env.scope = scope := by rw [← henv]; rfl
  have henvL : env.locals = s.heap.objs.size := by rw [← henv]; rfl
  have henvG : env.globals = mainGlobals := by rw [← henv]; rfl
  have henvB : env.builtins = builtinsNs := by rw [← henv]; rfl
  have henvC : env.cells = cellsFrom (s.heap.objs.size + 1) scope.names [] := by rw [← henv]; rfl
  have S₁ : St D τ δ { s with heap := h₁, toks := tk } H := S.grow hk₁
  have P₁ : Pres D (foot δ H) (foot δ H) s.heap h₁ := Pres.grow hk₁
  have fresh : ∀ c, s.heap.objs.size ≤ c → D.base.get? c = none ∧ ¬ foot δ H c := fun c hc => by
    refine ⟨?_, fun q => absurd (S.lt q) (Nat.not_lt.mpr hc)⟩
    cases e : D.base.get? c with
    | none => rfl
    | some o => exact absurd (Heap.lt_size (S.base _ _ e)) (Nat.not_lt.mpr hc)
  have pr := (zip_pr ps c).mono P₁.tm (ψ' := psi τ δ H)
  have kOf : env.kindOf = fun y => scope.names.lookup y := by funext y; unfold Env.kindOf; rw [henv1]
  have cgt : ∀ x c, env.cells.lookup x = some c → s.heap.objs.size < c := fun y c q => by rw [← henvL]; exact x.above _ _ (mem_of_lookup q)
  have R₁ : EnvR D env (foot δ H) (psi τ δ H) (fun i => dget (ps.zip args) i) h₁ := by
    refine ⟨by rw [henv1]; exact hk, henvG, henvB, ⟨_, x.toInCall.ns, fun i v e q => ?_⟩, fun i v e q => ?_, fun y c q => ⟨⟨_, x.cell _ _ q⟩, fresh c (Nat.le_of_lt (cgt y c q))⟩, fun y q => ?_, fun y z c q1 q2 => name_of_addr x.apart (mem_of_lookup q1) (mem_of_lookup q2), by rw [henvL]; exact fresh _ (Nat.le_refl _)⟩
    · obtain ⟨w, g1, g2⟩ := pr.getSome e
      refine ⟨w, ?_, g2⟩
      rw [bindL_get _ q _ _ hz, g1]
    · rcases q with q | q
      · obtain ⟨w, g1, g2⟩ := pr.getSome e
        have hs : (env.cells.lookup (nm i)).isSome = true := by rw [henvC]; exact cellsFrom_some _ _ _ (.inl (by rw [← henv1]; exact q))
        obtain ⟨cc, hcc⟩ := Option.isSome_iff_exists.mp hs
        have z := x.cell _ _ hcc
        rw [bindC_get _ q _ _ hz, g1] at z
        exact ⟨cc, w, hcc, z, g2⟩
      · exact absurd (by rw [kOf] at q; exact q) (hf _)
    · rcases q with q | q
      · rw [henvC]; exact cellsFrom_some _ _ _ (.inl (by rw [kOf] at q; exact q))
      · exact absurd (by rw [kOf] at q; exact q) (hf _)
  refine wpAny_mono (h stmts env (A.deeper env) τ δ _ (by rw [henv1]; exact hT) ?_ S₁ R₁) (fun fl s' hh => ?_) fun _ _ z => z.elim
  · have := r
    exact ⟨⟨by show A.depth + 1 + 2 * n + 10 ≤ 900; have := r.1.1; omega, by show A.guards = some []; exact r.1.2⟩, by show A.units + 3 + 20 * n + 200 ≤ 9000; have := r.2.1; omega, r.2.2⟩
  · obtain ⟨fl', ρ', H', δ', a1, a2, a3, a4, a5⟩ := hh
    have P' : Pres D (foot δ H) (foot δ' H') s.heap s'.heap := ⟨fun b o e nf => a2 b o (hk₁ b o e) nf fun fr => by
      have hlt := Heap.lt_size e
      rcases fr with rfl | ⟨y, hy⟩
      · rw [henvL] at hlt; exact Nat.lt_irrefl _ hlt
      · exact Nat.lt_irrefl _ (Nat.lt_trans hlt (cgt y b hy)), fun q => by rw [hro] at q; cases q⟩
    cases a4 with
    | nxt => exact ⟨_, rfl, .none, H', δ', a1, P', .none, a5⟩
    | ret c => exact ⟨_, rfl, _, H', δ', a1, P', c, a5⟩
    | brk => exact a5.elim
    | cnt => exact a5.elim

theorem guards_make (A : Around) (x : Args) : (A.under (.builtin "type.__call__" x)).guards = A.guards := by
  have h : Code.guards (.builtin "type.__call__" x) = [] := by
    unfold Code.guards
    rw [if_neg]
    show ¬ guardIds.contains "type.__call__" = true
    decide
  unfold Around.under
  rw [h]; rfl
/-! own classes -/
structure Cls (D : Amb) (C fI : Addr) : Prop where
  makes : makesIn D.K C = true
  init : findIn D.K (.ref C) "__init__" = some (some (.ref fI))
  fn : typeIn D.K (.ref fI) = some (.type "function")
  keep : keepIn D.K (.ref C) = true
theorem wk_cls {C fI : Addr} {args : List V} (X : Cls D C fI) (h : ∀ a, H a = none → WK D n fI (.ref a :: args) (upd H a (.inst C [])) fun v H' => v = .none ∧ Q (.ref a) H') : WK D (n + 1) C args H Q := by
  intro A τ δ s vals r S c
  have f := S.fresh
  have hsz : (s.heap.push emptyDict).objs.size = s.heap.objs.size + 1 := Heap.size_push ..
  have k2 : ∀ b x, s.heap.get? b = some x → ((s.heap.push emptyDict).push (instObj C s.heap.objs.size)).get? b = some x := fun b x e => Heap.get?_push_of_some _ (Heap.get?_push_of_some _ e)
  have ha : s.heap.get? (s.heap.objs.size + 1) = none := by
    cases e : s.heap.get? (s.heap.objs.size + 1) with
    | none => rfl
    | some o => exact absurd (Heap.lt_size e) (Nat.not_lt.mpr (Nat.le_succ _))
  have hb : D.base.get? (s.heap.objs.size + 1) = none := by
    cases e : D.base.get? (s.heap.objs.size + 1) with
    | none => rfl
    | some o => rw [S.base _ _ e] at ha; cases ha
  have hHa : H (s.heap.objs.size + 1) = none := by
    cases e : H (s.heap.objs.size + 1) with
    | none => rfl
    | some o => exact absurd (S.lt (foot_of e)) (Nat.not_lt.mpr (Nat.le_succ _))
  have g1 : ((s.heap.push emptyDict).push (instObj C s.heap.objs.size)).get? (s.heap.objs.size + 1) = some (instObj C s.heap.objs.size) := by rw [← hsz]; exact Heap.get?_push_size _ rfl
  have g2 : ((s.heap.push emptyDict).push (instObj C s.heap.objs.size)).get? s.heap.objs.size = some (dictOf [] 0) := Heap.get?_push_of_some _ (Heap.get?_push_size _ rfl)
  have da : dup δ (s.heap.objs.size + 1) s.heap.objs.size (s.heap.objs.size + 1) = s.heap.objs.size := if_pos rfl
  obtain ⟨S', P'⟩ := S.make (C := C) (fs := []) (tk := s.toks) ha hb f.1 f.2.1 (Nat.ne_of_lt (Nat.lt_succ_self _)) k2 ⟨by rw [da]; exact g1, [], 0, by rw [da]; exact g2, .nil⟩
  refine codeAny_mono (R := fun r s' => ∃ v, r = .ok (.ret v) ∧ PE D τ (foot δ H) s.heap Q v s') ?_ fun _ _ z => z
  obtain ⟨hh, g, dr, t, os⟩ := s
  refine make_core (makes_of S.kin X.makes) (looks_findIn S.kin X.init) (fun self => bind_fn S.kin self X.fn) (.inl rfl) ?_
  refine codeAny_mono (h _ hHa _ τ _ _ (.ref (hh.objs.size + 1) :: vals) ?_ S' (.cons (.ref _) (c.mono P'.tm))) fun rr s' ⟨v, hr, x, H', δ', a1, a2, a3, a4⟩ => ?_
  · exact ⟨⟨by rw [PyProof.Rows.depth_under_make]; have := r.1.1; omega, by rw [guards_make]; exact r.1.2⟩, by rw [PyProof.Rows.units_under_make]; have := r.2.1; omega, r.2.2⟩
  · subst hr
    obtain ⟨rfl, a4⟩ := a4
    cases a3
    exact ⟨rfl, _, rfl, _, H', δ', a1, P'.trans a2, .ref _, a4⟩
end




noncomputable def lset (ρ : Loc) (i : Nat) (v : V) : Loc := fun j => if j = i then some v else ρ j
@[simp] theorem lset_self (ρ : Loc) (i : Nat) (v : V) : lset ρ i v i = some v := if_pos rfl
theorem lset_ne {ρ : Loc} {i j : Nat} {v : V} (h : j ≠ i) : lset ρ i v j = ρ j := if_neg h
noncomputable def lsets (ρ : Loc) : List Nat → List V → Loc
  | [], _ => ρ
  | i :: is, vs => match vs with
    | [] => ρ
    | v :: vs => lsets (lset ρ i v) is vs
theorem lsets_cons (ρ : Loc) (i : Nat) (is : List Nat) (v : V) (vs : List V) : lsets ρ (i :: is) (v :: vs) = lsets (lset ρ i v) is vs := rfl

section
variable {D : Amb} {n : Nat} {ρ : Loc} {H : AH} {A : Around} {τ : Addr → Prop} {δ : Addr → Addr} {s : Shared} {env : Env}

theorem store_ok {i : Nat} {v : V} {vv : Value} (S : St D τ δ s H) (R : EnvR D env (foot δ H) (psi τ δ H) ρ s.heap) (c : VR s.heap (psi τ δ H) v vv) (hk : env.kindOf (nm i) = some .local ∨ env.kindOf (nm i) = some .cell)
    {P : Unit → Shared → Prop} (k : ∀ s', St D τ δ s' H → PresF env (env.kindOf (nm i) = some .local) s.heap s'.heap → EnvR D env (foot δ H) (psi τ δ H) (lset ρ i v) s'.heap → P () s') :
    wpAny (model D.prog D.w) A (storeName env (nm i) vv) P NoE s := by
  have go : ∀ (h' : Heap) (tk : Nat) (c₀ : Addr), isFr env c₀ → (env.kindOf (nm i) = some .local → c₀ = env.locals) → Heap.SameBut c₀ s.heap h' → (∃ o, h'.get? c₀ = some o) → St D τ δ { s with heap := h', toks := tk } H ∧ PresF env (env.kindOf (nm i) = some .local) s.heap h' ∧ TM s.heap (psi τ δ H) h' (psi τ δ H) := by
    intro h' tk c₀ fr hc0 hs hl
    have S' : St D τ δ { s with heap := h', toks := tk } H := S.other (fun b => b = c₀) (fun b o hb e => hs.extBut b o hb e) (fun b hb => by
      subst hb; exact ⟨(R.out fr).2, (R.out fr).1, .inl (R.notTup fr), hl⟩)
    have P' : PresF env (env.kindOf (nm i) = some .local) s.heap h' := fun b o e nfr => hs.extBut b o (fun q => nfr.elim (fun z => z.2 (q.trans (hc0 z.1))) fun z => z (q ▸ fr)) e
    exact ⟨S', P', R.tmx (P'.x _)⟩
  obtain ⟨m, hm, hv⟩ := R.loc
  have up : ∀ (h' : Heap) (c₀ : Addr), Heap.SameBut c₀ s.heap h' → TM s.heap (psi τ δ H) h' (psi τ δ H) → (∀ x cc, env.cells.lookup x = some cc → cc ≠ c₀ → ∀ v, s.heap.IsCell cc v → h'.IsCell cc v) := fun h' c₀ hs tm x cc hx hne v hc => hc.sameBut hs hne
  rcases hk with hk | hk
  · refine wpAny_storeName_local hk hm (fun h' hn hs => ?_) (by rw [R.kind]; rfl)
    obtain ⟨S', P', tm⟩ := go h' (s.toks + 1) env.locals (.inl rfl) (fun _ => rfl) hs (let ⟨o, _, _, ho, _⟩ := hn; ⟨o, ho⟩)
    have apart : ∀ x cc, env.cells.lookup x = some cc → cc ≠ env.locals := fun x cc hx q => by
      obtain ⟨⟨v, o, ho, hd⟩, _⟩ := R.cst x cc hx
      obtain ⟨o', es, ep, ho', hd', _⟩ := hm
      rw [q, ho'] at ho; cases ho; rw [hd'] at hd; cases hd
    refine k _ S' P' ⟨R.kind, R.glob, R.blt, ⟨_, hn, fun j w e q => ?_⟩, fun j w e q => ?_, fun x cc e => ?_, R.all, R.cinj, R.fr⟩
    · by_cases z : j = i
      · subst z; rw [lset_self] at e; cases e; exact ⟨vv, if_pos rfl, c.mono tm⟩
      · rw [lset_ne z] at e
        obtain ⟨w', g1, g2⟩ := hv j w e q
        exact ⟨w', by rw [if_neg (fun y => z (nm_inj y))]; exact g1, g2.mono tm⟩
    · by_cases z : j = i
      · subst z; rw [hk] at q; rcases q with q | q <;> cases q
      · rw [lset_ne z] at e
        obtain ⟨cc, w', g1, g2, g3⟩ := R.cel j w e q
        exact ⟨cc, w', g1, up h' _ hs tm _ cc g1 (apart _ cc g1) _ g2, g3.mono tm⟩
    · obtain ⟨⟨v, g⟩, g2⟩ := R.cst x cc e
      exact ⟨⟨v, up h' _ hs tm x cc e (apart x cc e) v g⟩, g2⟩
  · obtain ⟨cc, hcc⟩ := Option.isSome_iff_exists.mp (R.all (nm i) (.inl hk))
    obtain ⟨⟨v₀, hv₀⟩, hout⟩ := R.cst _ _ hcc
    refine wpAny_storeName_cell R.kind hk hcc hv₀ fun h' hc' hs => ?_
    obtain ⟨S', P', tm⟩ := go h' s.toks cc (.inr ⟨_, hcc⟩) (fun q => by rw [hk] at q; cases q) hs (let ⟨o, ho, _⟩ := hc'; ⟨o, ho⟩)
    have lne : env.locals ≠ cc := fun q => by
      obtain ⟨o, ho, hd⟩ := hv₀
      obtain ⟨o', es, ep, ho', hd', _⟩ := hm
      rw [← q, ho'] at ho; cases ho; rw [hd'] at hd; cases hd
    refine k _ S' P' ⟨R.kind, R.glob, R.blt, ⟨m, hm.sameBut hs lne, fun j w e q => ?_⟩, fun j w e q => ?_, fun x c2 e => ?_, R.all, R.cinj, R.fr⟩
    · by_cases z : j = i
      · subst z; rw [hk] at q; cases q
      · rw [lset_ne z] at e
        obtain ⟨w', g1, g2⟩ := hv j w e q
        exact ⟨w', g1, g2.mono tm⟩
    · by_cases z : j = i
      · subst z; rw [lset_self] at e; cases e; exact ⟨cc, vv, hcc, hc', c.mono tm⟩
      · rw [lset_ne z] at e
        obtain ⟨c2, w', g1, g2, g3⟩ := R.cel j w e q
        exact ⟨c2, w', g1, up h' _ hs tm _ c2 g1 (fun y => z (nm_inj (R.cinj _ _ _ (y ▸ g1) hcc))) _ g2, g3.mono tm⟩
    · obtain ⟨⟨v, g⟩, g2⟩ := R.cst x c2 e
      by_cases z : c2 = cc
      · subst z; exact ⟨⟨_, hc'⟩, g2⟩
      · exact ⟨⟨v, up h' _ hs tm x c2 e z v g⟩, g2⟩

theorem wa_var {i : Nat} {v : V} {Q : Loc → AH → Prop} (q : Q (lset ρ i v) H) : WA D n (.var i) v ρ H Q := by
  intro ex env A τ δ s vv t r S R c
  · obtain ⟨_, rfl, hk⟩ := t
    exact wpAny_assign_Name (store_ok S R c hk fun s' S' P' R' => ⟨_, H, δ, S', P'.x _, R', q⟩)

theorem stores_ok {sc : Scope} : ∀ {es : List Expr} {is : List Nat} {env : Env} {A : Around} {ρ : Loc} {s : Shared} {xs : List V} {vs : List Value}, TN sc es is → env.scope = sc → xs.length = is.length → St D τ δ s H → EnvR D env (foot δ H) (psi τ δ H) ρ s.heap → VRs s.heap (psi τ δ H) xs vs →
    ∀ {P : Unit → Shared → Prop}, (∀ s', St D τ δ s' H → PresF env (∀ i ∈ is, sc.names.lookup (nm i) = some .local) s.heap s'.heap → EnvR D env (foot δ H) (psi τ δ H) (lsets ρ is xs) s'.heap → P () s') →
    wpAny (model D.prog D.w) A (assignInOrder ((assignEach es env).map (·.2)) vs) P NoE s
  | _, [], env, A, ρ, s, xs, vs, t, _, hl, S, R, c, P, k => by
    cases t
    cases xs with
    | cons _ _ => cases hl
    | nil => cases c; exact wpAny_pure (k s S (fun _ _ e _ => e) R)
  | _, i :: is, env, A, ρ, s, xs, vs, t, hsc, hl, S, R, c, P, k => by
    obtain ⟨p, es, rfl, hk, r⟩ := t
    cases xs with
    | nil => cases hl
    | cons x xs =>
      cases c with
      | cons c cs =>
        rename_i v vs
        have he : (assignEach (.Name (nm i) p :: es) env).map (·.2) = assign (.Name (nm i) p) env :: (assignEach es env).map (·.2) := rfl
        rw [he]
        show wpAny _ _ (holding vs (assign (.Name (nm i) p) env v) >>= fun _ => assignInOrder ((assignEach es env).map (·.2)) vs) _ _ _
        refine wpAny_bind (wpAny_holding (wpAny_assign_Name (store_ok S R c (by unfold Env.kindOf; rw [hsc]; exact hk) fun s' S' P' R' => ?_)))
        have tm := R.tmx (P'.x (foot δ H))
        have P1 : PresF env (∀ j ∈ i :: is, sc.names.lookup (nm j) = some .local) s.heap s'.heap := P'.mono fun q => by unfold Env.kindOf; rw [hsc]; exact q i List.mem_cons_self
        exact stores_ok r hsc (by simpa using hl) S' R' (cs.mono tm) fun s'' S'' P'' R'' => k s'' S'' (P1.trans (P''.mono fun q j hj => q j (List.mem_cons_of_mem _ hj))) R''
theorem TN.each {sc : Scope} {env : Env} : ∀ {es : List Expr} {is : List Nat}, TN sc es is → (assignEach es env).length = is.length ∧ (assignEach es env).findIdx? (·.1) = none
  | _, [], t => by cases t; exact ⟨rfl, rfl⟩
  | _, i :: is, t => by
    obtain ⟨p, es, rfl, hk, r⟩ := t
    obtain ⟨a, b⟩ := r.each (env := env)
    have he : assignEach (.Name (nm i) p :: es) env = (false, assign (.Name (nm i) p) env) :: assignEach es env := rfl
    rw [he]
    exact ⟨by simp [a], by rw [List.findIdx?_cons, b]; rfl⟩
theorem tup_of {h : Heap} {ψ : Addr → Prop} {xs : List V} {v : Value} (c : VR h ψ (.tup xs) v) : ∃ a items m, v = .ref a ∧ h.get? a = some (tupObj items m) ∧ VRs h ψ xs items.toList := by
  cases c with
  | tup h1 h2 h3 => exact ⟨_, _, _, rfl, h1, h3⟩
theorem many_ok {es : List Expr} {is : List Nat} {kk : Nat} {pos : Pos} {xs : List V} {vv : Value} (t : TN env.scope es is) (hh : A.handled = none) (hl : xs.length = is.length) (S : St D τ δ s H) (R : EnvR D env (foot δ H) (psi τ δ H) ρ s.heap)
    (c : VR s.heap (psi τ δ H) (.tup xs) vv) {P : Unit → Shared → Prop} (k : ∀ s', St D τ δ s' H → PresF env (∀ i ∈ is, env.scope.names.lookup (nm i) = some .local) s.heap s'.heap → EnvR D env (foot δ H) (psi τ δ H) (lsets ρ is xs) s'.heap → P () s') :
    wpAny (model D.prog D.w) A (assign (.Tuple es kk pos) env vv) P NoE s := by
  obtain ⟨a, items, m, rfl, h1, h2⟩ := tup_of c
  obtain ⟨e1, e2⟩ := t.each (env := env)
  refine wpAny_assign_Tuple hh ⟨_, h1, rfl, m, rfl⟩ (by rw [e1, ← hl, h2.length]; simp) e2 fun h' hx => ?_
  have hk : ∀ b o, s.heap.get? b = some o → h'.get? b = some o := fun b o e => hx b o (Nat.ne_of_lt (Heap.lt_size e)) e
  have P₁ : Pres D (foot δ H) (foot δ H) s.heap h' := Pres.grow hk
  exact stores_ok t rfl hl (S.grow hk) (R.pres P₁ P₁.tm) (h2.mono P₁.tm) fun s' S' P' R' => k s' S' (fun b o e f => P' b o (hk b o e) f) R'
theorem wa_many {is : List Nat} {xs : List V} {Q : Loc → AH → Prop} (hl : xs.length = is.length) (q : Q (lsets ρ is xs) H) : WA D n (.many is) (.tup xs) ρ H Q := by
  intro ex env A τ δ s vv t r S R c
  · obtain ⟨_, _, _, rfl, t⟩ := t
    exact many_ok t r.2.2 hl S R c fun s' S' P' R' => ⟨_, H, δ, S', P'.x _, R', q⟩
structure StoreOk (K : Frag) (C : Addr) (i : Nat) : Prop where
  set : findIn K (.ref C) "__setattr__" = some (some (.builtin "object.__setattr__"))
  over : plainOver K C = true
  taker : takerIn K C (nm i) = some none
  has : (clsIn K C).any (·.hasDict) = true
theorem setattr_ok (hro : D.ro = false) {a C : Addr} {fs : List (Nat × V)} {i : Nat} {x : V} {v : Value} (S : St D τ δ s H) (hH : H a = some (.inst C fs)) (ok : StoreOk D.K C i) (c : VR s.heap (psi τ δ H) x v) (hl : fs.length ≤ 500) {P : Unit → Shared → Prop}
    (k : ∀ s', St D τ δ s' (upd H a (.inst C (fput fs i x))) → Pres D (foot δ H) (foot δ (upd H a (.inst C (fput fs i x)))) s.heap s'.heap → P () s') : wpAny (model D.prog D.w) A (setAttr (.ref a) (nm i) v) P NoE s := by
  obtain ⟨es, m, I, hd, F⟩ := S.inst hH
  have X := S.kin
  obtain ⟨cd, hc, hdict⟩ := any_some ok.has
  have hlen := F.length
  refine set_plain X I ok.set (osa_open (s := { s with toks := s.toks + 1 }) X I ok.over ok.taker fun b => ?_)
  refine wpAny_bind (wpAny_pure (wpAny_bind (wpAny_bind (wpAny_loadPart I.at_ (wpAny_bind (looks_clsIn X hc _ _ _ _ (fun _ _ e => e) ?_))))))
  rw [hdict]
  refine wpAny_pure (a := some (δ a)) (wpAny_bind (wpAny_pure (wpAny_bind ?_)))
  unfold nsSet
  refine wpAny_bind (wpAny_bind (wpAny_askSetting (wpAny_pure (wpAny_bind (wpAny_mkText (wpAny_bind (wpAny_loadPart hd ?_)))))))
  have z : (!es.toArray.any (·.key.isStr (nm i)) && es.toArray.any (·.refKey)) = false := by
    have : es.toArray.any (·.refKey) = false := by rw [List.any_toArray]; exact F.noRef
    rw [this, Bool.and_false]
  dsimp only
  rw [aRefKeyMayBeTheName_at, z]
  refine wpAny_updatePart hd ?_
  have e1 := Heap.get?_update_self (Obj.putName (nm i) (PyData.keyHash D.w.params (nm i)) (.str (nm i) (s.toks + 1)) v) hd (by rw [putName_dict]; rfl)
  rw [putName_dict] at e1
  refine wpAny_bind (wpAny_lookBehind e1 (pastItsLine_dict ?_) ?_)
  · have h2 : (putL (nm i) (PyData.keyHash D.w.params (nm i)) (.str (nm i) (s.toks + 1)) v es).length = (fput fs i x).length := (F.put c _ _).length
    have h3 := fput_length i x fs
    rw [List.size_toArray, h2, sizeLine_eq]; omega
  · refine wpAny_pure (k _ (S.set (c := δ a) hH rfl rfl (fun b o hb e => ?_) fun tm => ⟨?_, _, _, e1, (F.mono tm).put (c.mono tm) _ _⟩) (Pres.set S hro (c := δ a) hH rfl rfl fun b o hb e => ?_))
    · exact (Heap.get?_update_ne _ _ _ _ hb).trans e
    · have := I.at_
      refine (Heap.get?_update_ne _ _ _ _ fun q => ?_).trans this
      rw [q, hd] at this; cases this
    · exact (Heap.get?_update_ne _ _ _ _ hb).trans e
theorem wa_attr {e : X} {i : Nat} {v : V} {Q : Loc → AH → Prop} (hro : D.ro = false) (h : WE D n e ρ H fun x H₁ => ∃ a C fs, x = .ref a ∧ H₁ a = some (.inst C fs) ∧ StoreOk D.K C i ∧ fs.length ≤ 500 ∧ Q ρ (upd H₁ a (.inst C (fput fs i v)))) : WA D n (.attr e i) v ρ H Q := by
  intro ex env A τ δ s vv t r S R c
  · obtain ⟨o, p, rfl, te⟩ := t
    show wpAny _ _ (do
      let ov ← holding [vv] (eval o env)
      standAt p.atName
      holding [vv, ov] (setAttr ov (nm i) vv)
      release [vv, ov] []) _ _ _
    refine wpAny_bind (wpAny_holding (h.bind te r S R fun ov s' x H' δ' S' P' R' c' q => ?_))
    obtain ⟨a, C, fs, rfl, hH, ok, hl, q⟩ := q
    cases c'
    refine wpAny_bind (wpAny_standAt (wpAny_bind (wpAny_holding (setattr_ok hro S' hH ok (c.mono P'.tm) hl fun s'' S'' P'' => ?_))))
    exact wpAny_release ⟨ρ, _, δ', S'', (P'.trans P'').x, R'.pres P'' P''.tm, q⟩
end




noncomputable def putO (o : O) (k v : V) : Option O := match o with
  | .list xs => k.asInt.bind fun z => if 0 ≤ z ∧ z < xs.length ∧ xs.length < 1000000 then some (.list (xs.set z.toNat v)) else none
  | .sd kvs => k.asStr.bind fun z => if kvs.length < 1000000 then some (.sd (dset kvs z v)) else none
  | .nd kvs => k.asInt.bind fun z => if kvs.length < 1000000 then some (.nd (dset kvs z v)) else none
  | .td kvs => k.asTup.bind fun ks => (kaOf ks).bind fun z => if kvs.length < 1000000 then some (.td (dset kvs z v)) else none
  | .inst _ _ => none
noncomputable def putV (H : AH) (x k v : V) : Option (Addr × O) := x.asRef.bind fun a => (H a).bind fun o => (putO o k v).map fun o => (a, o)
theorem put_o {H : AH} {a : Addr} {o o' : O} {k v : V} (h : H a = some o) (h' : putO o k v = some o') : putV H (.ref a) k v = some (a, o') := by
  show (H a).bind _ = _; rw [h]; show (putO o k v).map _ = _; rw [h']; rfl
theorem put_list {H : AH} {a : Addr} {xs : List V} {z : Int} {v : V} (h : H a = some (.list xs)) (h' : 0 ≤ z ∧ z < xs.length ∧ xs.length < 1000000) : putV H (.ref a) (.int z) v = some (a, .list (xs.set z.toNat v)) := put_o h (if_pos h')
theorem put_list1 {H : AH} {a : Addr} {x y v : V} (h : H a = some (.list [x, y])) : putV H (.ref a) (.int 1) v = some (a, .list [x, v]) := put_list h ⟨by decide, show (1 : Int) < 2 by decide, show 2 < 1000000 by decide⟩
theorem put_sd {H : AH} {a : Addr} {kvs : List (Nat × V)} {z : Nat} {v : V} (h : H a = some (.sd kvs)) (h' : kvs.length < 1000000) : putV H (.ref a) (.str z) v = some (a, .sd (dset kvs z v)) := put_o h (if_pos h')
theorem put_nd {H : AH} {a : Addr} {kvs : List (Int × V)} {z : Int} {v : V} (h : H a = some (.nd kvs)) (h' : kvs.length < 1000000) : putV H (.ref a) (.int z) v = some (a, .nd (dset kvs z v)) := put_o h (if_pos h')
theorem put_td {H : AH} {a : Addr} {kvs : List (List KA × V)} {ks : List V} {z : List KA} {v : V} (h : H a = some (.td kvs)) (hz : kaOf ks = some z) (h' : kvs.length < 1000000) : putV H (.ref a) (.tup ks) v = some (a, .td (dset kvs z v)) :=
  put_o h (by show (kaOf ks).bind _ = _; rw [hz]; exact if_pos h')

section
variable {D : Amb} {n : Nat} {ρ : Loc} {H : AH} {A : Around} {τ : Addr → Prop} {δ : Addr → Addr} {s : Shared} {env : Env}

theorem putAt_snd (k : List KA) (v : Value) (xs : List (List KA × Addr × Value)) : (xs.map (putAt k v)).map (fun x => (x.1, x.2.2)) = (xs.map fun x => (x.1, x.2.2)).map fun kv => if kv.1 = k then (kv.1, v) else kv := by
  rw [List.map_map, List.map_map]
  refine List.map_congr_left fun x _ => ?_
  simp only [Function.comp_def, putAt]
  split <;> rfl
theorem storedH_snd (k : List KA) (a : Addr) (v : Value) (xs : List (List KA × Addr × Value)) : (storedH xs k a v).map (fun x => (x.1, x.2.2)) = dset (xs.map fun x => (x.1, x.2.2)) k v := by
  have h : (atKey xs k).isSome = (xs.map fun x => (x.1, x.2.2)).any (fun kv => decide (kv.1 = k)) := by
    unfold atKey
    rw [Option.isSome_map, List.any_map]
    simp only [Function.comp_def]
    induction xs with
    | nil => rfl
    | cons x r ih =>
      rw [List.find?_cons, List.any_cons]
      by_cases e : x.1 = k
      · simp [e]
      · simp only [e, decide_false, Bool.false_or]; exact ih
  unfold storedH dset
  rw [← h]
  split
  · exact putAt_snd k v xs
  · simp
theorem put_ok (hro : D.ro = false) {x k v : V} {o i vv : Value} {a : Addr} {ob : O} (S : St D τ δ s H) (r : Room A n) (e : putV H x k v = some (a, ob)) (ho : VR s.heap (psi τ δ H) x o) (hi : VR s.heap (psi τ δ H) k i) (hv : VR s.heap (psi τ δ H) v vv)
    {P : Unit → Shared → Prop} (go : ∀ s', St D τ δ s' (upd H a ob) → Pres D (foot δ H) (foot δ (upd H a ob)) s.heap s'.heap → P () s') : wpAny (model D.prog D.w) A (setItem o i vv) P NoE s := by
  obtain ⟨b, e1, e2⟩ := bsome e
  obtain ⟨oo, hH, e3⟩ := bsome e2
  obtain ⟨ob', e4, e5⟩ := msome e3
  clear e e2 e3
  cases e5
  cases V.asRef_eq e1
  cases ho
  cases oo with
  | inst _ _ => cases e4
  | list xs =>
    obtain ⟨z, e6, e7⟩ := bsome e4
    obtain ⟨hz, rfl⟩ := isome e7
    cases V.asInt_eq e6
    cases hi
    obtain ⟨items, m, h1, h2⟩ := S.objs _ _ hH
    have hlen := h2.length
    have e2 : items.toList.length = items.size := by simp
    refine PySem.W.ki_setAt h1 hz.1 (by omega) (by omega) ?_
    obtain ⟨S', P'⟩ := S.setList hro (tk := s.toks) (ys := xs.set z.toNat v) hH (Heap.SameBut.update s.heap a (Obj.mapSeq (·.setIfInBounds z.toNat vv))) (PySem.IsL.update h1 (·.setIfInBounds z.toNat vv)) fun tm => by
      rw [Array.toList_setIfInBounds]; exact (h2.mono tm).set (hv.mono tm) _
    exact go _ S' P'
  | nd kvs =>
    obtain ⟨z, e6, e7⟩ := bsome e4
    obtain ⟨hz, rfl⟩ := isome e7
    cases V.asInt_eq e6
    cases hi
    obtain ⟨l, h1, h2⟩ := S.objs _ _ hH
    refine wpAny_setItem_pairs (knd := intKind D.prog D.w) (k := z) (by simp [intKind, Value.isInt]) h1 (fun h' hd hs => ?_) (by rw [h2.length, sizeLine_eq]; omega)
    refine go _ (S.set (c := a) hH rfl rfl (fun b x hb q => hs.extBut b x hb q) fun tm => ⟨_, hd, (h2.mono tm).set (hv.mono tm)⟩) (Pres.set S hro (c := a) hH rfl rfl fun b x hb q => hs.extBut b x hb q)
  | sd kvs =>
    obtain ⟨z, e6, e7⟩ := bsome e4
    obtain ⟨hz, rfl⟩ := isome e7
    cases V.asStr_eq e6
    cases hi
    obtain ⟨l, h1, h2⟩ := S.objs _ _ hH
    refine wpAny_setItem_pairs (knd := PySem.strKind D.prog D.w) (k := nm z) (by simp [PySem.strKind, Value.isStrOf]) h1 (fun h' hd hs => ?_) (by rw [h2.length, List.length_map, sizeLine_eq]; omega)
    obtain ⟨S', P'⟩ := S.setDict hro (tk := s.toks + 1) (kvs' := dset kvs z v) hH hs hd fun tm => by
      have := (h2.mono tm).set (k := nm z) (hv.mono tm); rw [dset_map_nm] at this; exact this
    exact go _ S' P'
  | td kvs =>
    obtain ⟨ks, e6, e7⟩ := bsome e4
    obtain ⟨kk, hk, e8⟩ := bsome e7
    obtain ⟨hz, rfl⟩ := isome e8
    cases V.asTup_eq e6
    obtain ⟨c, items, m, rfl, g1, g2, g3⟩ := key_of (D := D) hk hi
    obtain ⟨xs, h1, h2, h3⟩ := S.objs _ _ hH
    have hne : c ≠ a := fun q => by
      obtain ⟨o, _, _, ho, _, hd, _⟩ := h1
      rw [← q, g1] at ho; cases ho; cases hd
    refine wpAny_setItem_heap (knd := tupleKind (kaKind D.prog D.w)) (tupleKind_room_in1 (by have := r.2.1; unfold cLine; omega)) g3 h1 (fun h' hd hs => ?_) (by have := h2.length; rw [List.length_map] at this; rw [this, sizeLine_eq]; omega)
    refine go _ (S.set (c := a) hH rfl rfl (fun b x hb q => hs.extBut b x hb q) fun tm => ⟨_, hd, ?_, fun y hy => ?_⟩) (Pres.set S hro (c := a) hH rfl rfl fun b x hb q => hs.extBut b x hb q)
    · rw [storedH_snd]; exact (h2.mono tm).set (hv.mono tm)
    · have old : ∀ y ∈ xs, ¬ psi τ δ H y.2.1 ∧ ∃ items n, h'.get? y.2.1 = some (tupObj items n) := fun y hy => by
        obtain ⟨q1, its, mm, q2⟩ := h3 y hy
        exact ⟨q1, its, mm, (tm _ _ _ q2 q1).1⟩
      unfold storedH at hy
      split at hy
      · obtain ⟨w, hw, rfl⟩ := List.mem_map.mp hy
        unfold putAt
        split <;> exact old w hw
      · rcases List.mem_append.mp hy with hy | hy
        · exact old y hy
        · simp only [List.mem_singleton] at hy
          subst hy
          exact ⟨g2, _, _, (tm _ _ _ g1 g2).1⟩
theorem assign_sub (o i : Expr) (p : Pos) (env : Env) (vv : Value) : assign (.Subscript o i p) env vv = (do
      let ov ← holding [vv] (eval o env)
      let iv ← holding [vv, ov] (eval i env)
      standAt p
      holding [vv, ov, iv] (setItem ov iv vv)
      release (match i with | .Slice _ _ none _ => [iv, vv, ov] | _ => [vv, ov, iv]) []) := rfl
inductive PutP (ρ : Loc) (H₂ : AH) (p : Option (Addr × O)) (Q : Loc → AH → Prop) : Prop
  | mk (a : Addr) (o : O) : p = some (a, o) → Q ρ (upd H₂ a o) → PutP ρ H₂ p Q
theorem wa_item {e k : X} {v : V} {Q : Loc → AH → Prop} (hro : D.ro = false) (h : WE D n e ρ H fun x H₁ => WE D n k ρ H₁ fun y H₂ => PutP ρ H₂ (putV H₂ x y v) Q) : WA D n (.item e k) v ρ H Q := by
  intro ex env A τ δ s vv t r S R c
  · obtain ⟨o, i, p, rfl, te, tk⟩ := t
    rw [assign_sub]
    refine wpAny_bind (wpAny_holding (h.bind te r S R fun ov s' x H' δ' S' P' R' c' q => ?_))
    refine wpAny_bind (wpAny_holding (q.bind tk r S' R' fun iv s'' y H'' δ'' S'' P'' R'' c'' q => ?_))
    obtain ⟨a, ob, e, q⟩ := q
    refine wpAny_bind (wpAny_standAt (wpAny_bind (wpAny_holding (put_ok hro S'' r e (c'.mono P''.tm) c'' ((c.mono P'.tm).mono P''.tm) fun s3 S3 P3 => ?_))))
    exact wpAny_release ⟨ρ, _, δ'', S3, ((P'.trans P'').trans P3).x, R''.pres P3 P3.tm, q⟩

/-! statements -/
theorem W1.mono {x : Mine.S} {Q Q' : Fl → Loc → AH → Prop} (h : W1 D n x ρ H Q) (k : ∀ f ρ H, Q f ρ H → Q' f ρ H) : W1 D n x ρ H Q' :=
  fun e env A τ δ s t r S R => wpAny_mono (h e env A τ δ s t r S R) (fun _ _ ⟨fl, ρ', H', δ', a, b, c, d, e⟩ => ⟨fl, ρ', H', δ', a, b, c, d, k _ _ _ e⟩) fun _ _ z => z
theorem ws_nil {Q : Fl → Loc → AH → Prop} (q : Q .nxt ρ H) : WS D n [] ρ H Q := by
  intro ss env A τ δ s t r S R
  cases t
  exact wpAny_execs_nil ⟨.nxt, ρ, H, δ, S, .refl _ _ _, R, .nxt, q⟩
theorem ws_cons {x : Mine.S} {xs : List Mine.S} {Q : Fl → Loc → AH → Prop} (h : W1 D n x ρ H fun f ρ' H' => match f with | .nxt => WS D n xs ρ' H' Q | f => Q f ρ' H') : WS D n (x :: xs) ρ H Q := by
  intro ss env A τ δ s t r S R
  · obtain ⟨_, _, rfl, t, ts⟩ := t
    refine wpAny_execs_cons (wpAny_mono (h _ env A τ δ s t r S R) (fun f s' ⟨fl, ρ', H', δ', a, b, c, d, e⟩ => ?_) fun _ _ z => z)
    cases d with
    | nxt => exact wpAny_mono (e _ env A τ δ' s' ts r a c) (fun _ _ z => z.pre b) fun _ _ z => z
    | brk => exact ⟨_, ρ', H', δ', a, b, c, .brk, e⟩
    | cnt => exact ⟨_, ρ', H', δ', a, b, c, .cnt, e⟩
    | ret d => exact ⟨_, ρ', H', δ', a, b, c, .ret d, e⟩
theorem w1_ret {e : X} {Q : Fl → Loc → AH → Prop} (h : WE D n e ρ H fun v H' => Q (.ret v) ρ H') : W1 D n (.ret e) ρ H Q := by
  intro ss env A τ δ s t r S R
  · obtain ⟨_, _, rfl, t⟩ := t
    exact wpAny_Return_some (h.bind t r S R fun v s' x H' δ' S' P' R' c q => ⟨_, ρ, H', δ', S', P'.x, R', .ret c, q⟩)
theorem w1_retN {Q : Fl → Loc → AH → Prop} (q : Q (.ret .none) ρ H) : W1 D n .retN ρ H Q := by
  intro ss env A τ δ s t r S R
  obtain ⟨_, rfl⟩ := t
  exact wpAny_Return_none ⟨_, ρ, H, δ, S, .refl _ _ _, R, .ret .none, q⟩
theorem w1_ex {e : X} {Q : Fl → Loc → AH → Prop} (h : WE D n e ρ H fun _ H' => Q .nxt ρ H') : W1 D n (.ex e) ρ H Q := by
  intro ss env A τ δ s t r S R
  · obtain ⟨_, _, rfl, hs, t⟩ := t
    exact wpAny_Expr_any (h.bind t r S R fun v s' x H' δ' S' P' R' c q => ⟨_, ρ, H', δ', S', P'.x, R', .nxt, q⟩) (by unfold interactive; rw [R.kind]; rfl) (hs env)
theorem w1_if {c : X} {a b : List Mine.S} {Q : Fl → Loc → AH → Prop} (h : WB D n c ρ H fun z H' => if z then WS D n a ρ H' Q else WS D n b ρ H' Q) : W1 D n (.ife c a b) ρ H Q := by
  intro ss env A τ δ s t r S R
  · obtain ⟨_, _, _, _, rfl, tc, ta, tb⟩ := t
    refine wpAny_If (h.bind tc r S R fun z s' H' δ' S' P' R' q => ?_)
    cases z with
    | true => exact wpAny_mono (q _ env A τ δ' s' ta r S' R') (fun _ _ z => z.pre P'.x) fun _ _ z => z
    | false => exact wpAny_mono (q _ env A τ δ' s' tb r S' R') (fun _ _ z => z.pre P'.x) fun _ _ z => z
end




/-! assignments -/
section
variable {D : Amb} {n : Nat} {ρ : Loc} {H : AH} {A : Around} {τ : Addr → Prop} {δ : Addr → Addr} {s : Shared} {env : Env}

theorem asg_plain {t : Expr} {e : Expr} {p : Pos} {l : LV} {x : X} {Q : Fl → Loc → AH → Prop} (hs : swapsWithSole [t] e p.line env = pure false) (hw : swappedStores [t] e env = pure none) (tl : TL env.scope t l) (te : T env.scope e x)
    (h : WE D n x ρ H fun v H₁ => WA D n l v ρ H₁ fun ρ' H' => Q .nxt ρ' H') (r : Room A n) (S : St D τ δ s H) (R : EnvR D env (foot δ H) (psi τ δ H) ρ s.heap) :
    wpAny (model D.prog D.w) A (exec (.Assign [t] e p) env) (PS D τ env (foot δ H) s.heap Q) NoE s := by
  refine wpAny_Assign_stores (h.bind te r S R fun v s' x' H' δ' S' P' R' c q => ?_) hs hw
  have ha : ((assignEach [t] env).map (·.2)) = [assign t env] := by
    cases l with
    | var i => obtain ⟨_, rfl, _⟩ := tl; rfl
    | attr x i => obtain ⟨_, _, rfl, _⟩ := tl; rfl
    | item x y => obtain ⟨_, _, _, rfl, _⟩ := tl; rfl
    | many is => obtain ⟨_, _, _, rfl, _⟩ := tl; rfl
  rw [ha]
  show wpAny _ _ (assign t env v) _ _ _
  refine wpAny_mono (q t env A τ δ' s' v tl r S' R' c) (fun _ s'' hh => ?_) fun _ _ z => z
  obtain ⟨ρ', H'', δ'', a, b, c, d⟩ := hh
  exact ⟨.nxt, ρ', H'', δ'', a, P'.x.trans b, c, .nxt, d⟩
theorem w1_asg {l : LV} {x : X} {Q : Fl → Loc → AH → Prop} (hl : match l with | .many _ => False | .var _ => x.isComp = false | _ => True) (h : WE D n x ρ H fun v H₁ => WA D n l v ρ H₁ fun ρ' H' => Q .nxt ρ' H') : W1 D n (.asg l x) ρ H Q := by
  intro ss env A τ δ s t r S R
  rcases t with ⟨_, _, _, rfl, hs, hw, tl, te⟩ | ⟨_, rfl, _⟩ | ⟨_, rfl, _, _, _, _, _, _, _, _, rfl, _, _, hx, _⟩
  · exact asg_plain (hs env rfl) (hw env rfl) tl te h r S R
  · exact hl.elim
  · rw [hx] at hl; cases hl
theorem lsets_ne {ρ : Loc} {is : List Nat} {vs : List V} {j : Nat} (h : j ∉ is) : lsets ρ is vs j = ρ j := by
  induction is generalizing ρ vs with
  | nil => cases vs <;> rfl
  | cons i is ih =>
    cases vs with
    | nil => rfl
    | cons v vs =>
      rw [lsets_cons, ih (fun q => h (List.mem_cons_of_mem _ q)), lset_ne (fun q => h (by rw [q]; exact List.mem_cons_self))]
theorem lset_comm {ρ : Loc} {i j : Nat} {v w : V} (h : i ≠ j) : lset (lset ρ i v) j w = lset (lset ρ j w) i v := by
  funext k
  unfold lset
  by_cases h1 : k = j
  · subst h1
    rw [if_pos rfl, if_neg (fun q => h q.symm), if_pos rfl]
  · rw [if_neg h1]
    by_cases h2 : k = i
    · rw [if_pos h2, if_pos h2]
    · rw [if_neg h2, if_neg h2, if_neg h1]
theorem lsets_lset {ρ : Loc} {is : List Nat} {vs : List V} {i : Nat} {v : V} (h : i ∉ is) : lsets (lset ρ i v) is vs = lset (lsets ρ is vs) i v := by
  induction is generalizing ρ vs with
  | nil => cases vs <;> rfl
  | cons j is ih =>
    cases vs with
    | nil => rfl
    | cons w vs =>
      have h1 : i ≠ j := fun q => h (by rw [q]; exact List.mem_cons_self)
      rw [lsets_cons, lsets_cons, lset_comm h1, ih (fun q => h (List.mem_cons_of_mem _ q))]
theorem lsets_snoc {ρ : Loc} {is : List Nat} {vs : List V} {i : Nat} {v : V} (hl : vs.length = is.length) : lsets ρ (is ++ [i]) (vs ++ [v]) = lset (lsets ρ is vs) i v := by
  induction is generalizing ρ vs with
  | nil => cases vs with
    | nil => rfl
    | cons _ _ => cases hl
  | cons j is ih => cases vs with
    | nil => cases hl
    | cons w vs => exact ih (by simpa using hl)
theorem lsets_reverse {ρ : Loc} {is : List Nat} {vs : List V} (hn : is.Nodup) (hl : vs.length = is.length) : lsets ρ is.reverse vs.reverse = lsets ρ is vs := by
  induction is generalizing ρ vs with
  | nil => cases vs with
    | nil => rfl
    | cons _ _ => cases hl
  | cons i is ih => cases vs with
    | nil => cases hl
    | cons v vs =>
      rw [List.nodup_cons] at hn
      have hl' : vs.length = is.length := by simpa using hl
      rw [List.reverse_cons, List.reverse_cons, lsets_snoc (by simp [hl']), ih hn.2 hl', lsets_cons, lsets_lset hn.1]
theorem names_ok : ∀ {is : List Nat} {A : Around} {ρ : Loc} {s : Shared} {xs : List V} {vs : List Value}, (∀ i ∈ is, env.kindOf (nm i) = some .local) → xs.length = is.length → St D τ δ s H → EnvR D env (foot δ H) (psi τ δ H) ρ s.heap → VRs s.heap (psi τ δ H) xs vs →
    ∀ {P : Unit → Shared → Prop}, (∀ s', St D τ δ s' H → PresF env False s.heap s'.heap → EnvR D env (foot δ H) (psi τ δ H) (lsets ρ is xs) s'.heap → P () s') →
    wpAny (model D.prog D.w) A (assignInOrder (is.map fun i => bindName env (nm i)) vs) P NoE s
  | [], A, ρ, s, xs, vs, _, hl, S, R, c, P, k => by
    cases xs with
    | cons _ _ => cases hl
    | nil => cases c; exact wpAny_pure (k s S (fun _ _ e _ => e) R)
  | i :: is, A, ρ, s, xs, vs, hk, hl, S, R, c, P, k => by
    cases xs with
    | nil => cases hl
    | cons x xs =>
      cases c with
      | cons c cs =>
        rename_i v vs
        show wpAny _ _ (holding vs (bindName env (nm i) v) >>= fun _ => assignInOrder (is.map fun i => bindName env (nm i)) vs) _ _ _
        refine wpAny_bind (wpAny_holding (wpAny_bindName (store_ok S R c (.inl (hk i List.mem_cons_self)) fun s' S' P' R' => ?_)))
        exact names_ok (fun j hj => hk j (List.mem_cons_of_mem _ hj)) (by simpa using hl) S' R' (cs.mono (R.tmx (P'.x (foot δ H)))) fun s'' S'' P'' R'' => k s'' S'' ((P'.mono False.elim).trans P'') R''
inductive ManyP (is : List Nat) (ρ : Loc) (Q : Fl → Loc → AH → Prop) (v : V) (H₁ : AH) : Prop
  | mk (xs : List V) : v = .tup xs → xs.length = is.length → Q .nxt (lsets ρ is xs) H₁ → ManyP is ρ Q v H₁
theorem w1_many {is : List Nat} {x : X} {Q : Fl → Loc → AH → Prop} (h : WE D n x ρ H (ManyP is ρ Q)) : W1 D n (.asg (.many is) x) ρ H Q := by
  intro ss env A τ δ s t r S R
  rcases t with ⟨_, _, _, rfl, hs, hw, tl, te⟩ | ⟨_, hi, es, k, q, e, p, rfl, hs, hw, hn, hk, te⟩ | ⟨_, q, _⟩
  · exact asg_plain (hs env rfl) (hw env rfl) tl te (h.mono fun v H₁ ⟨xs, hv, hl, q⟩ => by subst hv; exact wa_many hl q) r S R
  · cases hi
    rw [exec_Assign_arm]
    refine wpAny_bind (wpAny_standAt ?_)
    rw [hs env rfl]
    refine wpAny_bind (wpAny_pure ?_)
    rw [if_neg (by decide)]
    refine wpAny_bind (h.bind te r S R fun v s' x' H' δ' S' P' R' c ⟨xs, hv, hl, qq⟩ => ?_)
    subst hv
    rw [hw env rfl]
    refine wpAny_bind (wpAny_pure ?_)
    obtain ⟨a, items, m, rfl, h1, h2⟩ := tup_of c
    show wpAny _ _ (do
      rule "assign.swapped-stores"
      let items ← unpackItems (.ref a) (is.map nm).length none
      assignInOrder ((is.map nm).reverse.map fun n => bindName env n) items.reverse
      pure Flow.next) _ _ _
    have hlen : (is.map nm).length = items.size := by rw [List.length_map, ← hl, h2.length]; simp
    rw [hlen]
    refine wpAny_bind (wpAny_rule (wpAny_bind (wpAny_unpackItems_tuple r.2.2 ⟨_, h1, rfl, m, rfl⟩ fun h' hx => ?_)))
    have hkp : ∀ b o, s'.heap.get? b = some o → h'.get? b = some o := fun b o e => hx b o (Nat.ne_of_lt (Heap.lt_size e)) e
    have P₁ : Pres D (foot δ' H') (foot δ' H') s'.heap h' := Pres.grow hkp
    have e1 : ((is.map nm).reverse.map fun n => bindName env n) = (is.reverse.map fun i => bindName env (nm i)) := by rw [← List.map_reverse, List.map_map]; rfl
    rw [e1]
    refine wpAny_bind (names_ok (s := { s' with heap := h' }) (xs := xs.reverse) (fun i hi => hk i (List.mem_reverse.mp hi)) (by simp [hl]) (S'.grow hkp) (R'.pres P₁ P₁.tm) (h2.mono P₁.tm).reverse fun s'' S'' P'' R'' => ?_)
    rw [lsets_reverse hn hl] at R''
    exact wpAny_pure ⟨.nxt, _, H', δ', S'', (P'.trans P₁).x.trans (P''.x _), R'', .nxt, qq⟩
  · cases q
inductive AugQ (D : Amb) (ρ : Loc) (i : Nat) (Q : Fl → Loc → AH → Prop) (a C : Addr) (z : Int) (y : V) (H₂ : AH) : Prop
  | mk (w : Int) (fs' : List (Nat × V)) : y = .int w → H₂ a = some (.inst C fs') → StoreOk D.K C i → fs'.length ≤ 500 → Q .nxt ρ (upd H₂ a (.inst C (fput fs' i (.int (z + w))))) → AugQ D ρ i Q a C z y H₂
inductive AugP (D : Amb) (n : Nat) (v : X) (ρ : Loc) (i : Nat) (Q : Fl → Loc → AH → Prop) (x : V) (H₁ : AH) : Prop
  | mk (a C : Addr) (fs : List (Nat × V)) (z : Int) : x = .ref a → H₁ a = some (.inst C fs) → AttrOk D.K C i → dget fs i = some (.int z) → WE D n v ρ H₁ (AugQ D ρ i Q a C z) → AugP D n v ρ i Q x H₁
theorem w1_aug {e v : X} {i : Nat} (hro : D.ro = false) {Q : Fl → Loc → AH → Prop}
    (h : WE D n e ρ H (AugP D n v ρ i Q)) : W1 D n (.aug e i .Add v) ρ H Q := by
  intro ss env A τ δ s t r S R
  · obtain ⟨_, _, _, _, rfl, te, tv⟩ := t
    refine wpAny_AugAssign_AttributeAny (h.bind te r S R fun ov s' x H' δ' S' P' R' c q => ?_)
    obtain ⟨a, C, fs, z, rfl, hH, ⟨k1, k2, k3⟩, hg, q⟩ := q
    cases c
    obtain ⟨es, m, I, hd, F⟩ := S'.inst hH
    obtain ⟨u, hu, hv⟩ := F.look hg
    refine get_value S'.kin I (plainGet_of k1).1 (findObj_own k2 k3 (by rfl) (by rw [lookIn_dict]; exact hu)) hv.handed ?_
    have S₁ := S'.toks (s'.toks + 1)
    have R₁ : EnvR D env (foot δ' H') (psi τ δ' H') ρ s'.heap := R'
    refine q.bind tv r S₁ R₁ fun vv s'' y H'' δ'' S'' P'' R'' c'' q => ?_
    obtain ⟨w, fs', rfl, hH', ok, hl, q⟩ := q
    cases hv; cases c''
    refine wpAny_iadd_int ?_
    refine setattr_ok hro (S''.toks _) hH' ok (.int _ _) hl fun s3 S3 P3 => ?_
    exact ⟨.nxt, ρ, _, δ'', S3, ((P'.trans P'').trans P3).x, R''.pres P3 P3.tm, .nxt, q⟩

/-! while -/
theorem w1_while {c : X} {body : List Mine.S} {Q : Fl → Loc → AH → Prop} (J : Nat → Loc → AH → Prop)
    (turn : ∀ k ρ H, J k ρ H → WB D n c ρ H fun z H' => if z then WS D n body ρ H' (fun fl ρ' H' => match fl with
      | .nxt | .cnt => ∃ m, m < k ∧ J m ρ' H'
      | .brk => Q .nxt ρ' H'
      | .ret v => Q (.ret v) ρ' H') else Q .nxt ρ H') (k : Nat) (h : J k ρ H) : W1 D n (.whl c body) ρ H Q := by
  intro ss env A τ δ s t r S R
  · obtain ⟨_, _, _, rfl, tc, tb⟩ := t
    refine wpAny_While (codeAny_mono (codeAny_whileLoop (R := fun rr s' => ∃ f, rr = .ok f ∧ PS D τ env (foot δ H) s.heap Q f s')
      (fun k s' => ∃ ρ' H' δ', J k ρ' H' ∧ St D τ δ' s' H' ∧ PresX env (foot δ H) (foot δ' H') s.heap s'.heap ∧ EnvR D env (foot δ' H') (psi τ δ' H') ρ' s'.heap) (fun k s' hI => ?_) k ⟨ρ, H, δ, h, S, .refl _ _ _, R⟩) fun rr s' hh => by obtain ⟨f, hf, p⟩ := hh; subst hf; exact p)
    obtain ⟨ρ', H', δ', hJ, S', P', R'⟩ := hI
    refine wpAny_mono ((turn k ρ' H' hJ) _ env A τ δ' s' tc r S' R') (fun z s2 hz => ?_) fun _ _ z => z.elim
    obtain ⟨H2, δ2, S2, P2, q⟩ := hz
    have R2 := R'.pres P2 P2.tm
    cases z with
    | true =>
        refine wpAny_mono (q _ env A τ δ2 s2 tb r S2 R2) (fun f s3 hh => ?_) fun _ _ z => z.elim
        obtain ⟨fl, ρ3, H3, δ3, a1, a2, a3, a4, a5⟩ := hh
        cases a4 with
        | nxt => obtain ⟨m, hm, hJ'⟩ := a5; exact ⟨m, hm, ρ3, H3, δ3, hJ', a1, (P'.trans P2.x).trans a2, a3⟩
        | cnt => obtain ⟨m, hm, hJ'⟩ := a5; exact ⟨m, hm, ρ3, H3, δ3, hJ', a1, (P'.trans P2.x).trans a2, a3⟩
        | brk => exact ⟨_, rfl, .nxt, ρ3, H3, δ3, a1, (P'.trans P2.x).trans a2, a3, .nxt, a5⟩
        | ret c => exact ⟨_, rfl, _, ρ3, H3, δ3, a1, (P'.trans P2.x).trans a2, a3, .ret c, a5⟩
    | false => exact wpAny_execs_nil ⟨_, rfl, .nxt, ρ', H2, δ2, S2, P'.trans P2.x, R2, .nxt, q⟩
end




noncomputable def SKeep (own : Addr → Prop) (h h' : Heap) : Prop := ∀ b o, ¬ own b → h.get? b = some o → h'.get? b = some o
noncomputable def Live (own : Addr → Prop) (h : Heap) : Prop := ∀ b, own b → ∃ o, h.get? b = some o
structure Itr (D : Amb) (A : Around) (τ : Addr → Prop) (I : Addr) (own dep : Addr → Prop) (tgt : Expr) (items : AH → Option (List V)) (at_ : Nat → Heap → Prop) (mid : Nat → Value → Heap → Prop) : Prop where
  live : ∀ i h, at_ i h → ∀ b, own b → ∃ o, h.get? b = some o ∧ ((∀ its n, o ≠ tupObj its n) ∨ τ b)
  dlive : ∀ i h, at_ i h → ∀ b, dep b → ∃ o, h.get? b = some o
  keep : ∀ i h h', at_ i h → (∀ b o, own b ∨ dep b → h.get? b = some o → h'.get? b = some o) → at_ i h'
  next : ∀ i s δ H xs x, at_ i s.heap → St D τ δ s H → (∀ b, own b → ¬ foot δ H b ∧ D.base.get? b = none) → items H = some xs → xs[i]? = some x → ∀ P : Option Value → Shared → Prop,
    (∀ v h' tk, SKeep own s.heap h' → Live own h' → mid i v h' → (TM s.heap (psi τ δ H) h' (psi τ δ H) → VR h' (psi τ δ H) x v) → P (some v) { s with heap := h', toks := tk }) → wpAny (model D.prog D.w) A (pyNext (.ref I)) P NoE s
  go : ∀ i v (s : Shared), mid i v s.heap → ∀ P : Unit → Shared → Prop, (∀ h', SKeep own s.heap h' → (Live own s.heap → Live own h') → at_ (i + 1) h' → P () { s with heap := h' }) → wpAny (model D.prog D.w) A (letOwnedTupleGo tgt (.ref I) v) P NoE s
  midTup : ∀ i v h, mid i v h → (∀ b, own b → (∀ its n, h.get? b ≠ some (tupObj its n)) ∨ τ b)
  done : ∀ i s δ H xs, at_ i s.heap → St D τ δ s H → items H = some xs → xs.length ≤ i → ∀ P : Option Value → Shared → Prop,
    (∀ h' tk, SKeep own s.heap h' → P none { s with heap := h', toks := tk }) → wpAny (model D.prog D.w) A (pyNext (.ref I)) P NoE s

noncomputable def tgA (tg : Tg) (v : V) (ρ : Loc) : Option Loc := match tg with
  | .one i => some (lset ρ i v)
  | .many is => v.asTup.bind fun xs => if xs.length = is.length then some (lsets ρ is xs) else none

section
variable {D : Amb} {n : Nat} {ρ : Loc} {H : AH} {A : Around} {τ : Addr → Prop} {δ : Addr → Addr} {s : Shared} {env : Env}

theorem tgt_ok {t : Expr} {tg : Tg} {v : V} {vv : Value} {ρ' : Loc} (tt : TT env.scope t tg) (hh : A.handled = none) (e : tgA tg v ρ = some ρ') (S : St D τ δ s H) (R : EnvR D env (foot δ H) (psi τ δ H) ρ s.heap) (c : VR s.heap (psi τ δ H) v vv) {P : Unit → Shared → Prop}
    (k : ∀ s', St D τ δ s' H → PresF env (∀ i ∈ tgIds tg, env.scope.names.lookup (nm i) = some .local) s.heap s'.heap → EnvR D env (foot δ H) (psi τ δ H) ρ' s'.heap → P () s') : wpAny (model D.prog D.w) A (assign t env vv) P NoE s := by
  cases tg with
  | one i =>
    obtain ⟨_, rfl, hk⟩ := tt
    cases e
    exact wpAny_assign_Name (store_ok S R c hk fun s' S' P' R' => k s' S' (P'.mono fun q => q _ List.mem_cons_self) R')
  | many is =>
    obtain ⟨_, _, _, rfl, tn⟩ := tt
    obtain ⟨xs, e1, e2⟩ := bsome e
    cases V.asTup_eq e1
    obtain ⟨hl, rfl⟩ := isome e2
    exact many_ok tn hh hl S R c k

noncomputable def tau0 (τ own : Addr → Prop) (b : Addr) : Prop := τ b ∧ ¬ own b
inductive LoopP (D : Amb) (n : Nat) (tg : Tg) (body : List Mine.S) (Q : Fl → Loc → AH → Prop) (items : AH → Option (List V)) (xs : List V) (J : Nat → Loc → AH → Prop) : Prop
  | mk : (∀ i ρ H, J i ρ H → items H = some xs) →
  (∀ i ρ H x, xs[i]? = some x → J i ρ H → ∃ ρ', tgA tg x ρ = some ρ' ∧ WS D n body ρ' H (fun fl ρ'' H' => match fl with
    | .nxt | .cnt => J (i + 1) ρ'' H'
    | .brk => Q .nxt ρ'' H'
    | .ret v => Q (.ret v) ρ'' H')) →
  (∀ ρ H, J xs.length ρ H → Q .nxt ρ H) → LoopP D n tg body Q items xs J
inductive GenP (D : Amb) (τ own : Addr → Prop) (env : Env) (φ : Addr → Prop) (h : Heap) (Q : Fl → Loc → AH → Prop) (rr : Result) (s' : Shared) : Prop
  | mk (f : Flow) (hr : rr = .ok f) (fl : Fl) (ρ' : Loc) (H' : AH) (δ' : Addr → Addr) : St D (tau0 τ own) δ' s' H' → (∀ b o, h.get? b = some o → ¬ φ b → ¬ isFr env b → ¬ own b → s'.heap.get? b = some o ∧ ¬ foot δ' H' b) →
      EnvR D env (foot δ' H') (psi (tau0 τ own) δ' H') ρ' s'.heap → FlR s'.heap (psi (tau0 τ own) δ' H') fl f → Q fl ρ' H' → GenP D τ own env φ h Q rr s'
inductive GenI (D : Amb) (τ own dep : Addr → Prop) (env : Env) (φ : Addr → Prop) (h : Heap) (xs : List V) (J : Nat → Loc → AH → Prop) (at_ : Nat → Heap → Prop) (k : Nat) (s' : Shared) : Prop
  | mk (i : Nat) (ρ' : Loc) (H' : AH) (δ' : Addr → Addr) : k = xs.length - i → i ≤ xs.length → J i ρ' H' → St D τ δ' s' H' → (∀ b o, h.get? b = some o → ¬ φ b → ¬ isFr env b → ¬ own b → s'.heap.get? b = some o ∧ ¬ foot δ' H' b) → EnvR D env (foot δ' H') (psi τ δ' H') ρ' s'.heap →
      at_ i s'.heap → (∀ b, own b → ¬ foot δ' H' b) → (∀ b, dep b → ¬ foot δ' H' b) → GenI D τ own dep env φ h xs J at_ k s'
theorem St.own {own : Addr → Prop} (S : St D τ δ s H) {h' : Heap} {tk : Nat} (ap : ∀ b, own b → ¬ foot δ H b ∧ D.base.get? b = none) (k : SKeep own s.heap h') (l : Live own h') (t : ∀ b, own b → (∀ its n, s.heap.get? b ≠ some (tupObj its n)) ∨ τ b) :
    St D τ δ { s with heap := h', toks := tk } H := S.other own k fun b hb => ⟨(ap b hb).1, (ap b hb).2, t b hb, l b hb⟩

theorem St.ownW {own : Addr → Prop} (S : St D τ δ s H) {h' : Heap} {tk : Nat} (ap : ∀ b, own b → ¬ foot δ H b ∧ D.base.get? b = none) (k : SKeep own s.heap h') (t : ∀ b, own b → (∀ its n, s.heap.get? b ≠ some (tupObj its n)) ∨ τ b) :
    St D (tau0 τ own) δ { s with heap := h', toks := tk } H ∧ TM s.heap (psi τ δ H) h' (psi (tau0 τ own) δ H) := by
  have tm : TM s.heap (psi τ δ H) h' (psi (tau0 τ own) δ H) := fun b i m e q => ⟨k b _ (fun z => (t b z).elim (fun y => y _ _ e) fun y => q (.inr y)) e, fun z => z.elim (fun z => q (.inl z)) fun z => q (.inr z.1)⟩
  refine ⟨⟨fun b o e => k b o (fun z => ?_) (S.base b o e), S.apart, fun a o e => (S.objs a o e).mono tm (fun x q => k a x (fun z => (ap a z).1 (foot_of e)) q) fun i => ⟨rfl, fun x q => k _ x (fun z => ?_) q⟩, S.inj, S.dsep, S.gens, S.os, fun b z => ?_⟩, tm⟩
  · rw [(ap b z).2] at e; cases e
  · obtain ⟨C, fs, rfl⟩ := O.inst_of i
    exact (ap _ z).1 (foot_inst e)
  · obtain ⟨o, e⟩ := S.tl b z.1
    exact ⟨o, k b o z.2 e⟩
theorem St.weak0 (S : St D τ δ s H) (own : Addr → Prop) : St D (tau0 τ own) δ s H ∧ TM s.heap (psi τ δ H) s.heap (psi (tau0 τ own) δ H) := by
  have tm : TM s.heap (psi τ δ H) s.heap (psi (tau0 τ own) δ H) := fun b i m e q => ⟨e, fun z => z.elim (fun z => q (.inl z)) fun z => q (.inr z.1)⟩
  exact ⟨⟨S.base, S.apart, fun a o e => (S.objs a o e).mono tm (fun x q => q) fun _ => ⟨rfl, fun x q => q⟩, S.inj, S.dsep, S.gens, S.os, fun b t => S.tl b t.1⟩, tm⟩
theorem EnvR.tm {φ ψ ψ' : Addr → Prop} {h h' : Heap} (R : EnvR D env φ ψ ρ h) (k : ∀ b o, isFr env b → h.get? b = some o → h'.get? b = some o) (tm : TM h ψ h' ψ') : EnvR D env φ ψ' ρ h' := by
  refine ⟨R.kind, R.glob, R.blt, ?_, fun i v e q => ?_, fun x c e => ?_, R.all, R.cinj, R.fr⟩
  · obtain ⟨m, ⟨o, es, ep, ho, r⟩, hv⟩ := R.loc
    exact ⟨m, ⟨o, es, ep, k _ _ (.inl rfl) ho, r⟩, fun i v e q => let ⟨v', a, b⟩ := hv i v e q; ⟨v', a, b.mono tm⟩⟩
  · obtain ⟨c, v', h1, ⟨o, ho, hd⟩, h3⟩ := R.cel i v e q
    exact ⟨c, v', h1, ⟨o, k c _ (.inr ⟨_, h1⟩) ho, hd⟩, h3.mono tm⟩
  · obtain ⟨⟨v, o, ho, hd⟩, h2, h3⟩ := R.cst x c e
    exact ⟨⟨v, o, k c _ (.inr ⟨_, e⟩) ho, hd⟩, h2, h3⟩

theorem for_gen {I : Addr} {own dep : Addr → Prop} {tgt : Expr} {items : AH → Option (List V)} {at_ : Nat → Heap → Prop} {mid : Nat → Value → Heap → Prop} (W : Itr D A τ I own dep tgt items at_ mid) {tg : Tg} {b : List Stmt} {body : List Mine.S}
    (tt : TT env.scope tgt tg) (tb : TSs env.scope b body) {Q : Fl → Loc → AH → Prop} {xs : List V} {J : Nat → Loc → AH → Prop} (L : LoopP D n tg body Q items xs J) (r : Room A n) (S : St D τ δ s H) (R : EnvR D env (foot δ H) (psi τ δ H) ρ s.heap)
    (h0 : at_ 0 s.heap) (ap : ∀ b, own b → ¬ foot δ H b ∧ D.base.get? b = none ∧ ¬ isFr env b) (dp : ∀ b, dep b → ¬ foot δ H b ∧ ¬ isFr env b) (hJ : J 0 ρ H) :
    codeAny (model D.prog D.w) A (.forLoop tgt (.ref I) b [] env) (fun rr s' => GenP D τ own env (foot δ H) s.heap Q rr s') s := by
  obtain ⟨L1, L2, L3⟩ := L
  refine codeAny_forLoop_any (R := fun rr s' => GenP D τ own env (foot δ H) s.heap Q rr s')
    (fun k s' => GenI D τ own dep env (foot δ H) s.heap xs J at_ k s') (fun k s' hI => ?_) _ ⟨0, ρ, H, δ, rfl, Nat.zero_le _, hJ, S, fun b o e n _ _ => ⟨e, n⟩, R, h0, fun b hb => (ap b hb).1, fun b hb => (dp b hb).1⟩
  obtain ⟨i, ρ', H', δ', hk, hi, hJ', S', P', R', ha, hap, hdp⟩ := hI
  have hx := L1 i ρ' H' hJ'
  have lv := W.live i _ ha
  have tups : ∀ b, own b → (∀ its n, s'.heap.get? b ≠ some (tupObj its n)) ∨ τ b := fun b hb => by
    obtain ⟨o, e, q⟩ := lv b hb
    exact q.imp (fun q its n z => by rw [e] at z; cases z; exact q its n rfl) id
  have presO : ∀ {h'}, SKeep own s'.heap h' → (∀ b o, s'.heap.get? b = some o → isFr env b → h'.get? b = some o) := fun k b o e f => k b o (fun hb => (ap b hb).2.2 f) e
  by_cases hlt : i < xs.length
  · obtain ⟨x, hxi⟩ : ∃ x, xs[i]? = some x := ⟨xs[i], List.getElem?_eq_getElem hlt⟩
    obtain ⟨ρ1, ht, hw⟩ := L2 i ρ' H' x hxi hJ'
    refine wpAny_mono (W.next i s' δ' H' xs x ha S' (fun b hb => ⟨hap b hb, (ap b hb).2.1⟩) hx hxi (fun r s₁ => match r with
      | none => False
      | some v => wpAny (model D.prog D.w) A (letOwnedTupleGo tgt (.ref I) v) (fun _ s₁' => wpAny (model D.prog D.w) A (assign tgt env v) (fun _ s₂ => wpAny (model D.prog D.w) A (execs b env) (fun f s₃ => match f with
            | .next | .cont => ∃ m, m < k ∧ GenI D τ own dep env (foot δ H) s.heap xs J at_ m s₃
            | .brk => GenP D τ own env (foot δ H) s.heap Q (Except.ok .next) s₃
            | .ret v => GenP D τ own env (foot δ H) s.heap Q (Except.ok (.ret v)) s₃) NoE s₂) NoE s₁') NoE s₁) (fun v h' tk sk lv' hm hv => ?_)) (fun rr s₁ hh => ?_) fun _ _ z => z.elim
    · have S1 : St D τ δ' { s' with heap := h', toks := tk } H' := S'.own (fun b hb => ⟨hap b hb, (ap b hb).2.1⟩) sk lv' tups
      have tm1 : TM s'.heap (psi τ δ' H') h' (psi τ δ' H') := fun b its m e nb => ⟨sk b _ (fun hb => (tups b hb).elim (fun q => q _ _ e) fun q => nb (.inr q)) e, nb⟩
      have hv1 := hv tm1
      refine W.go i v _ hm _ fun h2 sk2 lv2 ha2 => ?_
      have lv2 := lv2 lv'
      have tups1 := W.midTup i v h' hm
      have S2 : St D τ δ' { s' with heap := h2, toks := tk } H' := S1.own (tk := tk) (fun b hb => ⟨hap b hb, (ap b hb).2.1⟩) sk2 lv2 tups1
      have tm2 : TM h' (psi τ δ' H') h2 (psi τ δ' H') := fun b its m e nb => ⟨sk2 b _ (fun hb => (tups1 b hb).elim (fun q => q _ _ e) fun q => nb (.inr q)) e, nb⟩
      have sk12 : SKeep own s'.heap h2 := fun b o nb e => sk2 b o nb (sk b o nb e)
      have R2 := R'.tm (fun b o f e => presO sk12 b o e f) (tm1.trans tm2)
      refine tgt_ok tt r.2.2 ht S2 R2 (hv1.mono tm2) fun s3 S3 P3F R3 => ?_
      have P3 := P3F.x (foot δ' H')
      have ha3 : at_ (i + 1) s3.heap := W.keep _ _ _ ha2 fun b o hb e => hb.elim (fun hb => (P3 b o e (hap b hb) (ap b hb).2.2).1) fun hb => (P3 b o e (hdp b hb) (dp b hb).2).1
      refine wpAny_mono (hw _ env A τ δ' s3 tb r S3 R3) (fun f s4 hh => ?_) fun _ _ z => z
      obtain ⟨fl, ρ4, H4, δ4, a1, a2, a3, a4, a5⟩ := hh
      have lv3 := W.live _ _ ha3
      have hap4 : ∀ b, own b → ¬ foot δ4 H4 b := fun b hb => by
        obtain ⟨o, e, _⟩ := lv3 b hb
        exact (a2 b o e (hap b hb) (ap b hb).2.2).2
      have ha4 : at_ (i + 1) s4.heap := W.keep _ _ _ ha3 fun b o hb e => hb.elim (fun hb => (a2 b o e (hap b hb) (ap b hb).2.2).1) fun hb => (a2 b o e (hdp b hb) (dp b hb).2).1
      have hdp4 : ∀ b, dep b → ¬ foot δ4 H4 b := fun b hb => by
        obtain ⟨o, e⟩ := W.dlive _ _ ha3 b hb
        exact (a2 b o e (hdp b hb) (dp b hb).2).2
      have P4 : ∀ b o, s.heap.get? b = some o → ¬ foot δ H b → ¬ isFr env b → ¬ own b → s4.heap.get? b = some o ∧ ¬ foot δ4 H4 b := fun b o e nf nr no => by
        obtain ⟨e1, n1⟩ := P' b o e nf nr no
        obtain ⟨e3, n3⟩ := P3 b o (sk12 b o no e1) n1 nr
        exact a2 b o e3 n3 nr
      cases a4 with
      | nxt => exact ⟨xs.length - (i + 1), by omega, i + 1, ρ4, H4, δ4, rfl, hlt, a5, a1, P4, a3, ha4, hap4, hdp4⟩
      | cnt => exact ⟨xs.length - (i + 1), by omega, i + 1, ρ4, H4, δ4, rfl, hlt, a5, a1, P4, a3, ha4, hap4, hdp4⟩
      | brk =>
        obtain ⟨w1, w2⟩ := a1.weak0 own
        exact ⟨_, rfl, .nxt, ρ4, H4, δ4, w1, P4, a3.tm (fun _ _ _ e => e) w2, .nxt, a5⟩
      | ret c =>
        obtain ⟨w1, w2⟩ := a1.weak0 own
        exact ⟨_, rfl, _, ρ4, H4, δ4, w1, P4, a3.tm (fun _ _ _ e => e) w2, .ret (c.mono w2), a5⟩
    · cases rr with
      | none => exact hh.elim
      | some v => exact wpAny_mono hh (fun _ s2 h2 => wpAny_mono h2 (fun _ s3 h3 => wpAny_mono h3 (fun _ _ z => z) fun _ _ z => z.elim) fun _ _ z => z.elim) fun _ _ z => z.elim
  · have hie : i = xs.length := by omega
    subst hie
    refine wpAny_mono (W.done xs.length s' δ' H' xs ha S' hx (Nat.le_refl _) (fun r s₁ => r = none ∧ ∃ h' tk, s₁ = { s' with heap := h', toks := tk } ∧ SKeep own s'.heap h') (fun h' tk sk => ⟨rfl, h', tk, rfl, sk⟩)) (fun rr s₁ hh => ?_) fun _ _ z => z.elim
    obtain ⟨rfl, h', tk, rfl, sk⟩ := hh
    obtain ⟨S1, tm1⟩ := S'.ownW (tk := tk) (fun b hb => ⟨hap b hb, (ap b hb).2.1⟩) sk tups
    have R1 := R'.tm (fun b o f e => presO sk b o e f) tm1
    refine wpAny_execs_nil ⟨_, rfl, .nxt, ρ', H', δ', S1, fun b o e nf nr no => ?_, R1, .nxt, L3 ρ' H' hJ'⟩
    obtain ⟨e1, n1⟩ := P' b o e nf nr no
    exact ⟨sk b o no e1, n1⟩
end




section
variable {D : Amb} {n : Nat} {ρ : Loc} {H : AH} {A : Around} {τ τ' : Addr → Prop} {δ : Addr → Addr} {s : Shared} {env : Env}

theorem St.growT (S : St D τ δ s H) {h' : Heap} {tk : Nat} (hk : ∀ b o, s.heap.get? b = some o → h'.get? b = some o) (hτ : ∀ b, τ' b → τ b ∨ s.heap.get? b = none) (hl : ∀ b, τ' b → ∃ o, h'.get? b = some o) :
    St D τ' δ { s with heap := h', toks := tk } H ∧ TM s.heap (psi τ δ H) h' (psi τ' δ H) := by
  have tm : TM s.heap (psi τ δ H) h' (psi τ' δ H) := fun b i m e q => ⟨hk b _ e, fun z => z.elim (fun z => q (.inl z)) fun z => (hτ b z).elim (fun z => q (.inr z)) fun z => by rw [z] at e; cases e⟩
  exact ⟨⟨fun b o e => hk b o (S.base b o e), S.apart, fun a o e => (S.objs a o e).mono tm (fun x q => hk _ _ q) fun _ => ⟨rfl, fun x q => hk _ _ q⟩, S.inj, S.dsep, S.gens, S.os, hl⟩, tm⟩
theorem St.weakT (S : St D τ' δ s H) (h : ∀ b, τ b → τ' b) : St D τ δ s H ∧ TM s.heap (psi τ' δ H) s.heap (psi τ δ H) := by
  have tm : TM s.heap (psi τ' δ H) s.heap (psi τ δ H) := fun b i m e q => ⟨e, fun z => z.elim (fun z => q (.inl z)) fun z => q (.inr (h b z))⟩
  exact ⟨⟨S.base, S.apart, fun a o e => (S.objs a o e).mono tm (fun x q => q) fun _ => ⟨rfl, fun x q => q⟩, S.inj, S.dsep, S.gens, S.os, fun b t => S.tl b (h b t)⟩, tm⟩
theorem for_run {I : Addr} {own dep : Addr → Prop} {tgt : Expr} {items : AH → Option (List V)} {at_ : Nat → Heap → Prop} {mid : Nat → Value → Heap → Prop} (W : Itr D A τ' I own dep tgt items at_ mid) {tg : Tg} {b : List Stmt} {body : List Mine.S}
    (tt : TT env.scope tgt tg) (tb : TSs env.scope b body) {Q : Fl → Loc → AH → Prop} {xs : List V} {J : Nat → Loc → AH → Prop} (L : LoopP D n tg body Q items xs J) (r : Room A n) (S : St D τ δ s H) (R : EnvR D env (foot δ H) (psi τ δ H) ρ s.heap)
    {h1 : Heap} {tk : Nat} (hk : ∀ b o, s.heap.get? b = some o → h1.get? b = some o) (hown : ∀ b, own b → s.heap.get? b = none) (hτ : ∀ b, τ' b → τ b ∨ s.heap.get? b = none) (hτ2 : ∀ b, τ b → τ' b) (hl : ∀ b, τ' b → ∃ o, h1.get? b = some o)
    (h0 : at_ 0 h1) (hdep : ∀ b, dep b → ¬ foot δ H b ∧ ¬ isFr env b) (hJ : J 0 ρ H) :
    codeAny (model D.prog D.w) A (.forLoop tgt (.ref I) b [] env) (fun rr s' => match rr with | .ok f => PS D τ env (foot δ H) s.heap Q f s' | .error e => cameBackBy (model D.prog D.w) A env NoE e s') { s with heap := h1, toks := tk } := by
  obtain ⟨S1, tm⟩ := S.growT (tk := tk) hk hτ hl
  have R1 := R.tm (fun b o _ e => hk b o e) tm
  refine codeAny_mono (for_gen W tt tb L r S1 R1 h0 (fun b hb => ⟨fun f => ?_, ?_, fun f => ?_⟩) hdep hJ) fun rr s' hh => ?_
  · obtain ⟨x, e, _⟩ := S.live f; rw [hown b hb] at e; cases e
  · cases e : D.base.get? b with
    | none => rfl
    | some o => have := S.base _ _ e; rw [hown b hb] at this; cases this
  · obtain ⟨o, e⟩ := R.live f; rw [hown b hb] at e; cases e
  · obtain ⟨f, rfl, fl, ρ', H', δ', a1, a2, a3, a4, a5⟩ := hh
    have hτ3 : ∀ b, τ b → tau0 τ' own b := fun b t => ⟨hτ2 b t, fun hb => by obtain ⟨o, e⟩ := S.tl b t; rw [hown b hb] at e; cases e⟩
    obtain ⟨S2, tm2⟩ := a1.weakT hτ3
    have P2 : PresX env (foot δ H) (foot δ' H') s.heap s'.heap := fun b o e nf nr => a2 b o (hk b o e) nf nr fun hb => by rw [hown b hb] at e; cases e
    refine ⟨fl, ρ', H', δ', S2, P2, a3.tm (fun b o _ e => e) tm2, ?_, a5⟩
    cases a4 with
    | nxt => exact .nxt
    | brk => exact .brk
    | cnt => exact .cnt
    | ret c => exact .ret (c.mono tm2)

/-! the kinds of iterators -/
noncomputable def listItems (a : Addr) (H : AH) : Option (List V) := match H a with | some (.list xs) => some xs | _ => none
theorem listItems_some {a : Addr} {xs : List V} (e : listItems a H = some xs) : H a = some (.list xs) := by
  unfold listItems at e
  split at e
  · rename_i h; cases e; exact h
  · cases e
theorem listIter_tup {h : Heap} {I a : Addr} {i : Nat} (x : h.IsListIter I a i) : ∀ its n, h.get? I ≠ some (tupObj its n) := fun its n e => by
  obtain ⟨o, ho, hc, hd⟩ := x
  rw [e] at ho; cases ho; cases hd
theorem itr_list (hh : A.handled = none) {sc : Scope} {tgt : Expr} {tg : Tg} (tt : TT sc tgt tg) (I a : Addr) : Itr D A τ I (fun b => b = I) (fun _ => False) tgt (listItems a) (fun i h => h.IsListIter I a i) (fun i v h => h.IsListIter I a (i + 1)) where
  live := fun i h x b hb => by
    subst hb
    have t := listIter_tup x
    obtain ⟨o, ho, _⟩ := x
    exact ⟨o, ho, .inl fun its m q => t its m (by rw [ho, q])⟩
  dlive := fun _ _ _ _ hb => hb.elim
  keep := fun i h h' x k => x.at fun o e => k I o (.inl rfl) e
  next := fun i s δ H xs x h0 S ap hx hxi P k => by
    obtain ⟨items, m, h1, h2⟩ := S.objs _ _ (listItems_some hx)
    obtain ⟨v, hv, c⟩ := h2.get hxi
    refine wpAny_pyNext_list_item h0 ⟨_, h1, rfl, m, rfl⟩ (x := v) (by simpa using hv) fun h' hit hs => ?_
    exact k v h' s.toks (fun b o nb e => hs.extBut b o nb e) (fun b hb => by subst hb; obtain ⟨o, ho, _⟩ := hit; exact ⟨o, ho⟩) hit fun tm => c.mono tm
  go := fun i v s hm P k => by
    have z := k s.heap (fun _ _ _ e => e) (fun l => l) hm
    cases tg with
    | one _ => obtain ⟨_, rfl, _⟩ := tt; exact wpAny_pure z
    | many _ => obtain ⟨_, _, _, rfl, _⟩ := tt; cases v with
      | ref T => exact wpAny_letOwnedTupleGo_listiter hm z
      | _ => exact wpAny_pure z
  midTup := fun i v h x b hb => by subst hb; exact .inl (listIter_tup x)
  done := fun i s δ H xs h0 S hx hle P k => by
    obtain ⟨items, m, h1, h2⟩ := S.objs _ _ (listItems_some hx)
    refine wpAny_pyNext_list_end hh h0 ⟨_, h1, rfl, m, rfl⟩ (by rw [Array.getElem?_eq_none_iff]; have := h2.length; simp at this; omega) fun h' he => ?_
    exact k h' s.toks fun b o nb e => he b o nb e
inductive ForL (D : Amb) (n : Nat) (tg : Tg) (body : List Mine.S) (ρ : Loc) (Q : Fl → Loc → AH → Prop) (v : V) (H₁ : AH) : Prop
  | mk (a : Addr) (xs : List V) (J : Nat → Loc → AH → Prop) : v = .ref a → H₁ a = some (.list xs) → LoopP D n tg body Q (listItems a) xs J → J 0 ρ H₁ → ForL D n tg body ρ Q v H₁
theorem w1_for_list {tg : Tg} {src : X} {body : List Mine.S} {Q : Fl → Loc → AH → Prop}
    (h : WE D n src ρ H (ForL D n tg body ρ Q)) : W1 D n (.for_ tg src body) ρ H Q := by
  intro ss env A τ δ s t r S R
  · obtain ⟨_, _, _, _, rfl, hs, tt, te, tb⟩ := t
    refine wpAny_For (h.bind te r S R fun v s' x H' δ' S' P' R' c q => ?_) (hs env)
    obtain ⟨a, xs, J, rfl, hH, L, hJ⟩ := q
    cases c
    obtain ⟨items, m, h1, h2⟩ := S'.objs _ _ hH
    refine wpAny_pyIter_list ⟨_, h1, rfl, m, rfl⟩ ?_
    refine codeAny_mono (for_run (tk := s'.toks) (itr_list r.2.2 tt s'.heap.objs.size a) tt tb L r S' R' (push_keeps _ _) (fun b hb => by rw [hb]; exact S'.fresh.1) (fun b hb => .inl hb) (fun b hb => hb) (fun b hb => let ⟨o, e⟩ := S'.tl b hb; ⟨o, push_keeps _ _ _ _ e⟩)
      ⟨_, Heap.get?_push_size _ rfl, rfl, rfl⟩ (fun _ hb => hb.elim) hJ) fun rr s'' hh => ?_
    cases rr with
    | ok f => exact PS.pre P'.x hh
    | error e => exact hh
end




section
variable {D : Amb} {n : Nat} {ρ : Loc} {H : AH} {A : Around} {τ τ' : Addr → Prop} {δ : Addr → Addr} {s : Shared} {env : Env}

/-! a tuple -/
noncomputable def V.flat : V → Bool
  | .ref _ | .tup _ => false
  | _ => true
theorem VR.flat {h h' : Heap} {ψ ψ' : Addr → Prop} {x : V} {v : Value} (c : VR h ψ x v) (f : x.flat = true) : VR h' ψ' x v := by
  cases c with
  | none => exact .none
  | bool b => exact .bool b
  | int i t => exact .int i t
  | str i t => exact .str i t
  | ref a => cases f
  | tup _ _ _ => cases f
theorem VRs.flat {h h' : Heap} {ψ ψ' : Addr → Prop} {xs : List V} {vs : List Value} (r : VRs h ψ xs vs) : xs.all V.flat = true → VRs h' ψ' xs vs :=
  r.ind (P := fun xs vs => xs.all V.flat = true → VRs h' ψ' xs vs) (fun _ => .nil) fun a _ ih f => by
    rw [List.all_cons, Bool.and_eq_true] at f
    exact .cons (a.flat f.1) (ih f.2)
theorem itr_tup (hh : A.handled = none) {sc : Scope} {tgt : Expr} {i : Nat} (tt : TT sc tgt (.one i)) (I t : Addr) (hI : ¬ τ I) (xs : List V) (items : Array Value) (m : Nat) (cc : ∀ h ψ, VRs h ψ xs items.toList) (hl : xs.length = items.size) :
    Itr D A τ I (fun b => b = I) (fun b => b = t) tgt (fun _ => some xs) (fun i h => h.IsTupleIter I t i ∧ h.get? t = some (tupObj items m) ∧ t ≠ I) (fun i v h => h.IsTupleIter I t (i + 1) ∧ h.get? t = some (tupObj items m) ∧ t ≠ I) where
  live := fun i h x b hb => by
    subst hb
    obtain ⟨o, ho, hc, hd⟩ := x.1
    exact ⟨o, ho, .inl fun its m q => by subst q; cases hd⟩
  dlive := fun i h x b hb => by subst hb; exact ⟨_, x.2.1⟩
  keep := fun i h h' x k => ⟨x.1.at fun o e => k I o (.inl rfl) e, k t _ (.inr rfl) x.2.1, x.2.2⟩
  next := fun i s δ H ys x h0 S ap hx hxi P k => by
    cases hx
    obtain ⟨v, hv, _⟩ := (cc s.heap (psi τ δ H)).get hxi
    refine wpAny_pyNext_tuple_item h0.1 ⟨_, h0.2.1, rfl, m, rfl⟩ (x := v) (by simpa using hv) fun h' hit hs => ?_
    refine k v h' s.toks (fun b o nb e => hs.extBut b o nb e) (fun b hb => by subst hb; obtain ⟨o, ho, _⟩ := hit; exact ⟨o, ho⟩) ⟨hit, hs.extBut t _ h0.2.2 h0.2.1, h0.2.2⟩ fun tm => ?_
    obtain ⟨v', hv', c'⟩ := (cc h' (psi τ δ H)).get hxi
    rw [hv] at hv'; cases hv'; exact c'
  go := fun i v s hm P k => by
    have z := k s.heap (fun _ _ _ e => e) (fun l => l) hm
    · obtain ⟨_, rfl, _⟩ := tt
      exact wpAny_pure z
  midTup := fun i v h x b hb => by
    subst hb
    obtain ⟨o, ho, hc, hd⟩ := x.1
    exact .inl fun its m q => by rw [q] at ho; cases ho; cases hd
  done := fun i s δ H ys h0 S hx hle P k => by
    cases hx
    exact wpAny_pyNext_tuple_end hh h0.1 ⟨_, h0.2.1, rfl, m, rfl⟩ (by rw [Array.getElem?_eq_none_iff]; omega) fun h' he => k h' s.toks fun b o nb e => he b o nb e
theorem w1_for_tup {i : Nat} {src : X} {body : List Mine.S} {Q : Fl → Loc → AH → Prop}
    (h : WE D n src ρ H fun v H₁ => ∃ xs J, v = .tup xs ∧ xs.all V.flat = true ∧ LoopP D n (.one i) body Q (fun _ => some xs) xs J ∧ J 0 ρ H₁) : W1 D n (.for_ (.one i) src body) ρ H Q := by
  intro ss env A τ δ s t r S R
  · obtain ⟨_, _, _, _, rfl, hs, tt, te, tb⟩ := t
    refine wpAny_For (h.bind te r S R fun v s' x H' δ' S' P' R' c q => ?_) (hs env)
    obtain ⟨xs, J, rfl, hfl, L, hJ⟩ := q
    cases c with
    | tup h1 h2 h3 =>
      rename_i a m items
      refine wpAny_pyIter_tuple ⟨_, h1, rfl, m, rfl⟩ ?_
      have f := S'.fresh
      have hlt := Heap.lt_size h1
      refine codeAny_mono (for_run (tk := s'.toks) (itr_tup r.2.2 tt s'.heap.objs.size a f.2.2.2.1 xs items m (fun h ψ => h3.flat hfl) (by rw [h3.length]; simp)) tt tb L r S' R' (push_keeps _ _) (fun b hb => by rw [hb]; exact f.1) (fun b hb => .inl hb) (fun b hb => hb) (fun b hb => let ⟨o, e⟩ := S'.tl b hb; ⟨o, push_keeps _ _ _ _ e⟩)
        ⟨⟨_, Heap.get?_push_size _ rfl, rfl, rfl⟩, push_keeps _ _ _ _ h1, Nat.ne_of_lt hlt⟩ (fun b hb => by subst hb; exact ⟨fun q => h2 (.inl q), fun q => R'.notTup q _ _ h1⟩) hJ) fun rr s'' hh => ?_
      cases rr with
      | ok f => exact PS.pre P'.x hh
      | error e => exact hh

/-! a range -/
noncomputable def intsV (k : Nat) : List V := (List.range k).map fun (i : Nat) => V.int (i : Int)
theorem intsV_len (k : Nat) : (intsV k).length = k := by simp [intsV]
theorem intsV_get {k i : Nat} {x : V} (e : (intsV k)[i]? = some x) : i < k ∧ x = .int (i : Int) := by
  have hi : i < k := by
    have := (List.getElem?_eq_some_iff.mp e).1
    rw [intsV_len] at this; exact this
  refine ⟨hi, ?_⟩
  unfold intsV at e
  rw [List.getElem?_map, List.getElem?_range hi] at e
  simpa using e.symm
theorem itr_range (hh : A.handled = none) {sc : Scope} {tgt : Expr} {j : Nat} (tt : TT sc tgt (.one j)) (I : Addr) (k : Nat) :
    Itr D A τ I (fun b => b = I) (fun _ => False) tgt (fun _ => some (intsV k)) (fun i h => IsRangeIter h I (i : Int) ((k : Int) - i) 1) (fun i v h => IsRangeIter h I ((i : Int) + 1) ((k : Int) - i - 1) 1) where
  live := fun i h x b hb => by subst hb; exact ⟨_, x, .inl fun its m q => by have := congrArg Obj.cls q; simp at this⟩
  dlive := fun _ _ _ _ hb => hb.elim
  keep := fun i h h' x k => k I _ (.inl rfl) x
  next := fun i s δ H ys x h0 S ap hx hxi P kk => by
    cases hx
    obtain ⟨hi, rfl⟩ := intsV_get hxi
    refine wpAny_pyNext_range_item h0 (by omega) fun h' hit hs => ?_
    exact kk _ h' (s.toks + 1) (fun b o nb e => hs.extBut b o nb e) (fun b hb => by subst hb; exact ⟨_, hit⟩) hit fun tm => .int _ _
  go := fun i v s hm P k => by
    have z := k s.heap (fun _ _ _ e => e) (fun l => l) (by
      have e1 : (((i + 1 : Nat)) : Int) = (i : Int) + 1 := by omega
      rw [e1]
      have e2 : ∀ k : Int, k - ((i : Int) + 1) = k - i - 1 := fun k => by omega
      rw [e2]; exact hm)
    · obtain ⟨_, rfl, _⟩ := tt
      exact wpAny_pure z
  midTup := fun i v h x b hb => by subst hb; exact .inl fun its m q => by rw [x] at q; have := congrArg Obj.cls (Option.some.inj q); simp at this
  done := fun i s δ H ys h0 S hx hle P kk => by
    cases hx
    rw [intsV_len] at hle
    exact wpAny_pyNext_range_end hh h0 (by omega) fun h' he => kk h' s.toks fun b o nb e => he b o nb e
theorem wes_one {x : X} {Q : List V → AH → Prop} (h : WE D n x ρ H fun v H₁ => Q [v] H₁) : WEs D n [x] ρ H Q := wes_cons (h.mono fun v H₁ q => wes_nil q)
theorem wes_two {x y : X} {Q : List V → AH → Prop} (h : WE D n x ρ H fun v H₁ => WE D n y ρ H₁ fun w H₂ => Q [v, w] H₂) : WEs D n [x, y] ρ H Q := wes_cons (h.mono fun v H₁ q => wes_one q)
inductive ForR (D : Amb) (n : Nat) (i : Nat) (body : List Mine.S) (ρ : Loc) (Q : Fl → Loc → AH → Prop) (v : V) (H₁ : AH) : Prop
  | mk (k : Nat) (J : Nat → Loc → AH → Prop) : v = .int (k : Int) → k < 1000000 → LoopP D n (.one i) body Q (fun _ => some (intsV k)) (intsV k) J → J 0 ρ H₁ → ForR D n i body ρ Q v H₁
theorem w1_for_range {i : Nat} {src : X} {body : List Mine.S} {Q : Fl → Loc → AH → Prop} (g : Glob D 85 (.type "range"))
    (h : WE D n src ρ H (ForR D n i body ρ Q)) :
    W1 D n (.for_ (.one i) (.call 85 [src]) body) ρ H Q := by
  intro ss env A τ δ s t r S R
  · obtain ⟨_, _, _, _, rfl, hs, tt, te, tb⟩ := t
    refine wpAny_For ?_ (hs env)
    · obtain ⟨_, _, _, rfl, hk, ts⟩ := te
      refine PyProof.Rows.Call_ (name_ok g S R hk ?_)
      refine callWith_ok (first := []) (.inr (.inl ⟨_, rfl⟩)) (Qs := fun vs H₁ => ∃ v, vs = [v] ∧ ForR D n i body ρ Q v H₁)
        (wes_one (h.mono fun v H₁ q => ⟨v, rfl, q⟩)) ts r S R fun v s' x H' δ' S' P' c q => ?_
      obtain ⟨_, rfl, q⟩ := q
      obtain ⟨k, J, rfl, hk2, L, hJ⟩ := q
      have R' := R.pres P' P'.tm
      cases c with
      | cons c cs =>
        cases cs; cases c
        refine PySem.call_range_1 ?_
        refine wpAny_pyIter_range (Heap.get?_push_size _ rfl) (small_one (by decide) (by decide) (by omega) (by omega)) ?_
        rw [rangeSize_nat]
        have f := S'.fresh
        have hsz : (s'.heap.push { cls := Value.type "range", data := Data.fields #[Value.int 0 s'.toks, Value.int (k : Int) ‹Tok›, Value.int 1 (s'.toks + 1)] }).objs.size = s'.heap.objs.size + 1 := Heap.size_push ..
        dsimp only
        rw [hsz]
        have hn : s'.heap.get? (s'.heap.objs.size + 1) = none := by
          cases e : s'.heap.get? (s'.heap.objs.size + 1) with
          | none => rfl
          | some o => exact absurd (Heap.lt_size e) (Nat.not_lt.mpr (Nat.le_succ _))
        have k2 : ∀ b x (o1 o2 : Obj), s'.heap.get? b = some x → ((s'.heap.push o1).push o2).get? b = some x := fun b x o1 o2 e => Heap.get?_push_of_some _ (Heap.get?_push_of_some _ e)
        refine codeAny_mono (for_run (itr_range r.2.2 tt (s'.heap.objs.size + 1) k) tt tb L r S' R' (fun b o e => k2 b o _ _ e) (fun b hb => by rw [hb]; exact hn) (fun b hb => .inl hb) (fun b hb => hb) (fun b hb => let ⟨o, e⟩ := S'.tl b hb; ⟨o, k2 _ _ _ _ e⟩)
          (by
            have e1 : ((k : Int) - 0).toNat = k := by omega
            rw [e1, ← hsz]; simp only [Int.ofNat_zero, Int.sub_zero]
            exact Heap.get?_push_size _ rfl) (fun _ hb => hb.elim) hJ) fun rr s'' hh => ?_
        cases rr with
        | ok f => exact PS.pre P'.x hh
        | error e => exact hh
/-! enumerate -/
noncomputable def enumV (xs : List V) : List V := xs.zipIdx.map fun p => V.tup [.int (p.2 : Int), p.1]
theorem enumV_len (xs : List V) : (enumV xs).length = xs.length := by simp [enumV]
theorem enumV_get {xs : List V} {i : Nat} {x : V} (e : (enumV xs)[i]? = some x) : ∃ y, xs[i]? = some y ∧ x = .tup [.int (i : Int), y] := by
  unfold enumV at e
  rw [List.getElem?_map, List.getElem?_zipIdx] at e
  cases h : xs[i]? with
  | none => rw [h] at e; cases e
  | some y => rw [h] at e; exact ⟨y, rfl, by simpa using e.symm⟩
theorem IsEnum_tup {h : Heap} {e it : Addr} {i : Int} {old : Value} (x : IsEnum h e it i old) : ∀ its n, h.get? e ≠ some (tupObj its n) := fun its n q => by
  rw [x] at q; have := congrArg Obj.cls (Option.some.inj q); simp at this
theorem itr_enum (hh : A.handled = none) {sc : Scope} {tgt : Expr} {js : List Nat} (tt : TT sc tgt (.many js)) (I it a : Addr) (hne : I ≠ it) : Itr D A τ I (fun b => b = I ∨ b = it) (fun _ => False) tgt (fun H => (listItems a H).map enumV)
    (fun i h => (∃ old, IsEnum h I it i old) ∧ h.IsListIter it a i) (fun i v h => ∃ T item, v = .ref T ∧ IsEnumOut h I it ((i : Int) + 1) item T ∧ h.IsListIter it a (i + 1)) where
  live := fun i h x b hb => by
    obtain ⟨⟨old, he⟩, hi⟩ := x
    rcases hb with rfl | rfl
    · exact ⟨_, he, .inl fun its m q => by have := congrArg Obj.cls q; simp at this⟩
    · have t := listIter_tup hi
      obtain ⟨o, ho, _⟩ := hi
      exact ⟨o, ho, .inl fun its m q => t its m (by rw [ho, q])⟩
  dlive := fun _ _ _ _ hb => hb.elim
  keep := fun i h h' ⟨⟨old, he⟩, hi⟩ k => ⟨⟨old, k I _ (.inl (.inl rfl)) he⟩, hi.at fun o e => k it o (.inl (.inr rfl)) e⟩
  next := fun i s δ H xs x h0 S ap hx hxi P k => by
    obtain ⟨⟨old, he⟩, hi⟩ := h0
    obtain ⟨ys, hys, rfl⟩ := Option.map_eq_some_iff.mp hx
    obtain ⟨y, hy, rfl⟩ := enumV_get hxi
    obtain ⟨items, m, h1, h2⟩ := S.objs _ _ (listItems_some hys)
    obtain ⟨v, hv, c⟩ := h2.get hy
    refine wpAny_pyNext_enum_item he hi ⟨_, h1, rfl, m, rfl⟩ (x := v) (by simpa using hv) hne fun h' ho hit ht hsz hs => ?_
    have f := S.fresh
    refine k _ h' (s.toks + 1) (fun b o nb e => hs b o (fun q => nb (.inl q)) (fun q => nb (.inr q)) e) (fun b hb => ?_) ⟨_, _, rfl, ho, hit⟩ fun tm => ?_
    · rcases hb with rfl | rfl
      · exact ⟨_, ho⟩
      · obtain ⟨o, ho, _⟩ := hit; exact ⟨o, ho⟩
    · exact .tup (n := 0) ht (fun q => q.elim f.2.2.1 f.2.2.2.1) (.cons (.int _ _) (.cons (c.mono tm) .nil))
  go := fun i v s ⟨T, item, hv, ho, hi⟩ P k => by
    subst hv
    · obtain ⟨_, _, _, rfl, _⟩ := tt
      refine wpAny_letOwnedTupleGo_enum ho fun h' he hs => ?_
      refine k h' (fun b o nb e => hs.extBut b o (fun q => nb (.inl q)) e) (fun l b hb => ?_) ⟨⟨item, ?_⟩, ?_⟩
      · rcases hb with rfl | rfl
        · exact ⟨_, he⟩
        · obtain ⟨o, e⟩ := l _ (.inr rfl)
          exact ⟨o, hs.extBut _ _ (fun q => hne q.symm) e⟩
      · have e1 : (((i + 1 : Nat)) : Int) = (i : Int) + 1 := by omega
        rw [e1]; exact he
      · exact hi.at fun o e => hs.extBut _ _ (fun q => hne q.symm) e
  midTup := fun i v h ⟨T, item, hv, ho, hi⟩ b hb => by
    rcases hb with rfl | rfl
    · exact .inl fun its m q => by rw [ho] at q; have := congrArg Obj.cls (Option.some.inj q); simp at this
    · exact .inl (listIter_tup hi)
  done := fun i s δ H xs h0 S hx hle P k => by
    obtain ⟨⟨old, he⟩, hi⟩ := h0
    obtain ⟨ys, hys, rfl⟩ := Option.map_eq_some_iff.mp hx
    obtain ⟨items, m, h1, h2⟩ := S.objs _ _ (listItems_some hys)
    refine wpAny_pyNext_enum_end hh he hi ⟨_, h1, rfl, m, rfl⟩ (by rw [Array.getElem?_eq_none_iff]; have := h2.length; rw [enumV_len] at hle; simp at this; omega) fun h' he => ?_
    exact k h' s.toks fun b o nb e => he b o (fun q => nb (.inr q)) e
inductive ForE (D : Amb) (n : Nat) (js : List Nat) (body : List Mine.S) (ρ : Loc) (Q : Fl → Loc → AH → Prop) (v : V) (H₁ : AH) : Prop
  | mk (a : Addr) (xs : List V) (J : Nat → Loc → AH → Prop) : v = .ref a → H₁ a = some (.list xs) → LoopP D n (.many js) body Q (fun H => (listItems a H).map enumV) (enumV xs) J → J 0 ρ H₁ → ForE D n js body ρ Q v H₁
theorem w1_for_enum {js : List Nat} {src : X} {body : List Mine.S} {Q : Fl → Loc → AH → Prop} (g : Glob D 86 (.type "enumerate"))
    (h : WE D n src ρ H (ForE D n js body ρ Q)) :
    W1 D n (.for_ (.many js) (.call 86 [src]) body) ρ H Q := by
  intro ss env A τ δ s t r S R
  · obtain ⟨_, _, _, _, rfl, hs, tt, te, tb⟩ := t
    refine wpAny_For ?_ (hs env)
    · obtain ⟨_, _, _, rfl, hk, ts⟩ := te
      refine PyProof.Rows.Call_ (name_ok g S R hk ?_)
      refine callWith_ok (first := []) (.inr (.inl ⟨_, rfl⟩)) (Qs := fun vs H₁ => ∃ v, vs = [v] ∧ ForE D n js body ρ Q v H₁)
        (wes_one (h.mono fun v H₁ q => ⟨v, rfl, q⟩)) ts r S R fun v s' x H' δ' S' P' c q => ?_
      obtain ⟨_, rfl, q⟩ := q
      obtain ⟨a, xs, J, rfl, hH, L, hJ⟩ := q
      have R' := R.pres P' P'.tm
      cases c with
      | cons c cs =>
        cases cs; cases c
        obtain ⟨items, m, h1, h2⟩ := S'.objs _ _ hH
        refine call_enumerate_1 h1 fun h' he hi hsz hk' => ?_
        refine wpAny_pyIter_enum he ?_
        have f := S'.fresh
        have hn : s'.heap.get? (s'.heap.objs.size + 1) = none := by
          cases e : s'.heap.get? (s'.heap.objs.size + 1) with
          | none => rfl
          | some o => exact absurd (Heap.lt_size e) (Nat.not_lt.mpr (Nat.le_succ _))
        refine codeAny_mono (for_run (itr_enum r.2.2 tt (s'.heap.objs.size + 1) s'.heap.objs.size a (Nat.succ_ne_self _)) tt tb L r S' R' hk' (fun b hb => hb.elim (fun q => by rw [q]; exact hn) fun q => by rw [q]; exact f.1) (fun b hb => .inl hb) (fun b hb => hb) (fun b hb => let ⟨o, e⟩ := S'.tl b hb; ⟨o, hk' _ _ e⟩)
          ⟨⟨_, he⟩, hi⟩ (fun _ hb => hb.elim) hJ) fun rr s'' hh => ?_
        cases rr with
        | ok f => exact PS.pre P'.x hh
        | error e => exact hh

/-! zip -/
noncomputable def zipV (xs ys : List V) : List V := (xs.zip ys).map fun p => V.tup [p.1, p.2]
noncomputable def zipItems (a b : Addr) (H : AH) : Option (List V) := (listItems a H).bind fun xs => (listItems b H).map fun ys => zipV xs ys
theorem zipItems_some {a b : Addr} {zs : List V} (e : zipItems a b H = some zs) : ∃ xs ys, H a = some (.list xs) ∧ H b = some (.list ys) ∧ zs = zipV xs ys := by
  unfold zipItems at e
  obtain ⟨xs, h1, e⟩ := bsome e
  obtain ⟨ys, h2, e⟩ := msome e
  exact ⟨xs, ys, listItems_some h1, listItems_some h2, e.symm⟩
theorem zipV_get {xs ys : List V} {i : Nat} {x : V} (e : (zipV xs ys)[i]? = some x) : ∃ y z, xs[i]? = some y ∧ ys[i]? = some z ∧ x = .tup [y, z] := by
  unfold zipV at e
  rw [List.getElem?_map] at e
  obtain ⟨p, hp, rfl⟩ := Option.map_eq_some_iff.mp e
  rw [List.getElem?_zip_eq_some] at hp
  exact ⟨_, _, hp.1, hp.2, rfl⟩
inductive ZI (I TI TO i1 i2 a b : Addr) (i : Nat) (h : Heap) : Prop
  | mk (x y : Value) : IsZip h I TI TO .none → IsPair h TI (.ref i1) (.ref i2) → IsPair h TO x y → h.IsListIter i1 a i → h.IsListIter i2 b i → ZI I TI TO i1 i2 a b i h
inductive ZM (I TI TO i1 i2 a b : Addr) (i : Nat) (v : Value) (h : Heap) : Prop
  | mk (T : Addr) (x y : Value) : v = .ref T → IsZip h I TI TO (rawInt (T : Nat)) → IsPair h TI (.ref i1) (.ref i2) → IsPair h TO x y → h.IsListIter i1 a (i + 1) → h.IsListIter i2 b (i + 1) → ZM I TI TO i1 i2 a b i v h
theorem itr_zip (hh : A.handled = none) {sc : Scope} {tgt : Expr} {js : List Nat} (tt : TT sc tgt (.many js)) (I TI TO i1 i2 a b : Addr) (hτ : τ TO) (ap : ZipApart I TI TO i1 i2 a b) :
    Itr D A τ I (fun c => c = I ∨ c = TO ∨ c = i1 ∨ c = i2) (fun c => c = TI) tgt (zipItems a b)
    (ZI I TI TO i1 i2 a b) (ZM I TI TO i1 i2 a b) where
  live := fun i h q c hc => by
    obtain ⟨x, y, hz, hT, hO, h1, h2⟩ := q
    rcases hc with rfl | rfl | rfl | rfl
    · exact ⟨_, hz, .inl fun its m q => by have := congrArg Obj.cls q; simp at this⟩
    · exact ⟨_, hO, .inr hτ⟩
    · have t := listIter_tup h1
      obtain ⟨o, ho, _⟩ := h1
      exact ⟨o, ho, .inl fun its m q => t its m (by rw [ho, q])⟩
    · have t := listIter_tup h2
      obtain ⟨o, ho, _⟩ := h2
      exact ⟨o, ho, .inl fun its m q => t its m (by rw [ho, q])⟩
  dlive := fun i h q c hc => by obtain ⟨x, y, hz, hT, hO, h1, h2⟩ := q; subst hc; exact ⟨_, hT⟩
  keep := fun i h h' q k => by
    obtain ⟨x, y, hz, hT, hO, h1, h2⟩ := q
    exact ⟨x, y, k _ _ (.inl (.inl rfl)) hz, k _ _ (.inr rfl) hT, k _ _ (.inl (.inr (.inl rfl))) hO, h1.at fun o e => k _ o (.inl (.inr (.inr (.inl rfl)))) e, h2.at fun o e => k _ o (.inl (.inr (.inr (.inr rfl)))) e⟩
  next := fun i s δ H xs x h0 S ap' hx hxi P k => by
    obtain ⟨x0, y0, hz, hT, hO, h1, h2⟩ := h0
    obtain ⟨ys, zs, hys, hzs, rfl⟩ := zipItems_some hx
    obtain ⟨y, z, hy, hz', rfl⟩ := zipV_get hxi
    obtain ⟨items, m, g1, g2⟩ := S.objs _ _ hys
    obtain ⟨items', m', g1', g2'⟩ := S.objs _ _ hzs
    obtain ⟨v, hv, c⟩ := g2.get hy
    obtain ⟨v', hv', c'⟩ := g2'.get hz'
    refine wpAny_pyNext_zip_item ap hz hT hO h1 h2 ⟨_, g1, rfl, m, rfl⟩ ⟨_, g1', rfl, m', rfl⟩ (x := v) (y := v') (by simpa using hv) (by simpa using hv') fun h' k1 k2 k3 k4 k5 k6 hs => ?_
    have f := S.fresh
    refine k _ h' s.toks (fun b o nb e => hs b o (fun q => nb (.inl q)) (fun q => nb (.inr (.inl q))) (fun q => nb (.inr (.inr (.inl q)))) (fun q => nb (.inr (.inr (.inr q)))) e) (fun b hb => ?_)
      ⟨_, _, _, rfl, k1, hs _ _ ap.TIz ap.TITO ap.TIi1 ap.TIi2 hT, k2, k3, k4⟩ fun tm => ?_
    · rcases hb with rfl | rfl | rfl | rfl
      · exact ⟨_, k1⟩
      · exact ⟨_, k2⟩
      · obtain ⟨o, ho, _⟩ := k3; exact ⟨o, ho⟩
      · obtain ⟨o, ho, _⟩ := k4; exact ⟨o, ho⟩
    · exact .tup (n := 0) k5 (fun q => q.elim f.2.2.1 f.2.2.2.1) (.cons (c.mono tm) (.cons (c'.mono tm) .nil))
  go := fun i v s q P k => by
    obtain ⟨T, x, y, rfl, hz, hT, hO, h1, h2⟩ := q
    · obtain ⟨_, _, _, rfl, _⟩ := tt
      refine wpAny_letOwnedTupleGo_zip hz fun h' he hs => ?_
      have kk : ∀ c o, c ≠ I → s.heap.get? c = some o → h'.get? c = some o := fun c o q e => hs.extBut _ _ q e
      refine k h' (fun b o nb e => kk b o (fun q => nb (.inl q)) e) (fun l b hb => ?_) ⟨x, y, he, kk _ _ ap.TIz hT, kk _ _ ap.TOz hO, h1.at fun o e => kk _ _ ap.i1z e, h2.at fun o e => kk _ _ ap.i2z e⟩
      by_cases q : b = I
      · subst q; exact ⟨_, he⟩
      · obtain ⟨o, e⟩ := l _ hb
        exact ⟨o, kk _ _ q e⟩
  midTup := fun i v h q b hb => by
    obtain ⟨T, x, y, hv, hz, hT, hO, h1, h2⟩ := q
    rcases hb with rfl | rfl | rfl | rfl
    · exact .inl fun its m q => by rw [hz] at q; have := congrArg Obj.cls (Option.some.inj q); simp at this
    · exact .inr hτ
    · exact .inl (listIter_tup h1)
    · exact .inl (listIter_tup h2)
  done := fun i s δ H xs h0 S hx hle P k => by
    obtain ⟨x0, y0, hz, hT, hO, h1, h2⟩ := h0
    obtain ⟨ys, zs, hys, hzs, rfl⟩ := zipItems_some hx
    obtain ⟨items, m, g1, g2⟩ := S.objs _ _ hys
    obtain ⟨items', m', g1', g2'⟩ := S.objs _ _ hzs
    have l1 := g2.length
    have l2 := g2'.length
    have hl : (zipV ys zs).length = min ys.length zs.length := by simp [zipV]
    rw [hl] at hle
    refine wpAny_pyNext_zip_end hh ap hz hT hO h1 h2 ⟨_, g1, rfl, m, rfl⟩ ⟨_, g1', rfl, m', rfl⟩ ?_ fun h' hs => ?_
    · simp only [Array.getElem?_eq_none_iff]
      simp at l1 l2
      omega
    · exact k h' s.toks fun b o nb e => hs b o (fun q => nb (.inl q)) (fun q => nb (.inr (.inl q))) (fun q => nb (.inr (.inr (.inl q)))) (fun q => nb (.inr (.inr (.inr q)))) e
inductive ForZ (D : Amb) (n : Nat) (js : List Nat) (body : List Mine.S) (ρ : Loc) (Q : Fl → Loc → AH → Prop) (v v' : V) (H₁ : AH) : Prop
  | mk (a b : Addr) (xs ys : List V) (J : Nat → Loc → AH → Prop) : v = .ref a → v' = .ref b → H₁ a = some (.list xs) → H₁ b = some (.list ys) → LoopP D n (.many js) body Q (zipItems a b) (zipV xs ys) J → J 0 ρ H₁ → ForZ D n js body ρ Q v v' H₁
theorem w1_for_zip {js : List Nat} {src src' : X} {body : List Mine.S} {Q : Fl → Loc → AH → Prop} (g : Glob D 87 (.type "zip"))
    (h : WE D n src ρ H fun v H₁ => WE D n src' ρ H₁ (ForZ D n js body ρ Q v)) :
    W1 D n (.for_ (.many js) (.call 87 [src, src']) body) ρ H Q := by
  intro ss env A τ δ s t r S R
  · obtain ⟨_, _, _, _, rfl, hs, tt, te, tb⟩ := t
    refine wpAny_For ?_ (hs env)
    · obtain ⟨_, _, _, rfl, hk, ts⟩ := te
      refine PyProof.Rows.Call_ (name_ok g S R hk ?_)
      refine callWith_ok (first := []) (.inr (.inl ⟨_, rfl⟩)) (Qs := fun vs H₁ => ∃ v v', vs = [v, v'] ∧ ForZ D n js body ρ Q v v' H₁)
        (wes_two (h.mono fun v H₁ q => q.mono fun v' H₂ q => ⟨v, v', rfl, q⟩)) ts r S R fun v s' x H' δ' S' P' c q => ?_
      obtain ⟨_, _, rfl, q⟩ := q
      obtain ⟨a, b, xs, ys, J, rfl, rfl, hH, hH', L, hJ⟩ := q
      have R' := R.pres P' P'.tm
      cases c with
      | cons c cs =>
        cases cs with
        | cons c' cs =>
        cases cs; cases c; cases c'
        obtain ⟨items, m, h1, h2⟩ := S'.objs _ _ hH
        obtain ⟨items', m', h1', h2'⟩ := S'.objs _ _ hH'
        have la := Heap.lt_size h1
        have lb := Heap.lt_size h1'
        refine call_zip_2 ⟨_, h1, rfl, m, rfl⟩ ⟨_, h1', rfl, m', rfl⟩ fun h' k1 k2 k3 k4 k5 hsz hk' => ?_
        refine wpAny_pyIter_zip k1 ?_
        have hn : ∀ j, s'.heap.get? (s'.heap.objs.size + j) = none := fun j => by
          cases e : s'.heap.get? (s'.heap.objs.size + j) with
          | none => rfl
          | some o => exact absurd (Heap.lt_size e) (Nat.not_lt.mpr (Nat.le_add_right _ _))
        have dn : ∀ j, ¬ foot δ' H' (s'.heap.objs.size + j) ∧ ¬ isFr env (s'.heap.objs.size + j) := fun j => ⟨fun q => absurd (S'.lt q) (Nat.not_lt.mpr (Nat.le_add_right _ _)), fun q => by obtain ⟨o, e⟩ := R'.live q; rw [hn] at e; cases e⟩
        generalize hB : s'.heap.objs.size = B at *
        have ap : ZipApart (B + 4) (B + 2) (B + 3) B (B + 1) a b := by
          have la : @LT.lt Nat _ a B := la
          have lb : @LT.lt Nat _ b B := lb
          constructor <;> (intro h; have h : @Eq Nat _ _ := h; omega)
        refine codeAny_mono (for_run (τ' := fun c => τ c ∨ c = B + 3) (itr_zip r.2.2 tt (B + 4) (B + 2) (B + 3) B (B + 1) a b (.inr rfl) ap) tt tb L r S' R' hk' (fun c hc => by
            rcases hc with q | q | q | q
            · rw [q]; exact hn 4
            · rw [q]; exact hn 3
            · rw [q]; exact hn 0
            · rw [q]; exact hn 1)
          (fun c hc => hc.imp id fun q => by rw [q]; exact hn 3) (fun c hc => .inl hc) (fun c hc => by
            rcases hc with hc | rfl
            · obtain ⟨o, e⟩ := S'.tl c hc; exact ⟨o, hk' _ _ e⟩
            · exact ⟨_, k3⟩)
          ⟨_, _, k1, k2, k3, k4, k5⟩ (fun c hc => by rw [hc]; exact dn 2) hJ) fun rr s'' hh => ?_
        cases rr with
        | ok f => exact PS.pre P'.x hh
        | error e => exact hh
end




/-! comprehensions: the surroundings -/
noncomputable def cellsOf' (env : Env) : List (Str × NameKind) → List (Str × Addr) → List (Str × Addr)
  | [], cs => cs
  | (n, k) :: r, cs => cellsOf' env r (if k == .free then (n, (env.cells.lookup n).getD 0) :: cs else cs)
theorem closure_go (env : Env) : ∀ (l : List (Str × NameKind)) (cs : List (Str × Addr)), (∀ x ∈ l, x.2 = .free → (env.cells.lookup x.1).isSome = true) →
    (forIn l cs fun (x : Str × NameKind) r => (if x.2 == .free then (do let c ← cellOf env x.1; pure (ForInStep.yield ((x.1, c) :: r))) else pure (ForInStep.yield r) : Sem (ForInStep (List (Str × Addr))))) = pure (cellsOf' env l cs)
  | [], cs, _ => rfl
  | (n, k) :: r, cs, h => by
    rw [List.forIn_cons]
    have ih := fun cs => closure_go env r cs fun x hx => h x (List.mem_cons_of_mem _ hx)
    by_cases hk : k = .free
    · subst hk
      obtain ⟨c, hc⟩ := Option.isSome_iff_exists.mp (h (n, .free) List.mem_cons_self rfl)
      have e : cellOf env n = pure c := by unfold cellOf; rw [hc]
      dsimp only
      rw [if_pos (by rfl), e]
      show (forIn r ((n, c) :: cs) _ : Sem _) = _
      rw [ih, show cellsOf' env ((n, NameKind.free) :: r) cs = cellsOf' env r ((n, c) :: cs) from by
        show cellsOf' env r (if (NameKind.free == NameKind.free) = true then (n, (env.cells.lookup n).getD 0) :: cs else cs) = _
        rw [if_pos (by rfl)]
        have hc' : env.cells.lookup n = some c := hc
        rw [hc']; rfl]
    · have : (k == NameKind.free) = false := by simpa using hk
      dsimp only
      rw [if_neg (by rw [this]; decide)]
      show (forIn r cs _ : Sem _) = _
      rw [ih, show cellsOf' env ((n, k) :: r) cs = cellsOf' env r cs from by
        show cellsOf' env r (if (k == NameKind.free) = true then (n, (env.cells.lookup n).getD 0) :: cs else cs) = _
        rw [if_neg (by rw [this]; decide)]]
theorem closure_ok {env : Env} {scope : Scope} (h : ∀ x ∈ scope.names, x.2 = .free → (env.cells.lookup x.1).isSome = true) : closureFor scope env = pure (cellsOf' env scope.names []) := by
  have := closure_go env scope.names [] h
  have e : closureFor scope env = (forIn scope.names ([] : List (Str × Addr)) fun (x : Str × NameKind) r => (if x.2 == .free then (do let c ← cellOf env x.1; pure (ForInStep.yield ((x.1, c) :: r))) else pure (ForInStep.yield r) : Sem (ForInStep (List (Str × Addr))))) >>= fun s => pure s := rfl
  rw [e, this]; rfl
theorem cellsOf'_lookup {env : Env} {x : Str} {c : Addr} : ∀ {l : List (Str × NameKind)} {cs : List (Str × Addr)}, (∀ y ∈ l, y.2 = .free → (env.cells.lookup y.1).isSome = true) → (cellsOf' env l cs).lookup x = some c → cs.lookup x = some c ∨ env.cells.lookup x = some c
  | [], cs, _, h => .inl h
  | (n, k) :: r, cs, ha, h => by
    have hr : ∀ y ∈ r, y.2 = .free → (env.cells.lookup y.1).isSome = true := fun y hy => ha y (List.mem_cons_of_mem _ hy)
    by_cases hk : k = .free
    · subst hk
      obtain ⟨c', hc⟩ := Option.isSome_iff_exists.mp (ha (n, .free) List.mem_cons_self rfl)
      have hc' : env.cells.lookup n = some c' := hc
      have h : (cellsOf' env r ((n, (env.cells.lookup n).getD 0) :: cs)).lookup x = some c := h
      rcases cellsOf'_lookup hr h with q | q
      · rw [List.lookup_cons] at q
        split at q
        · rename_i e
          have e : x = n := by simpa using e
          rw [hc'] at q
          refine .inr (by rw [e, hc']; exact q)
        · exact .inl q
      · exact .inr q
    · have hb : (k == NameKind.free) = false := by simpa using hk
      have h : (cellsOf' env r (if (k == .free) = true then (n, (env.cells.lookup n).getD 0) :: cs else cs)).lookup x = some c := h
      rw [if_neg (by rw [hb]; decide)] at h
      exact cellsOf'_lookup hr h
theorem cellsOf'_some {env : Env} {x : Str} : ∀ {l : List (Str × NameKind)} {cs : List (Str × Addr)}, (cs.lookup x).isSome = true ∨ (x, NameKind.free) ∈ l → ((cellsOf' env l cs).lookup x).isSome = true
  | [], cs, h => h.elim id fun q => nomatch q
  | (n, k) :: r, cs, h => by
    show ((cellsOf' env r (if (k == .free) = true then (n, (env.cells.lookup n).getD 0) :: cs else cs)).lookup x).isSome = true
    refine cellsOf'_some ?_
    rcases h with h | h
    · split
      · left; rw [List.lookup_cons]; split <;> simp [h]
      · exact .inl h
    · rcases List.mem_cons.mp h with q | q
      · injection q with q1 q2
        subst q1; subst q2
        left; rw [if_pos (by rfl)]; simp [List.lookup_cons]
      · exact .inr q

theorem nm_ne_dot0 (i : Nat) : (nm i == (".0" : Str)) = false := by
  refine beq_eq_false_iff_ne.mpr fun h => ?_
  unfold nm at h
  cases hi : names[i]? with
  | some s =>
    rw [hi] at h
    dsimp only at h
    have : ∀ s ∈ names, s ≠ (".0" : Str) := by decide +kernel
    exact this _ (List.mem_of_getElem? hi) h
  | none =>
    rw [hi] at h
    dsimp only at h
    have := congrArg (fun s : Str => s.cps.size) h
    revert this; simp; decide +kernel

structure CompOk (cs sc : Scope) : Prop where
  kind : cs.kind = .function
  nocell : ∀ y ∈ cs.names, y.2 ≠ .cell
  locals : ∀ y ∈ cs.names, y.2 = .local → cs.names.lookup y.1 = some .local
  frees : ∀ y ∈ cs.names, y.2 = .free → sc.names.lookup y.1 = some .cell
theorem compOk_ok {cs sc : Scope} (h : compOk cs sc = true) : CompOk cs sc := by
  unfold compOk at h
  simp only [Bool.and_eq_true, List.all_eq_true, Bool.or_eq_true, beq_iff_eq, bne_iff_ne] at h
  obtain ⟨⟨⟨⟨h1, h2⟩, h3⟩, h4⟩, h5⟩ := h
  exact ⟨h1, h2, fun y hy e => (h3 y hy).resolve_left (fun q => q e), fun y hy e => (h4 y hy).resolve_left (fun q => q e)⟩

theorem lookup_mem' {α : Type} {x : Str} {k : α} : ∀ {l : List (Str × α)}, l.lookup x = some k → (x, k) ∈ l
  | [], h => by cases h
  | (n, k') :: r, h => by
    rw [List.lookup_cons] at h
    split at h
    · rename_i e
      have e : x = n := by simpa using e
      cases h; rw [e]; exact List.mem_cons_self
    · exact List.mem_cons_of_mem _ (lookup_mem' h)

section
variable {D : Amb} {n : Nat} {ρ : Loc} {H : AH} {A : Around} {τ : Addr → Prop} {δ : Addr → Addr} {s : Shared} {env : Env}

theorem relabel_eq (cs : Scope) (env : Env) : relabel cs env = relabelS cs env.scope := rfl
theorem comp_env {cs : Scope} {tg : Tg} (hok : CompOk cs env.scope) (hcov : tgCover tg cs = true) (S : St D τ δ s H) (R : EnvR D env (foot δ H) (psi τ δ H) ρ s.heap) {h' : Heap} {C : Addr} (hC : s.heap.get? C = none)
    (hn : h'.Ns C fun _ => none) (hk : ∀ b o, s.heap.get? b = some o → h'.get? b = some o) :
    EnvR D (compEnvC cs (cellsOf' env cs.names []) C env) (foot δ H) (psi τ δ H) (fun i => if i ∈ tgIds tg then none else ρ i) h' := by
  have tm : TM s.heap (psi τ δ H) h' (psi τ δ H) := fun b i m e q => ⟨hk b _ e, q⟩
  have cells : ∀ y ∈ cs.names, y.2 = .free → (env.cells.lookup y.1).isSome = true := fun y hy e => R.all _ (.inl (hok.frees y hy e))
  have look : ∀ x c, (cellsOf' env cs.names []).lookup x = some c → env.cells.lookup x = some c := fun x c h => (cellsOf'_lookup cells h).resolve_left (fun q => by cases q)
  -- kinds in the new scope
  have kinds : ∀ x k, (relabelS cs env.scope).names.lookup x = some k → (k = .cell ∧ (x, NameKind.free) ∈ cs.names) ∨ (k ≠ .cell ∧ k ≠ .free ∧ (x, k) ∈ cs.names) := fun x k h => by
    have hm := lookup_mem' h
    obtain ⟨⟨n', k'⟩, hy, he⟩ := List.mem_map.mp hm
    dsimp only at he
    by_cases hf : k' = .free
    · subst hf
      have h2 := hok.frees _ hy rfl
      have : (NameKind.free == NameKind.free && env.scope.kind == .function && env.scope.names.lookup n' == some .cell) = true := by
        have h2 : env.scope.names.lookup n' = some .cell := h2
        rw [h2, R.kind]; rfl
      rw [if_pos this] at he
      injection he with e1 e2
      subst e1; subst e2
      exact .inl ⟨rfl, hy⟩
    · have : ¬ (k' == NameKind.free && env.scope.kind == .function && env.scope.names.lookup n' == some .cell) = true := by
        have : (k' == NameKind.free) = false := by simpa using hf
        rw [this]; simp
      rw [if_neg this] at he
      injection he with e1 e2
      subst e1; subst e2
      exact .inr ⟨hok.nocell _ hy, hf, hy⟩
  have dead : ∀ c, s.heap.get? c = none → D.base.get? c = none ∧ ¬ foot δ H c := fun c hc => by
    refine ⟨?_, fun f => ?_⟩
    · cases e : D.base.get? c with
      | none => rfl
      | some o => rw [S.base _ _ e] at hc; cases hc
    · obtain ⟨o, e, _⟩ := S.live f; rw [hc] at e; cases e
  refine ⟨hok.kind, R.glob, R.blt, ⟨_, hn, fun i v e q => ?_⟩, fun i v e q => ?_, fun x c e => ?_, fun x q => ?_, fun x y c e1 e2 => R.cinj x y c (look _ _ e1) (look _ _ e2), dead C hC⟩
  · rcases kinds _ _ q with ⟨q1, _⟩ | ⟨_, _, q3⟩
    · cases q1
    · have := List.all_eq_true.mp ((Bool.and_eq_true _ _).mp hcov).1 _ q3
      dsimp only at this
      rw [nm_ne_dot0] at this
      simp only [Bool.or_false, Bool.or_eq_true, bne_self_eq_false, Bool.false_eq_true, false_or, List.any_eq_true, beq_iff_eq] at this
      obtain ⟨j, hj, hji⟩ := this
      rw [nm_inj hji] at hj
      rw [if_pos hj] at e; cases e
  · have hfree : (nm i, NameKind.free) ∈ cs.names := by
      rcases q with q | q
      · rcases kinds _ _ q with ⟨_, q2⟩ | ⟨q1, _⟩
        · exact q2
        · exact absurd rfl q1
      · rcases kinds _ _ q with ⟨q1, _⟩ | ⟨_, q1, _⟩
        · cases q1
        · exact absurd rfl q1
    have e' : ρ i = some v := by
      split at e
      · cases e
      · exact e
    obtain ⟨c, v', g1, ⟨o, ho, hd⟩, g3⟩ := R.cel i v e' (.inl (hok.frees _ hfree rfl))
    obtain ⟨c', hc'⟩ := Option.isSome_iff_exists.mp (cellsOf'_some (env := env) (cs := []) (.inr hfree))
    have := look _ _ hc'
    rw [g1] at this; cases this
    exact ⟨c, v', hc', ⟨o, hk _ _ ho, hd⟩, g3.mono tm⟩
  · obtain ⟨⟨v, o, ho, hd⟩, g⟩ := R.cst x c (look _ _ e)
    exact ⟨⟨v, o, hk _ _ ho, hd⟩, g⟩
  · refine cellsOf'_some (.inr ?_)
    rcases q with q | q
    · rcases kinds _ _ q with ⟨_, q2⟩ | ⟨q1, _⟩
      · exact q2
      · exact absurd rfl q1
    · rcases kinds _ _ q with ⟨q1, _⟩ | ⟨_, q1, _⟩
      · cases q1
      · exact absurd rfl q1

/-! the same surroundings, only read -/
noncomputable def Amb.rd (D : Amb) : Amb := { D with ro := true }
theorem OR.rd {h : Heap} {ψ : Addr → Prop} {a : Addr} {o : O} (x : OR D h ψ δ a o) : OR D.rd h ψ δ a o := by cases o <;> exact x
theorem OR.unrd {h : Heap} {ψ : Addr → Prop} {a : Addr} {o : O} (x : OR D.rd h ψ δ a o) : OR D h ψ δ a o := by cases o <;> exact x
theorem St.rd (S : St D τ δ s H) : St D.rd τ δ s H := ⟨S.base, S.apart, fun a o e => (S.objs a o e).rd, S.inj, S.dsep, S.gens, S.os, S.tl⟩
theorem St.unrd (S : St D.rd τ δ s H) : St D τ δ s H := ⟨S.base, S.apart, fun a o e => (S.objs a o e).unrd, S.inj, S.dsep, S.gens, S.os, S.tl⟩
theorem EnvR.rd {φ ψ : Addr → Prop} {h : Heap} (R : EnvR D env φ ψ ρ h) : EnvR D.rd env φ ψ ρ h := ⟨R.kind, R.glob, R.blt, R.loc, R.cel, R.cst, R.all, R.cinj, R.fr⟩
theorem EnvR.unrd {φ ψ : Addr → Prop} {h : Heap} (R : EnvR D.rd env φ ψ ρ h) : EnvR D env φ ψ ρ h := ⟨R.kind, R.glob, R.blt, R.loc, R.cel, R.cst, R.all, R.cinj, R.fr⟩

noncomputable def PureE (D : Amb) (n : Nat) (x : X) (ρ : Loc) (H : AH) (v : V) : Prop := WE D.rd n x ρ H fun u H' => u = v ∧ H' = H
noncomputable def PureB (D : Amb) (n : Nat) (x : X) (ρ : Loc) (H : AH) (b : Bool) : Prop := WB D.rd n x ρ H fun u H' => u = b ∧ H' = H
noncomputable def Tests (D : Amb) (n : Nat) (ifs : List X) (ρ : Loc) (H : AH) (b : Bool) : Prop := match ifs with
  | [] => b = true
  | [c] => PureB D n c ρ H b
  | _ => False

/-! the loop's code -/
theorem codeAny_comp {prog : Program} {w : World} {elt tgt iter : Expr} {ifs : List Expr} {scope : Scope} {pos : Pos} {it acc : Value} {env : Env} {RR : Result → Shared → Prop} (I : Nat → Shared → Prop)
    (turn : ∀ n s, I n s → wpAny (model prog w) A (pyNext it) (fun r s₁ => match r with
      | none => RR (.ok .next) s₁
      | some v => wpAny (model prog w) A (letOwnedTupleGo tgt it v) (fun _ s₁' => wpAny (model prog w) A (assign tgt env v) (fun _ s₂ =>
          wpAny (model prog w) A (forIn ifs true fun c r => if r = true then do let ok ← isTrue c env (eval c env); pure (ForInStep.yield ok) else pure (ForInStep.yield r)) (fun ok s₃ =>
            if ok = true then wpAny (model prog w) A (eval elt env) (fun x s₄ =>
              wpAny (model prog w) A (call (.builtin "list.append") [acc, x]) (fun _ s₅ => ∃ m, m < n ∧ I m s₅) NoE s₄) NoE s₃
            else ∃ m, m < n ∧ I m s₃) NoE s₂) NoE s₁') NoE s₁) NoE s)
    (n : Nat) (h : I n s) : codeAny (model prog w) A (.compLoop (.ListComp elt [⟨tgt, iter, ifs, 0⟩] scope pos) 0 it acc env) RR s := by
  refine codeAny_loop rfl I (fun n s hI => ?_) n h
  show wpAny _ A ((compTurn (.ListComp elt [⟨tgt, iter, ifs, 0⟩] scope pos) 0 it acc env).onRaise (fun x => do noteFrame x env; theTreesLotGoes x)) _ _ s
  refine wpAny_noted ?_
  rw [compTurn_list]
  refine wpAny_bind (wpAny_standAt (wpAny_bind (wpAny_mono (turn n s hI) (fun r s₁ h₁ => ?_) fun _ _ h' => h'.elim)))
  cases r with
  | none => exact wpAny_pure h₁
  | some v =>
    refine wpAny_bind (wpAny_mono h₁ (fun _ s₁' h₁' => ?_) fun _ _ h' => h'.elim)
    refine wpAny_bind (wpAny_mono h₁' (fun _ s₂ h₂ => wpAny_bind (wpAny_mono h₂ (fun ok s₃ h₃ => ?_) fun _ _ h' => h'.elim)) fun _ _ h' => h'.elim)
    cases ok with
    | false => exact wpAny_pure ⟨rfl, h₃⟩
    | true =>
      exact wpAny_bind (wpAny_bind (wpAny_mono h₃ (fun x s₄ h₄ => wpAny_bind (wpAny_mono h₄ (fun _ s₅ h₅ => wpAny_pure (wpAny_pure ⟨rfl, h₅⟩)) fun _ _ h' => h'.elim)) fun _ _ h' => h'.elim))
end




section
variable {D : Amb} {n : Nat} {ρ : Loc} {H : AH} {A : Around} {τ τ' : Addr → Prop} {δ : Addr → Addr} {s : Shared} {env : Env}

theorem lsets_congr {ρ ρ' : Loc} : ∀ {is : List Nat} {vs : List V}, vs.length = is.length → (∀ j, j ∉ is → ρ j = ρ' j) → lsets ρ is vs = lsets ρ' is vs
  | [], [], _, h => funext fun j => h j (by simp)
  | i :: is, v :: vs, hl, h => by
    refine lsets_congr (is := is) (vs := vs) (ρ := lset ρ i v) (ρ' := lset ρ' i v) (by simpa using hl) fun j hj => ?_
    by_cases q : j = i
    · subst q; rw [lset_self, lset_self]
    · rw [lset_ne q, lset_ne q]
      exact h j (by simp [q, hj])
  | [], _ :: _, hl, _ => by cases hl
  | _ :: _, [], hl, _ => by cases hl
theorem tgA_congr {tg : Tg} {x : V} {ρ ρ' ρ1 : Loc} (h : ∀ j, j ∉ tgIds tg → ρ' j = ρ j) (e : tgA tg x ρ = some ρ1) : tgA tg x ρ' = some ρ1 ∧ ∀ j, j ∉ tgIds tg → ρ1 j = ρ j := by
  cases tg with
  | one i =>
    cases e
    refine ⟨congrArg some (lsets_congr (is := [i]) (vs := [x]) rfl h), fun j hj => ?_⟩
    exact lset_ne (by simpa [tgIds] using hj)
  | many is =>
    obtain ⟨xs, e1, e2⟩ := bsome e
    cases V.asTup_eq e1
    obtain ⟨hl, rfl⟩ := isome e2
    exact ⟨(if_pos hl).trans (congrArg some (lsets_congr hl h)), fun j hj => lsets_ne hj⟩

theorem tests_ok {ifs : List Expr} {is : List X} {b : Bool} (t : Ts env.scope ifs is) (h : Tests D n is ρ H b) (r : Room A n) (S : St D τ δ s H) (R : EnvR D env (foot δ H) (psi τ δ H) ρ s.heap) :
    wpAny (model D.prog D.w) A (forIn ifs true fun c r => if r = true then do let ok ← isTrue c env (eval c env); pure (ForInStep.yield ok) else pure (ForInStep.yield r)) (fun ok s' => ok = b ∧ ∃ δ', St D τ δ' s' H ∧ Pres D.rd (foot δ H) (foot δ' H) s.heap s'.heap) NoE s := by
  cases is with
  | nil => cases t; exact wpAny_tests_nil ⟨h.symm, δ, S, .refl _ _ _⟩
  | cons x xs =>
    obtain ⟨_, _, rfl, tc, ts⟩ := t
    cases xs with
    | nil =>
      cases ts
      refine wpAny_tests_one (wpAny_mono (h _ env A τ δ s tc r S.rd R.rd) (fun b' s' hh => ?_) fun _ _ z => z)
      obtain ⟨H', δ', a, c, e, rfl⟩ := hh
      exact ⟨e, δ', a.unrd, c⟩
    | cons _ _ => exact h.elim

theorem comp_run {I : Addr} {own dep : Addr → Prop} {tgt : Expr} {items : AH → Option (List V)} {at_ : Nat → Heap → Prop} {mid : Nat → Value → Heap → Prop} (W : Itr D A τ I own dep tgt items at_ mid) {tg : Tg} {cs : Scope} {elt it : Expr} {x : X} {ifs : List Expr} {is : List X} {pos : Pos}
    (hok : CompOk cs env.scope) (hcov : tgCover tg cs = true) (tt : TT (relabelS cs env.scope) tgt tg) (te : T (relabelS cs env.scope) elt x) (ti : Ts (relabelS cs env.scope) ifs is)
    (r : Room A n) (S : St D τ δ s H) (R : EnvR D env (foot δ H) (psi τ δ H) ρ s.heap) (h0 : at_ 0 s.heap) (hself : ∀ (s' : Shared) (P : Value → Shared → Prop) (E : Value → Shared → Prop), at_ 0 s'.heap → P (.ref I) s' → wpAny (model D.prog D.w) A (pyIter (.ref I)) P E s')
    (ap : ∀ b, own b → ¬ foot δ H b ∧ D.base.get? b = none ∧ ¬ isFr env b ∧ ∃ o, s.heap.get? b = some o) (dp : ∀ b, dep b → ¬ isFr env b) {xs : List V} (hx : items H = some xs) (hlen : xs.length ≤ 1000000) {p : V → Bool} {f : V → V}
    (body : ∀ v ∈ xs, ∃ ρ1, tgA tg v ρ = some ρ1 ∧ Tests D n is ρ1 H (p v) ∧ (p v = true → PureE D n x ρ1 H (f v)))
    {RR : Value → Addr → Result → Shared → Prop}
    (fin : ∀ acc C s' δ' m its mm, acc ≠ C → s.heap.get? acc = none → s.heap.get? C = none → St D (tau0 τ own) δ' s' H → (∀ b o, s.heap.get? b = some o → ¬ own b → s'.heap.get? b = some o ∧ (¬ foot δ H b → ¬ foot δ' H b)) →
      s'.heap.Ns C m → s'.heap.get? acc = some (lstObj its mm) → VRs s'.heap (psi (tau0 τ own) δ' H) ((xs.filter p).map f) its.toList → ¬ foot δ' H acc → ¬ foot δ' H C → RR (.ref acc) C (.ok .next) s') :
    wpAny (model D.prog D.w) A (newList []) (fun acc s₃ => wpAny (model D.prog D.w) A (newFunctionEnv cs env.globals (cellsOf' env cs.names []) [] env.qual none .none (some env)) (fun cenv s₄ =>
      codeAny (model D.prog D.w) A (.compStart (.ListComp elt [⟨tgt, it, ifs, 0⟩] cs pos) 0 (.ref I) acc { cenv with scope := relabel cs env }) (RR acc cenv.locals) s₄) NoE s₃) NoE s := by
  refine wpAny_newObj_type (wpAny_newFunctionEnv hok.nocell (by intro y hy; simp at hy) (fun h₁ hns₁ hsb₁ => ?_) hok.kind)
  dsimp only at hns₁ hsb₁ ⊢
  generalize hH2 : s.heap.push { cls := .type "list", dict := none, data := .seq ([] : List Value).toArray } = H2 at hns₁ hsb₁ ⊢
  have hC : H2.objs.size = s.heap.objs.size + 1 := by rw [← hH2, Heap.size_push]
  generalize hacc : s.heap.objs.size = acc at hC ⊢
  generalize hCC : H2.objs.size = C at hC hns₁ hsb₁ ⊢
  have hDC : acc ≠ C := by rw [hC]; exact Nat.ne_of_lt (Nat.lt_succ_self _)
  have fresh : ∀ a, @LE.le Nat _ acc a → s.heap.get? a = none := fun a ha => by
    cases e : s.heap.get? a with
    | none => rfl
    | some o' => exact absurd (Heap.lt_size e) (by rw [hacc]; exact Nat.not_lt.mpr ha)
  have facc := fresh acc (Nat.le_refl _)
  have fC := fresh C (by rw [hC]; exact Nat.le_succ _)
  have below : ∀ b o, s.heap.get? b = some o → b ≠ C ∧ b ≠ acc := fun b o e => ⟨fun q => (by rw [q, fC] at e; cases e), fun q => (by rw [q, facc] at e; cases e)⟩
  have old : ∀ b o, s.heap.get? b = some o → h₁.get? b = some o := fun b o e => hsb₁.extBut b o (below b o e).1 (Heap.get?_push_of_some _ (hH2 ▸ Heap.get?_push_of_some _ e))
  have gacc : h₁.get? acc = some (lstObj #[] 0) := hsb₁.extBut _ _ hDC (Heap.get?_push_of_some _ (hH2 ▸ hacc ▸ Heap.get?_push_size _ rfl))
  have dead : ∀ c, s.heap.get? c = none → D.base.get? c = none ∧ ¬ foot δ H c ∧ ¬ own c := fun c hc => by
    refine ⟨?_, fun f => ?_, fun o => ?_⟩
    · cases e : D.base.get? c with
      | none => rfl
      | some o => rw [S.base _ _ e] at hc; cases hc
    · obtain ⟨o, e, _⟩ := S.live f; rw [hc] at e; cases e
    · obtain ⟨_, _, _, o, e⟩ := ap c o; rw [hc] at e; cases e
  have at1 : at_ 0 h₁ := W.keep 0 _ _ h0 fun b o _ e => old b o e
  have S₁ : ∀ tk, St D τ δ { s with heap := h₁, toks := tk } H := fun tk => S.grow old
  have R₁ : EnvR D (compEnvC cs (cellsOf' env cs.names []) C env) (foot δ H) (psi τ δ H) (fun i => if i ∈ tgIds tg then none else ρ i) h₁ := comp_env hok hcov S R fC hns₁ old
  have frC : ∀ b, isFr (compEnvC cs (cellsOf' env cs.names []) C env) b → b = C ∨ isFr env b := fun b q => q.imp id fun ⟨y, hy⟩ => .inr ⟨y, (cellsOf'_lookup (fun y hy e => R.all _ (.inl (hok.frees y hy e))) hy).resolve_left (fun q => by cases q)⟩
  let cenv := compEnvC cs (cellsOf' env cs.names []) C env
  let LI : Nat → Shared → Prop := fun k s' => ∃ i ρ' δ' its mm, k = xs.length - i ∧ i ≤ xs.length ∧ St D τ δ' s' H ∧ EnvR D cenv (foot δ' H) (psi τ δ' H) ρ' s'.heap ∧ (∀ j, j ∉ tgIds tg → ρ' j = ρ j) ∧ at_ i s'.heap ∧
    s'.heap.get? acc = some (lstObj its mm) ∧ VRs s'.heap (psi τ δ' H) (((xs.take i).filter p).map f) its.toList ∧ ¬ foot δ' H acc ∧ (∀ b, own b → ¬ foot δ' H b) ∧
    (∀ b o, s.heap.get? b = some o → ¬ own b → s'.heap.get? b = some o ∧ (¬ foot δ H b → ¬ foot δ' H b))
  have loop : ∀ tk, codeAny (model D.prog D.w) A (.compLoop (.ListComp elt [⟨tgt, it, ifs, 0⟩] cs pos) 0 (.ref I) (.ref acc) cenv) (RR (.ref acc) C) { s with heap := h₁, toks := tk } := fun tk => by
    refine codeAny_comp LI (fun k s' hI => ?_) _ ⟨0, _, δ, #[], 0, rfl, Nat.zero_le _, S₁ tk, R₁, fun j hj => if_neg hj, at1, gacc, (by simp; exact .nil), (dead acc facc).2.1, fun b hb => (ap b hb).1, fun b o e _ => ⟨old b o e, id⟩⟩
    obtain ⟨i, ρ', δ', its, mm, hk, hi, S', R', hρ, ha, hacc', hys, hfa, hfo, hkp⟩ := hI
    have lv := W.live i _ ha
    have oC : ¬ own C := (dead C fC).2.2
    have oacc : ¬ own acc := (dead acc facc).2.2
    have lC : ∃ m, s'.heap.Ns C m := let ⟨m, hm, _⟩ := R'.loc; ⟨m, hm⟩
    have tups : ∀ b, own b → (∀ its n, s'.heap.get? b ≠ some (tupObj its n)) ∨ τ b := fun b hb => by
      obtain ⟨o, e, q⟩ := lv b hb
      exact q.imp (fun q its n z => by rw [e] at z; cases z; exact q its n rfl) id
    have nfr : ∀ b, own b → ¬ isFr cenv b := fun b hb q => (frC b q).elim (fun q => oC (q ▸ hb)) (fun q => (ap b hb).2.2.1 q)
    have afr : ¬ isFr cenv acc := fun q => (frC acc q).elim hDC fun q => by obtain ⟨o, e⟩ := R.live q; rw [facc] at e; cases e
    by_cases hlt : i < xs.length
    · obtain ⟨y, hyi⟩ : ∃ y, xs[i]? = some y := ⟨xs[i], List.getElem?_eq_getElem hlt⟩
      obtain ⟨ρ1, ht, htest, helt⟩ := body y (List.mem_of_getElem? hyi)
      obtain ⟨ht', hρ1⟩ := tgA_congr hρ ht
      have htake : ((xs.take (i + 1)).filter p).map f = ((xs.take i).filter p).map f ++ (if p y then [f y] else []) := by
        rw [take_succ_filter p xs i y hyi, List.map_append]
        cases p y <;> rfl
      refine W.next i s' δ' H xs y ha S' (fun b hb => ⟨hfo b hb, (ap b hb).2.1⟩) hx hyi _ (fun v h' tk sk lv' hm hv => ?_)
      dsimp only
      refine W.go i v _ hm _ (fun h'' sk2 lv2 ha2 => ?_)
      have sk12 : SKeep own s'.heap h'' := fun b o nb e => sk2 b o nb (sk b o nb e)
      have S2 : St D τ δ' { s' with heap := h'', toks := tk } H := S'.own (fun b hb => ⟨hfo b hb, (ap b hb).2.1⟩) sk12 (lv2 lv') tups
      have tm12 : TM s'.heap (psi τ δ' H) h'' (psi τ δ' H) := fun b its m e q => ⟨sk12 b _ (fun z => (tups b z).elim (fun z => z _ _ e) fun z => q (.inr z)) e, q⟩
      have tm1 : TM s'.heap (psi τ δ' H) h' (psi τ δ' H) := fun b its m e q => ⟨sk b _ (fun z => (tups b z).elim (fun z => z _ _ e) fun z => q (.inr z)) e, q⟩
      have tm2 : TM h' (psi τ δ' H) h'' (psi τ δ' H) := fun b its m e q => ⟨sk2 b _ (fun z => (W.midTup i v h' hm b z).elim (fun z => z _ _ e) fun z => q (.inr z)) e, q⟩
      have R2 : EnvR D cenv (foot δ' H) (psi τ δ' H) ρ' h'' := R'.tm (fun b o fr e => sk12 b o (fun hb => nfr b hb fr) e) tm12
      refine tgt_ok tt r.2.2 ht' S2 R2 ((hv tm1).mono tm2) fun s3 S3 P3 R3 => ?_
      have tm3 : TM h'' (psi τ δ' H) s3.heap (psi τ δ' H) := R2.tmx (P3.x _)
      have hloc : ∀ j ∈ tgIds tg, cenv.scope.names.lookup (nm j) = some .local := fun j hj => by
        have := List.all_eq_true.mp ((Bool.and_eq_true _ _).mp hcov).2 _ hj
        exact lookup_relabel_local (env := env) (by simpa using this)
      -- what stands up to here
      have k3 : ∀ b o, ¬ own b → b ≠ C → s'.heap.get? b = some o → s3.heap.get? b = some o := fun b o nb nf e => P3 b o (sk12 b o nb e) (.inl ⟨hloc, nf⟩)
      have o3 : ∀ b o, own b → h''.get? b = some o → s3.heap.get? b = some o := fun b o hb e => P3 b o e (.inr (nfr b hb))
      have ha3 : at_ (i + 1) s3.heap := W.keep _ _ _ ha2 fun b o hb e => hb.elim (fun hb => o3 b o hb e) fun hb => P3 b o e (.inr fun q => (frC b q).elim (fun q => by
        obtain ⟨o', e'⟩ := W.dlive 0 _ h0 b hb; rw [q, fC] at e'; cases e') (dp b hb))
      have acc3 : s3.heap.get? acc = some (lstObj its mm) := k3 _ _ oacc hDC hacc'
      have ys3 := (hys.mono tm12).mono tm3
      -- the tests
      refine wpAny_mono (tests_ok (env := cenv) ti htest r S3 R3) (fun ok s4 hh => ?_) fun _ _ z => z
      obtain ⟨rfl, δ4, S4, P4⟩ := hh
      have R4 : EnvR D cenv (foot δ4 H) (psi τ δ4 H) ρ1 s4.heap := (R3.rd.pres P4 P4.tm).unrd
      have all4 := P4.2 rfl
      have liv4 : ∀ b, own b → ∃ o, s3.heap.get? b = some o := fun b hb => let ⟨o, e, _⟩ := W.live _ _ ha3 b hb; ⟨o, e⟩
      have fo4 : ∀ b, own b → ¬ foot δ4 H b := fun b hb => let ⟨o, e⟩ := liv4 b hb; (P4.1 b o e (hfo b hb)).2
      have fa4 : ¬ foot δ4 H acc := (P4.1 _ _ acc3 hfa).2
      have acc4 := all4 _ _ acc3
      have ys4 := ys3.mono P4.tm
      have kp4 : ∀ b o, s.heap.get? b = some o → ¬ own b → s4.heap.get? b = some o ∧ (¬ foot δ H b → ¬ foot δ4 H b) := fun b o e nb => by
        obtain ⟨g1, g2⟩ := hkp b o e nb
        have g3 := k3 b o nb (below b o e).1 g1
        exact ⟨all4 _ _ g3, fun nf => (P4.1 b o g3 (g2 nf)).2⟩
      by_cases hp : p y = true
      · rw [if_pos hp]
        refine wpAny_mono (helt hp elt cenv A τ δ4 s4 te r S4.rd R4.rd) (fun v5 s5 hh => ?_) fun _ _ z => z
        obtain ⟨u, H5, δ5, S5, P5, c5, rfl, rfl⟩ := hh
        have S5 := S5.unrd
        have R5 : EnvR D cenv (foot δ5 H5) (psi τ δ5 H5) ρ1 s5.heap := (R4.rd.pres P5 P5.tm).unrd
        have all5 := P5.2 rfl
        have acc5 := all5 _ _ acc4
        have fa5 : ¬ foot δ5 H5 acc := (P5.1 _ _ acc4 fa4).2
        have ys5 := ys4.mono P5.tm
        have hsz : its.size ≤ sizeLine := by
          have h1 := hys.length
          have h2 : (((xs.take i).filter p).map f).length ≤ xs.length := by
            rw [List.length_map]; exact Nat.le_trans (List.length_filter_le _ _) (by rw [List.length_take]; omega)
          rw [sizeLine_eq]; simp at h1 h2; omega
        refine wpAny_list_append_plain ⟨mm, acc5⟩ (fun h6 ⟨m6, hl6⟩ hs6 => ?_) hsz
        have bacc := (dead acc facc).1
        have S6 : St D τ δ5 { s5 with heap := h6 } H5 := S5.other (tk := s5.toks) (fun b => b = acc) (fun b o hb e => hs6.extBut b o hb e) (fun b hb => by
          subst hb; exact ⟨fa5, bacc, .inl fun its' m' q => by rw [acc5] at q; have := congrArg Obj.cls (Option.some.inj q); simp at this, _, hl6⟩)
        have tm6 : TM s5.heap (psi τ δ5 H5) h6 (psi τ δ5 H5) := fun b its' m' e q => ⟨hs6.extBut b _ (fun z => by rw [z, acc5] at e; have := congrArg Obj.cls (Option.some.inj e); simp at this) e, q⟩
        have R6 : EnvR D cenv (foot δ5 H5) (psi τ δ5 H5) ρ1 h6 := R5.tm (fun b o fr e => hs6.extBut b o (fun q => afr (q ▸ fr)) e) tm6
        refine ⟨xs.length - (i + 1), by omega, i + 1, ρ1, δ5, its.push v5, m6, rfl, hlt, S6, R6, hρ1, ?_, hl6, ?_, fa5, fun b hb => ?_, fun b o e nb => ?_⟩
        · refine W.keep _ _ _ ha3 fun b o hb e => hs6.extBut b o (fun q => ?_) (all5 _ _ (all4 _ _ e))
          rw [q] at hb
          exact hb.elim oacc fun hb => by obtain ⟨o', e'⟩ := W.dlive 0 _ h0 _ hb; rw [facc] at e'; cases e'
        · rw [htake, if_pos hp, Array.toList_push]
          exact (ys5.mono tm6).append (.cons (c5.mono tm6) .nil)
        · obtain ⟨o, e⟩ := liv4 b hb
          exact (P5.1 b o (all4 _ _ e) (fo4 b hb)).2
        · obtain ⟨g1, g2⟩ := kp4 b o e nb
          exact ⟨hs6.extBut b o (below b o e).2 (all5 _ _ g1), fun nf => (P5.1 b o g1 (g2 nf)).2⟩
      · rw [if_neg hp]
        refine ⟨xs.length - (i + 1), by omega, i + 1, ρ1, δ4, its, mm, rfl, hlt, S4, R4, hρ1, W.keep _ _ _ ha3 fun b o _ e => all4 b o e, acc4, ?_, fa4, fo4, kp4⟩
        rw [htake, if_neg hp, List.append_nil]
        exact ys4
    · have hie : i = xs.length := by omega
      subst hie
      refine W.done xs.length s' δ' H xs ha S' hx (Nat.le_refl _) _ (fun h' tk sk => ?_)
      obtain ⟨S1, tm1⟩ := S'.ownW (tk := tk) (fun b hb => ⟨hfo b hb, (ap b hb).2.1⟩) sk tups
      obtain ⟨m, o, es, ep, ho, hm⟩ := lC
      rw [List.take_length] at hys
      have nfC : ¬ foot δ' H C := R'.fr.2
      exact fin acc C _ δ' m its mm hDC facc fC S1 (fun b o e nb => ⟨sk b o nb (hkp b o e nb).1, (hkp b o e nb).2⟩) ⟨o, es, ep, sk C _ oC ho, hm⟩ (sk acc _ oacc hacc') (hys.mono tm1) hfa nfC
  exact codeAny_compStart_list (loop _) (hself _ _ _ at1 (loop _))
end




section
variable {D : Amb} {n : Nat} {ρ : Loc} {H : AH} {A : Around} {τ τ' : Addr → Prop} {δ : Addr → Addr} {s : Shared} {env : Env}

theorem isInst_list {a : Addr} {xs : List V} (hn : H a = none) (c : Addr) : isInstAt (upd H a (.list xs)) c ↔ isInstAt H c := by
  unfold isInstAt
  by_cases q : c = a
  · subst q; rw [upd_self, hn]; constructor
    · rintro ⟨C, fs, q⟩; cases q
    · rintro ⟨C, fs, q⟩; cases q
  · rw [upd_ne q]
theorem St.adopt (S : St D τ δ s H) {a : Addr} {xs : List V} {its : Array Value} {m : Nat} (ha : s.heap.get? a = some (lstObj its m)) (hb : D.base.get? a = none) (hf : ¬ foot δ H a) (c : VRs s.heap (psi τ δ H) xs its.toList) :
    St D τ δ s (upd H a (.list xs)) ∧ TM s.heap (psi τ δ H) s.heap (psi τ δ (upd H a (.list xs))) ∧ (∀ b, foot δ (upd H a (.list xs)) b ↔ foot δ H b ∨ b = a) ∧ H a = none := by
  have hH : H a = none := by cases q : H a with | none => rfl | some x => exact absurd (foot_of q) hf
  have hfn := foot_new (δ := δ) (o := O.list xs) rfl hH
  have tm : TM s.heap (psi τ δ H) s.heap (psi τ δ (upd H a (.list xs))) := fun b items n e q => ⟨e, fun z => z.elim (fun z => ((hfn b).mp z).elim (fun z => q (.inl z)) fun z => by rw [z, ha] at e; have := congrArg Obj.cls (Option.some.inj e); simp at this) fun z => q (.inr z)⟩
  have ii := isInst_list (xs := xs) hH
  refine ⟨⟨S.base, fun b f => ((hfn b).mp f).elim (S.apart b) fun z => by rw [z]; exact hb, fun b x q => ?_, fun x y hx hy q => S.inj x y ((ii x).mp hx) ((ii y).mp hy) q, fun x hx => ?_, S.gens, S.os, S.tl⟩, tm, hfn, hH⟩
  · by_cases z : b = a
    · subst z; rw [upd_self] at q; cases q; exact ⟨its, m, ha, c.mono tm⟩
    · rw [upd_ne z] at q
      exact (S.objs b x q).mono tm (fun y w => w) fun i => ⟨rfl, fun y w => w⟩
  · obtain ⟨C, fs, e⟩ := (ii x).mp hx
    have z : δ x ≠ a := fun q => hf (by rw [← q]; exact foot_inst e)
    rw [upd_ne z]; exact S.dsep x ⟨C, fs, e⟩

/-! keys of a dict -/
theorem itr_keys {K : Type} [DecidableEq K] {knd : KeyKind D.prog D.w K} (hh : A.handled = none) {sc : Scope} {tgt : Expr} {j : Nat} (tt : TT sc tgt (.one j)) (I d ep : Nat) (l : List (K × Value)) (hne : d ≠ I) (xs : List V) (hlen : xs.length = l.length)
    (hk : ∀ (i : Nat) (x : V) (k : K) (v key : Value) (h : Heap) (ψ : Addr → Prop), xs[i]? = some x → l[i]? = some (k, v) → knd.is k key = true → VR h ψ x key) :
    Itr D A τ I (fun b => b = I) (fun b => b = d) tgt (fun _ => some xs) (fun i h => h.IsKeyIter I d i l.length ep ∧ h.DictAt knd d l ep) (fun i v h => h.IsKeyIter I d (i + 1) l.length ep ∧ h.DictAt knd d l ep) where
  live := fun i h x b hb => by
    subst hb
    obtain ⟨o, ho, hc, hd⟩ := x.1
    exact ⟨o, ho, .inl fun its m q => by subst q; cases hd⟩
  dlive := fun i h x b hb => by subst hb; obtain ⟨o, es, ho, _⟩ := x.2; exact ⟨o, ho⟩
  keep := fun i h h' x k => by
    obtain ⟨⟨o, ho, r⟩, o', es, ho', r'⟩ := x
    exact ⟨⟨o, k I o (.inl rfl) ho, r⟩, o', es, k d o' (.inr rfl) ho', r'⟩
  next := fun i s δ H ys x h0 S ap hx hxi P k => by
    cases hx
    have hi : i < l.length := by rw [← hlen]; exact (List.getElem?_eq_some_iff.mp hxi).1
    have hl : l[i]? = some (l[i].1, l[i].2) := List.getElem?_eq_getElem hi
    refine wpAny_pyNext_dict_item h0.1 h0.2 hl fun key h' hkey hit hs => ?_
    refine k key h' s.toks (fun b o nb e => hs.extBut b o nb e) (fun b hb => by subst hb; obtain ⟨o, ho, _⟩ := hit; exact ⟨o, ho⟩) ⟨hit, h0.2.extBut hs.extBut hne⟩ fun tm => hk i x _ _ key _ _ hxi hl hkey
  go := fun i v s hm P k => by
    have z := k s.heap (fun _ _ _ e => e) (fun l => l) hm
    · obtain ⟨_, rfl, _⟩ := tt
      exact wpAny_pure z
  midTup := fun i v h x b hb => by
    subst hb
    obtain ⟨o, ho, hc, hd⟩ := x.1
    exact .inl fun its m q => by rw [q] at ho; cases ho; cases hd
  done := fun i s δ H ys h0 S hx hle P k => by
    cases hx
    refine wpAny_pyNext_dict_end hh h0.1 h0.2 (List.getElem?_eq_none (by omega)) fun h' he => ?_
    exact k h' s.toks fun b o nb e => he b o nb e

inductive SrcI (D : Amb) (A : Around) (τ : Addr → Prop) (env : Env) (φ φ₁ : Addr → Prop) (h h₂ : Heap) (tgt : Expr) (I : Addr) (H₁ : AH) (xs : List V) : Prop
  | mk (own dep : Addr → Prop) (items : AH → Option (List V)) (at_ : Nat → Heap → Prop) (mid : Nat → Value → Heap → Prop) : Itr D A τ I own dep tgt items at_ mid → at_ 0 h₂ → (∀ (s' : Shared) (P : Value → Shared → Prop) (E : Value → Shared → Prop), at_ 0 s'.heap → P (.ref I) s' → wpAny (model D.prog D.w) A (pyIter (.ref I)) P E s') → items H₁ = some xs →
        (∀ b, own b → (∀ o, h.get? b = some o → φ b) ∧ (D.ro = true → ∀ o, h.get? b ≠ some o) ∧ D.base.get? b = none ∧ ¬ φ₁ b ∧ ¬ isFr env b ∧ ¬ τ b ∧ ∃ o, h₂.get? b = some o) → (∀ b, dep b → ¬ isFr env b) → SrcI D A τ env φ φ₁ h h₂ tgt I H₁ xs
inductive SrcE (D : Amb) (A : Around) (τ : Addr → Prop) (env : Env) (ρ : Loc) (φ : Addr → Prop) (h : Heap) (tgt : Expr) (K : List V → AH → Prop) (itv : Value) (s₂ : Shared) : Prop
  | mk (H₁ : AH) (xs : List V) (δ₁ : Addr → Addr) (I : Addr) : itv = .ref I → St D τ δ₁ s₂ H₁ → Pres D φ (foot δ₁ H₁) h s₂.heap → EnvR D env (foot δ₁ H₁) (psi τ δ₁ H₁) ρ s₂.heap → SrcI D A τ env φ (foot δ₁ H₁) h s₂.heap tgt I H₁ xs → K xs H₁ → SrcE D A τ env ρ φ h tgt K itv s₂
noncomputable def SrcP (D : Amb) (n : Nat) (tg : Tg) (src : X) (ρ : Loc) (H : AH) (K : List V → AH → Prop) : Prop :=
  ∀ (it : Expr) (env : Env) (A : Around) (τ : Addr → Prop) (δ : Addr → Addr) (s : Shared) (tgt : Expr) (sc : Scope), T env.scope it src → TT sc tgt tg → Room A n → St D τ δ s H → EnvR D env (foot δ H) (psi τ δ H) ρ s.heap →
    wpAny (model D.prog D.w) A (eval it env) (fun v s₁ => wpAny (model D.prog D.w) A (pyIter v) (SrcE D A τ env ρ (foot δ H) s.heap tgt K) NoE s₁) NoE s
noncomputable def seqO (o : O) : Option (List V) := match o with
  | .list xs => some xs
  | .sd kvs => some (kvs.map fun p => .str p.1)
  | .nd kvs => some (kvs.map fun p => .int p.1)
  | .td _ => none
  | .inst _ _ => none
noncomputable def seqOf (H : AH) (v : V) : Option (List V) := v.asRef.bind fun a => (H a).bind seqO
theorem seq_o {a : Addr} {o : O} {r : Option (List V)} (h : H a = some o) (h' : seqO o = r) : seqOf H (.ref a) = r := by show (H a).bind _ = _; rw [h]; exact h'
theorem fresh_of (S : St D τ δ s H) (R : EnvR D env (foot δ H) (psi τ δ H) ρ s.heap) {b : Addr} (h : s.heap.get? b = none) : D.base.get? b = none ∧ ¬ foot δ H b ∧ ¬ isFr env b ∧ ¬ τ b := by
  refine ⟨?_, fun f => ?_, fun f => ?_, fun t => (by obtain ⟨o, e⟩ := S.tl _ t; rw [h] at e; cases e)⟩
  · cases e : D.base.get? b with
    | none => rfl
    | some o => rw [S.base _ _ e] at h; cases h
  · obtain ⟨o, e, _⟩ := S.live f; rw [h] at e; cases e
  · obtain ⟨o, e⟩ := R.live f; rw [h] at e; cases e
theorem was_new {φ φ' : Addr → Prop} {h h' : Heap} (p : Pres D φ φ' h h') {b : Addr} (hn : h'.get? b = none) : (∀ o, h.get? b = some o → φ b) ∧ (D.ro = true → ∀ o, h.get? b ≠ some o) :=
  ⟨fun o e => Classical.byContradiction fun f => (by rw [(p.1 b o e f).1] at hn; cases hn), fun r o e => (by rw [p.2 r b o e] at hn; cases hn)⟩
theorem St.at_new (S : St D τ δ s H) (j : Nat) : s.heap.get? (s.heap.objs.size + j) = none := by
  cases e : s.heap.get? (s.heap.objs.size + j) with
  | none => rfl
  | some o => exact absurd (Heap.lt_size e) (Nat.not_lt.mpr (Nat.le_add_right _ _))
theorem T.src_plain {sc : Scope} {it : Expr} {src : X} (t : T sc it src) : True := trivial

theorem src_val {tg : Tg} {src : X} {K : List V → AH → Prop} (h : WE D n src ρ H fun v H₁ => ∃ xs, seqOf H₁ v = some xs ∧ (match tg, v with | .one _, _ => True | .many _, .ref a => ∃ ys, H₁ a = some (.list ys) | _, _ => False) ∧ K xs H₁) : SrcP D n tg src ρ H K := by
  intro it env A τ δ s tgt sc t tt r S R
  refine h.bind t r S R fun v s' x H' δ' S' P' R' c ⟨xs, hx, htg, hK⟩ => ?_
  obtain ⟨a, ea, hx⟩ := bsome hx
  cases V.asRef_eq ea
  cases c
  obtain ⟨ob, hH, hx⟩ := bsome (show (H' a).bind seqO = some xs from hx)
  have hn := S'.at_new 0
  simp only [Nat.add_zero] at hn
  cases ob with
    | list ys =>
      cases hx
      obtain ⟨items, m, h1, h2⟩ := S'.objs _ _ hH
      refine wpAny_pyIter_list ⟨_, h1, rfl, m, rfl⟩ ?_
      have hk := push_keeps s'.heap { cls := .type "list_iterator", data := .fields #[.ref a, rawInt 0] }
      have P2 : Pres D (foot δ' H') (foot δ' H') s'.heap (s'.heap.push { cls := .type "list_iterator", data := .fields #[.ref a, rawInt 0] }) := Pres.grow hk
      refine ⟨H', _, δ', s'.heap.objs.size, rfl, S'.grow hk, P'.trans P2, R'.pres P2 P2.tm, ⟨_, _, _, _, _, itr_list r.2.2 tt s'.heap.objs.size a, ⟨_, Heap.get?_push_size _ rfl, rfl, rfl⟩, fun s' P E h p => wpAny_pyIter_listiter h p, by unfold listItems; rw [hH], fun b hb => ?_, fun _ hb => hb.elim⟩, hK⟩
      subst hb
      obtain ⟨f1, f2, f3, f4⟩ := fresh_of S' R' hn
      exact ⟨(was_new P' hn).1, (was_new P' hn).2, f1, f2, f3, f4, _, Heap.get?_push_size _ rfl⟩
    | sd kvs =>
      cases hx
      cases tg with
      | many _ => obtain ⟨ys, hy⟩ := htg; rw [hH] at hy; cases hy
      | one j =>
      obtain ⟨l, h1, h2⟩ := S'.objs _ _ hH
      obtain ⟨ep, h3⟩ := h1.dictAt
      have hd : (a == sysModules) = false := by
        refine beq_eq_false_iff_ne.mpr fun q => ?_
        obtain ⟨o, ho⟩ := D.sm
        have := S'.apart a (foot_of hH)
        rw [q, ho] at this; cases this
      refine wpAny_pyIter_dict hd h3 ?_
      have hk := push_keeps s'.heap { cls := .type "dict_keyiterator", data := .fields #[.ref a, .int 0 0, .int l.length 0, .int ep 0] }
      have P2 : Pres D (foot δ' H') (foot δ' H') s'.heap (s'.heap.push { cls := .type "dict_keyiterator", data := .fields #[.ref a, .int 0 0, .int l.length 0, .int ep 0] }) := Pres.grow hk
      have hlt : a < s'.heap.objs.size := S'.lt (foot_of hH)
      have hkeys := h2.keys
      have hlen := h2.length
      simp only [List.length_map] at hlen
      refine ⟨H', _, δ', s'.heap.objs.size, rfl, S'.grow hk, P'.trans P2, R'.pres P2 P2.tm, ⟨_, _, _, _, _, itr_keys (knd := strKind D.prog D.w) r.2.2 tt s'.heap.objs.size a ep l (Nat.ne_of_lt hlt) _ (by simp [hlen]) (fun i x k v key h ψ hx hl hkey => ?_), ⟨⟨_, Heap.get?_push_size _ rfl, rfl, rfl⟩, h3.push _⟩, fun s' P E h p => wpAny_pyIter_keyiter h.1 p, rfl, fun b hb => ?_, fun b hb => ?_⟩, hK⟩
      · have e1 : (l.map (·.1))[i]? = some k := by rw [List.getElem?_map, hl]; rfl
        rw [hkeys, List.map_map, List.getElem?_map] at e1
        rw [List.getElem?_map] at hx
        cases hi : kvs[i]? with
        | none => rw [hi] at hx; cases hx
        | some p =>
          rw [hi] at hx e1
          simp only [Option.map_some, Option.some.injEq, Function.comp_apply] at hx e1
          subst hx; subst e1
          obtain ⟨t, rfl⟩ := Value.isStrOf_shape hkey
          exact .str _ _
      · subst hb
        obtain ⟨f1, f2, f3, f4⟩ := fresh_of S' R' hn
        exact ⟨(was_new P' hn).1, (was_new P' hn).2, f1, f2, f3, f4, _, Heap.get?_push_size _ rfl⟩
      · subst hb; exact fun q => (R'.out q).2 (foot_of hH)
    | nd kvs =>
      cases hx
      cases tg with
      | many _ => obtain ⟨ys, hy⟩ := htg; rw [hH] at hy; cases hy
      | one j =>
      obtain ⟨l, h1, h2⟩ := S'.objs _ _ hH
      obtain ⟨ep, h3⟩ := h1.dictAt
      have hd : (a == sysModules) = false := by
        refine beq_eq_false_iff_ne.mpr fun q => ?_
        obtain ⟨o, ho⟩ := D.sm
        have := S'.apart a (foot_of hH)
        rw [q, ho] at this; cases this
      refine wpAny_pyIter_dict hd h3 ?_
      have hk := push_keeps s'.heap { cls := .type "dict_keyiterator", data := .fields #[.ref a, .int 0 0, .int l.length 0, .int ep 0] }
      have P2 : Pres D (foot δ' H') (foot δ' H') s'.heap (s'.heap.push { cls := .type "dict_keyiterator", data := .fields #[.ref a, .int 0 0, .int l.length 0, .int ep 0] }) := Pres.grow hk
      have hlt : a < s'.heap.objs.size := S'.lt (foot_of hH)
      have hkeys := h2.keys
      have hlen := h2.length
      refine ⟨H', _, δ', s'.heap.objs.size, rfl, S'.grow hk, P'.trans P2, R'.pres P2 P2.tm, ⟨_, _, _, _, _, itr_keys (knd := intKind D.prog D.w) r.2.2 tt s'.heap.objs.size a ep l (Nat.ne_of_lt hlt) _ (by simp [hlen]) (fun i x k v key h ψ hx hl hkey => ?_), ⟨⟨_, Heap.get?_push_size _ rfl, rfl, rfl⟩, h3.push _⟩, fun s' P E h p => wpAny_pyIter_keyiter h.1 p, rfl, fun b hb => ?_, fun b hb => ?_⟩, hK⟩
      · have e1 : (l.map (·.1))[i]? = some k := by rw [List.getElem?_map, hl]; rfl
        rw [hkeys, List.getElem?_map] at e1
        rw [List.getElem?_map] at hx
        cases hi : kvs[i]? with
        | none => rw [hi] at hx; cases hx
        | some p =>
          rw [hi] at hx e1
          simp only [Option.map_some, Option.some.injEq] at hx e1
          subst hx; subst e1
          obtain ⟨t, rfl⟩ := Value.isInt_shape hkey
          exact .int _ _
      · subst hb
        obtain ⟨f1, f2, f3, f4⟩ := fresh_of S' R' hn
        exact ⟨(was_new P' hn).1, (was_new P' hn).2, f1, f2, f3, f4, _, Heap.get?_push_size _ rfl⟩
      · subst hb; exact fun q => (R'.out q).2 (foot_of hH)
    | td _ => cases hx
    | inst _ _ => cases hx
theorem src_enum {js : List Nat} {src : X} {K : List V → AH → Prop} (g : Glob D 86 (.type "enumerate")) (h : WE D n src ρ H fun v H₁ => ∃ a xs, v = .ref a ∧ H₁ a = some (.list xs) ∧ K (enumV xs) H₁) : SrcP D n (.many js) (.call 86 [src]) ρ H K := by
  intro it env A τ δ s tgt sc t tt r S R
  · obtain ⟨_, _, _, rfl, hk, ts⟩ := t
    refine PyProof.Rows.Call_ (name_ok g S R hk ?_)
    refine callWith_ok (first := []) (.inr (.inl ⟨_, rfl⟩)) (Qs := fun vs H₁ => ∃ a xs, vs = [.ref a] ∧ H₁ a = some (.list xs) ∧ K (enumV xs) H₁)
      (wes_one (h.mono fun v H₁ ⟨a, xs, e, q⟩ => ⟨a, xs, by rw [e], q⟩)) ts r S R fun v s' x H' δ' S' P' c q => ?_
    obtain ⟨a, xs, rfl, hH, hK⟩ := q
    have R' := R.pres P' P'.tm
    cases c with
    | cons c cs =>
      cases cs; cases c
      obtain ⟨items, m, h1, h2⟩ := S'.objs _ _ hH
      refine call_enumerate_1 h1 fun h' he hi hsz hk' => ?_
      refine wpAny_pyIter_enum he ?_
      have hn := S'.at_new 1
      have hn0 := S'.at_new 0
      simp only [Nat.add_zero] at hn0
      have P2 : Pres D (foot δ' H') (foot δ' H') s'.heap h' := Pres.grow hk'
      refine ⟨H', _, δ', s'.heap.objs.size + 1, rfl, S'.grow hk', P'.trans P2, R'.pres P2 P2.tm, ⟨_, _, _, _, _, itr_enum r.2.2 tt (s'.heap.objs.size + 1) s'.heap.objs.size a (Nat.succ_ne_self _), ⟨⟨_, he⟩, hi⟩, fun s' P E h p => let ⟨⟨old, h⟩, _⟩ := h; wpAny_pyIter_enum h p,
        by unfold listItems; rw [hH]; rfl, fun b hb => ?_, fun _ hb => hb.elim⟩, hK⟩
      rcases hb with rfl | rfl
      · obtain ⟨f1, f2, f3, f4⟩ := fresh_of S' R' hn
        exact ⟨(was_new P' hn).1, (was_new P' hn).2, f1, f2, f3, f4, _, he⟩
      · obtain ⟨f1, f2, f3, f4⟩ := fresh_of S' R' hn0
        obtain ⟨o, ho, _⟩ := hi
        exact ⟨(was_new P' hn0).1, (was_new P' hn0).2, f1, f2, f3, f4, o, ho⟩
end




section
variable {D : Amb} {n : Nat} {ρ : Loc} {H : AH} {A : Around} {τ τ' : Addr → Prop} {δ : Addr → Addr} {s : Shared} {env : Env}

theorem EnvR.to {φ φ' ψ ψ' : Addr → Prop} {h h' : Heap} (R : EnvR D env φ ψ ρ h) (k : ∀ b o, isFr env b → h.get? b = some o → h'.get? b = some o) (nf : ∀ b, isFr env b → ¬ φ' b) (tm : TM h ψ h' ψ') : EnvR D env φ' ψ' ρ h' := by
  have R' := R.tm k tm
  exact ⟨R'.kind, R'.glob, R'.blt, R'.loc, R'.cel, fun x c e => ⟨(R'.cst x c e).1, (R'.cst x c e).2.1, nf c (.inr ⟨x, e⟩)⟩, R'.all, R'.cinj, R'.fr.1, nf _ (.inl rfl)⟩
theorem St.ns (S : St D τ δ s H) {C : Addr} {h' : Heap} {m} (hn : s.heap.Ns C m) (hs : Heap.SameBut C s.heap h') (hf : ¬ foot δ H C) (hb : D.base.get? C = none) (ht : ¬ τ C) :
    St D τ δ { s with heap := h' } H ∧ TM s.heap (psi τ δ H) h' (psi τ δ H) := by
  have tm : TM s.heap (psi τ δ H) h' (psi τ δ H) := fun b items n e q => ⟨hs.extBut b _ (fun z => by
    obtain ⟨o, es, ep, ho, hd, _⟩ := hn
    rw [z, ho] at e; cases e; cases hd) e, q⟩
  refine ⟨⟨fun b o e => hs.extBut b o (fun z => (by rw [z, hb] at e; cases e)) (S.base b o e), S.apart, fun a o e => ?_, S.inj, S.dsep, S.gens, S.os, fun b t => ?_⟩, tm⟩
  · exact (S.objs a o e).mono tm (fun x q => hs.extBut a x (fun z => hf (z ▸ foot_of e)) q) fun i => ⟨rfl, fun x q => hs.extBut _ x (fun z => by
      obtain ⟨C', fs, rfl⟩ := O.inst_of i
      exact hf (z ▸ foot_inst e)) q⟩
  · obtain ⟨o, e⟩ := S.tl b t
    exact ⟨o, hs.extBut b o (fun z => ht (z ▸ t)) e⟩

structure CEnd (D : Amb) (τ : Addr → Prop) (env : Env) (ρ : Loc) (φ : Addr → Prop) (h : Heap) (H₁ : AH) (ys : List V) (acc C : Addr) (s' : Shared) : Prop where
  ex : ∃ δ', St D τ δ' s' (upd H₁ acc (.list ys)) ∧ EnvR D env (foot δ' (upd H₁ acc (.list ys))) (psi τ δ' (upd H₁ acc (.list ys))) ρ s'.heap ∧ Pres D φ (foot δ' (upd H₁ acc (.list ys))) h s'.heap ∧ ¬ foot δ' (upd H₁ acc (.list ys)) C
  acc : H₁ acc = none
  ns : ∃ m, s'.heap.Ns C m
  base : D.base.get? C = none
  nf : ¬ isFr env C
  nt : ¬ τ C
  new : (∀ o, h.get? C = some o → φ C) ∧ (D.ro = true → ∀ o, h.get? C ≠ some o)

inductive CompB (D : Amb) (n : Nat) (tg : Tg) (x : X) (is : List X) (ρ : Loc) (Q : Addr → AH → Prop) (xs : List V) (H₁ : AH) : Prop
  | mk (hl : xs.length ≤ 1000000) (p : V → Bool) (f : V → V) : (∀ v ∈ xs, ∃ ρ1, tgA tg v ρ = some ρ1 ∧ Tests D n is ρ1 H₁ (p v) ∧ (p v = true → PureE D n x ρ1 H₁ (f v))) →
    (∀ acc, H₁ acc = none → Q acc (upd H₁ acc (.list ((xs.filter p).map f)))) → CompB D n tg x is ρ Q xs H₁

theorem comp_all {ex : Expr} {tg : Tg} {x src : X} {is : List X} {Q : Addr → AH → Prop} (h : SrcP D n tg src ρ H (CompB D n tg x is ρ Q)) {elt tgt it : Expr} {ifs : List Expr} {cs : Scope} {p : Pos} {RP : Value → Shared → Prop} {use : Option (Value → Sem Unit)}
    (t : T env.scope (.ListComp elt [⟨tgt, it, ifs, 0⟩] cs p) (.comp x tg src is)) (r : Room A n) (S : St D τ δ s H) (R : EnvR D env (foot δ H) (psi τ δ H) ρ s.heap)
    (fin : ∀ H₁ ys acc C s', CEnd D τ env ρ (foot δ H) s.heap H₁ ys acc C s' → Q acc (upd H₁ acc (.list ys)) → compPost (model D.prog D.w) A NoE use RP (.ref acc) C (.ok .next) s') :
    wpAny (model D.prog D.w) A (comprehension (.ListComp elt [⟨tgt, it, ifs, 0⟩] cs p) cs env (firstIterPos [⟨tgt, it, ifs, 0⟩] p) (newList []) false (eval it env) use) RP NoE s := by
  · obtain ⟨_, _, _, _, _, _, q, hok, hcov, hs, te, tt, tsrc, tif⟩ := t
    cases q
    have ok := compOk_ok hok
    refine wpAny_comprehension_free rfl (hs env) (closure_ok fun y hy e => R.all _ (.inl (ok.frees y hy e))) ok.kind ok.locals ?_
    refine wpAny_mono (h it env A τ δ s tgt (relabelS cs env.scope) tsrc tt r S R) (fun v s₁ h₁ => wpAny_mono h₁ (fun itv s₂ h₂ => ?_) fun _ _ z => z) fun _ _ z => z
    obtain ⟨H₁, xs, δ₁, I, rfl, S₂, P₂, R₂, ⟨own, dep, items, at_, mid, W, hat, hself, hitems, hown, hdep⟩, hlen, pp, ff, hbody, hq⟩ := h₂
    refine comp_run (RR := fun acc C => compPost (model D.prog D.w) A NoE use RP acc C) W ok hcov tt te tif r S₂ R₂ hat hself (fun b hb => let ⟨_, _, a3, a4, a5, _, a6⟩ := hown b hb; ⟨a4, a3, a5, a6⟩) hdep hitems hlen hbody fun acc C s' δ' m its mm hne ha hC S' hkp hn hl hys hfa hfC => ?_
    have lv := W.live 0 _ hat
    have noT : ∀ b its n, s₂.heap.get? b = some (tupObj its n) → ¬ own b := fun b its n e hb => by
      obtain ⟨o, e', q⟩ := lv b hb
      rw [e] at e'; cases e'
      exact q.elim (fun q => q its n rfl) fun q => (hown b hb).2.2.2.2.2.1 q
    have dead : ∀ c, s₂.heap.get? c = none → D.base.get? c = none ∧ ¬ foot δ₁ H₁ c ∧ ¬ isFr env c ∧ ¬ τ c := fun c hc => fresh_of S₂ R₂ hc
    obtain ⟨S3, tm3⟩ := S'.weakT (τ := τ) (fun b hb => ⟨hb, fun ho => (hown b ho).2.2.2.2.2.1 hb⟩)
    obtain ⟨S4, tm4, hf4, hacc⟩ := S3.adopt hl (dead acc ha).1 hfa (hys.mono tm3)
    have kp : ∀ b o, s₂.heap.get? b = some o → ¬ own b → s'.heap.get? b = some o ∧ (¬ foot δ₁ H₁ b → ¬ foot δ' (upd H₁ acc (.list ((xs.filter pp).map ff))) b) := fun b o e nb => by
      obtain ⟨g1, g2⟩ := hkp b o e nb
      exact ⟨g1, fun nf f => ((hf4 b).mp f).elim (g2 nf) fun q => by rw [q, ha] at e; cases e⟩
    have frO : ∀ b, isFr env b → ¬ own b := fun b f ho => (hown b ho).2.2.2.2.1 f
    have R4 : EnvR D env (foot δ' (upd H₁ acc (.list ((xs.filter pp).map ff)))) (psi τ δ' (upd H₁ acc (.list ((xs.filter pp).map ff)))) ρ s'.heap := by
      refine R₂.to (fun b o f e => (kp b o e (frO b f)).1) (fun b f => ?_) fun b its n e q => ?_
      · obtain ⟨o, e⟩ := R₂.live f
        exact (kp b o e (frO b f)).2 (R₂.out f).2
      · obtain ⟨g1, g2⟩ := kp b _ e (noT b its n e)
        exact ⟨g1, fun z => z.elim (g2 fun y => q (.inl y)) fun y => q (.inr y)⟩
    have P4 : Pres D (foot δ H) (foot δ' (upd H₁ acc (.list ((xs.filter pp).map ff)))) s.heap s'.heap := by
      refine ⟨fun b o e nf => ?_, fun hr b o e => ?_⟩
      · obtain ⟨g1, g2⟩ := P₂.1 b o e nf
        have nb : ¬ own b := fun hb => nf ((hown b hb).1 o e)
        exact ⟨(kp b o g1 nb).1, (kp b o g1 nb).2 g2⟩
      · have nb : ¬ own b := fun hb => (hown b hb).2.1 hr o e
        exact (kp b o (P₂.2 hr b o e) nb).1
    have nfC : ¬ foot δ' (upd H₁ acc (.list ((xs.filter pp).map ff))) C := fun f => ((hf4 C).mp f).elim hfC fun q => hne q.symm
    refine fin H₁ _ acc C s' ⟨⟨δ', S4, R4, P4, nfC⟩, hacc, ⟨m, hn⟩, (dead C hC).1, (dead C hC).2.2.1, (dead C hC).2.2.2, was_new P₂ hC⟩ (hq acc hacc)

theorem we_comp {tg : Tg} {x src : X} {is : List X} {Q : V → AH → Prop} (h : SrcP D n tg src ρ H (CompB D n tg x is ρ fun a H' => Q (.ref a) H')) : WE D n (.comp x tg src is) ρ H Q := by
  intro ex env A τ δ s t r S R
  have t' := t
  · obtain ⟨cs, elt, tgt, it, ifs, p, rfl, hok, hcov, hs, te, tt, tsrc, tif⟩ := t
    rw [eval_ListComp]
    refine comp_all (ex := it) (use := none) h t' r S R fun H₁ ys acc C s' ⟨⟨δ', S4, R4, P4, nfC⟩, hacc, ⟨m, hn⟩, hb, nf, nt, new⟩ hq => ?_
    refine ⟨m, hn, fun h' hs' => ?_⟩
    obtain ⟨S5, tm5⟩ := S4.ns hn hs' nfC hb nt
    refine ⟨.ref acc, _, δ', S5, ⟨fun b o e nf' => ?_, fun hr b o e => ?_⟩, .ref acc, hq⟩
    · obtain ⟨g1, g2⟩ := P4.1 b o e nf'
      exact ⟨hs'.extBut b o (fun q => nf' (by rw [q]; exact new.1 o (q ▸ e))) g1, g2⟩
    · exact hs'.extBut b o (fun q => new.2 hr o (q ▸ e)) (P4.2 hr b o e)
theorem w1_asgc {i : Nat} {tg : Tg} {x src : X} {is : List X} {Q : Fl → Loc → AH → Prop} (h : SrcP D n tg src ρ H (CompB D n tg x is ρ fun a H' => Q .nxt (lset ρ i (.ref a)) H')) : W1 D n (.asg (.var i) (.comp x tg src is)) ρ H Q := by
  intro ss env A τ δ s t r S R
  rcases t with ⟨_, _, _, rfl, hs, hw, tl, te⟩ | ⟨_, hi, _⟩ | ⟨_, hi, q, elt, tgt, it, ifs, cs, pc, p, rfl, hsw, hk, _, tc⟩
  · exact asg_plain (hs env rfl) (hw env rfl) tl te (we_comp (Q := fun v H' => WA D n (.var i) v ρ H' fun ρ' H'' => Q .nxt ρ' H'') (by
      intro it env A τ δ s tgt sc t tt r S R
      refine wpAny_mono (h it env A τ δ s tgt sc t tt r S R) (fun v s₁ h₁ => wpAny_mono h₁ (fun itv s₂ h₂ => ?_) fun _ _ z => z) fun _ _ z => z
      obtain ⟨H₁, xs, δ₁, I, e, S₂, P₂, R₂, W, hlen, pp, ff, hbody, hq⟩ := h₂
      exact ⟨H₁, xs, δ₁, I, e, S₂, P₂, R₂, W, hlen, pp, ff, hbody, fun acc ha => wa_var (hq acc ha)⟩)) r S R
  · cases hi
  · cases hi
    rw [exec_Assign_Name_used _ _ _ _ (hsw env rfl)]
    refine wpAny_bind (wpAny_standAt (wpAny_bind ?_))
    show wpAny _ A (do let _ ← comprehension (.ListComp elt [⟨tgt, it, ifs, 0⟩] cs pc) cs env _ (newList []) false (eval it env) (some (assign (.Name (nm i) q) env))) _ _ s
    refine wpAny_bind (wpAny_mono (comp_all (ex := it) (use := some (assign (.Name (nm i) q) env)) (RP := fun _ s' => PS D τ env (foot δ H) s.heap Q .next s') h tc r S R fun H₁ ys acc C s' ⟨⟨δ', S4, R4, P4, nfC⟩, hacc, ⟨m, hn⟩, hb, nf, nt, new⟩ hq => ?_) (fun _ s' hq => wpAny_pure (wpAny_pure hq)) fun _ _ e => e)
    show wpAny _ A (assign (.Name (nm i) q) env (.ref acc)) _ _ _
    refine wpAny_assign_Name (store_ok S4 R4 (.ref acc) (.inl hk) fun s5 S5 P5 R5 => ?_)
    obtain ⟨o, es, ep, ho, hm⟩ := hn
    have hn5 : s5.heap.Ns C m := ⟨o, es, ep, P5 C o ho (.inr nf), hm⟩
    refine ⟨m, hn5, fun h' hs' => ?_⟩
    obtain ⟨S6, tm6⟩ := S5.ns hn5 hs' nfC hb nt
    refine ⟨.nxt, _, _, δ', S6, fun b o e nf' nfr => ?_, R5.tm (fun b o f e => hs'.extBut b o (fun z => nf (z ▸ f)) e) tm6, .nxt, hq⟩
    obtain ⟨g1, g2⟩ := P4.1 b o e nf'
    exact ⟨hs'.extBut b o (fun z => nf' (by rw [z]; exact new.1 o (z ▸ e))) (P5 b o g1 (.inr nfr)), g2⟩
end




section
variable {D : Amb} {n : Nat} {ρ : Loc} {H : AH} {Q : V → AH → Prop} {A : Around} {τ : Addr → Prop} {δ : Addr → Addr} {s : Shared} {env : Env}

/-! repr of a pair of bools -/
noncomputable def reprId : Bool → Bool → Nat
  | true, true => 90
  | true, false => 91
  | false, true => 92
  | false, false => 93
theorem repr_shown : ∀ a b : Bool, (PyData.tuple [.bool a, .bool b]).shown = nm (reprId a b) := by decide +kernel
theorem wc_repr {a b : Bool} (q : Q (.str (reprId a b)) H) : WC D n (.builtin "repr") [.tup [.bool a, .bool b]] H Q := by
  intro A τ δ s vals r S c
  cases c with
  | cons c cs =>
    cases cs
    obtain ⟨⟨as, R⟩, h2, h3⟩ := dOf_reads S 2 (.tup [.bool a, .bool b]) (.tuple [.bool a, .bool b]) _ rfl c
    obtain ⟨ad, items, m, rfl, g1, g2⟩ := tup_of c
    refine repr_of_reads' R (by cases a <;> cases b <;> decide) (fun h => by cases a <;> cases b <;> cases h) r.1.2 (by have := r.2.1; unfold cLine; show A.units + (PyData.depth (.tuple [.bool a, .bool b]) + 1) < _; simp [PyData.depth, PyData.depthAll]; omega) (fun _ _ e => e) (fun h' u tk hk => ?_)
      (by rw [repr_shown, sizeLine_eq]; cases a <;> cases b <;> decide)
    rw [repr_shown]
    exact ⟨_, H, δ, S.grow hk, Pres.grow hk, .str _ _, q⟩

/-! a cut of a list that nothing writes -/
noncomputable def intVs (ns : List Int) : List V := ns.map V.int
theorem ints_vrs {h : Heap} {ψ : Addr → Prop} {vs ns} (r : IntsAre vs ns) : VRs h ψ (intVs ns) vs :=
  IntsAre.rec (motive := fun vs ns _ => VRs h ψ (intVs ns) vs) .nil (fun n t _ _ _ ih => .cons (.int n t) ih) r
theorem we_cut {e : X} {z : Nat} (h : WE D n e ρ H fun v H₁ => ∃ a vs ns, v = .ref a ∧ D.base.IsList a vs.toArray ∧ vs.length ≤ 1000000 ∧ IntsAre vs ns ∧ ∀ b, H₁ b = none → Q (.ref b) (upd H₁ b (.list (intVs (ns.take z))))) : WE D n (.cut e (z : Int)) ρ H Q := by
  intro ex env A τ δ s t r S R
  · obtain ⟨y, q0, k0, p0, p1, p2, rfl, te⟩ := t
    refine wpAny_Subscript_list_slice (h.bind te r S R fun v s' x H' δ' S' P' R' c ⟨a, vs, ns, hv, hb, hsz, hc, q⟩ => ?_)
    subst hv
    cases c
    refine wpAny_pure ?_
    show wpAny (model D.prog D.w) A (eval (.Constant (.int (z : Int)) k0 p2) env) _ _ _
    refine wpAny_Constant_int ?_
    obtain ⟨o, ho, hcl, m, hd⟩ := hb
    refine ⟨a, vs.toArray, none, some (z : Int), rfl, ⟨o, S'.base _ _ ho, hcl, m, hd⟩, by rw [sizeLine_eq, List.size_toArray]; omega, .none, .int _ _, ?_⟩
    have hk : ∀ b x (o1 o2 : Obj), s'.heap.get? b = some x → ((s'.heap.push o1).push o2).get? b = some x := fun b x o1 o2 e => Heap.get?_push_of_some _ (Heap.get?_push_of_some _ e)
    have hi := kmk_upto (y := (z : Int)) hc (Int.natCast_nonneg z)
    rw [Int.toNat_natCast] at hi
    have hn := S'.at_new 1
    generalize hB : s'.heap.objs.size + 1 = B at *
    have hbase : D.base.get? B = none := by
      cases e : D.base.get? B with
      | none => rfl
      | some o => rw [S'.base _ _ e] at hn; cases hn
    have hH : H' B = none := by
      cases e : H' B with
      | none => rfl
      | some o => obtain ⟨x, e', _⟩ := S'.live (foot_of e); rw [hn] at e'; cases e'
    have hk2 := fun b x => hk b x { cls := .type "slice", data := .fields #[.none, .int (z : Int) s'.toks, .none] } { cls := .type "list", data := .seq (slicePick vs.toArray none (some (z : Int)) none) }
    refine ⟨.ref B, _, δ', S'.new (o := .list (intVs (ns.take z))) rfl hn hbase hk2 (fun tm => ⟨slicePick vs.toArray none (some (z : Int)) none, 0, ?_, ints_vrs hi⟩), P'.trans (Pres.new S' rfl hn hk2), .ref B, q B hH⟩
    have hsz2 : (s'.heap.push { cls := .type "slice", data := .fields #[.none, .int (z : Int) s'.toks, .none] }).objs.size = B := by rw [← hB]; exact Heap.size_push ..
    rw [← hsz2]; exact Heap.get?_push_size _ rfl

/-! a display with names for keys -/
theorem St.adoptO (S : St D τ δ s H) {a : Addr} {o : O} (hi : o.isInst = false) (hx : ∃ x, s.heap.get? a = some x ∧ ∀ its n, x ≠ tupObj its n) (hb : D.base.get? a = none) (hf : ¬ foot δ H a)
    (hn : TM s.heap (psi τ δ H) s.heap (psi τ δ (upd H a o)) → OR D s.heap (psi τ δ (upd H a o)) δ a o) :
    St D τ δ s (upd H a o) ∧ (∀ b, foot δ (upd H a o) b ↔ foot δ H b ∨ b = a) ∧ H a = none := by
  have hH : H a = none := by cases q : H a with | none => rfl | some x => exact absurd (foot_of q) hf
  have hfn := foot_new (δ := δ) hi hH
  obtain ⟨ob, hob, hnt⟩ := hx
  have tm : TM s.heap (psi τ δ H) s.heap (psi τ δ (upd H a o)) := fun b items n e q => ⟨e, fun z => z.elim (fun z => ((hfn b).mp z).elim (fun z => q (.inl z)) fun z => by rw [z, hob] at e; exact hnt _ _ (Option.some.inj e)) fun z => q (.inr z)⟩
  have ii : ∀ c, isInstAt (upd H a o) c → isInstAt H c := fun c ⟨C, fs, q⟩ => by
    by_cases z : c = a
    · subst z; rw [upd_self] at q; cases q; cases hi
    · rw [upd_ne z] at q; exact ⟨C, fs, q⟩
  refine ⟨⟨S.base, fun b f => ((hfn b).mp f).elim (S.apart b) fun z => by rw [z]; exact hb, fun b x q => ?_, fun x y hx hy q => S.inj x y (ii x hx) (ii y hy) q, fun x hx => ?_, S.gens, S.os, S.tl⟩, hfn, hH⟩
  · by_cases z : b = a
    · subst z; rw [upd_self] at q; cases q; exact hn tm
    · rw [upd_ne z] at q
      exact (S.objs b x q).mono tm (fun y w => w) fun i => ⟨rfl, fun y w => w⟩
  · obtain ⟨C, fs, e⟩ := ii x hx
    have z : δ x ≠ a := fun q => hf (by rw [← q]; exact foot_inst e)
    rw [upd_ne z]; exact S.dsep x ⟨C, fs, e⟩
noncomputable def WD (D : Amb) (n : Nat) (vs : List X) (ρ : Loc) (H : AH) (Q : List V → AH → Prop) : Prop := match vs with
  | [] => Q [] H
  | x :: xs => WE D n x ρ H fun v H₁ => WD D n xs ρ H₁ fun ws H₂ => Q (v :: ws) H₂
theorem display_ok {is : List Nat} {B : Addr} : ∀ {ks : List (Option Expr)} {xs : List X} {es : List Expr} {ρ : Loc} {H : AH} {δ : Addr → Addr} {s : Shared} {Qs : List V → AH → Prop} {P : List (Value × Value) → Shared → Prop} {pos : Pos}, Tk ks is → Ts env.scope es xs → is.length = xs.length → WD D n xs ρ H Qs →
    Room A n → St D τ δ s H → EnvR D env (foot δ H) (psi τ δ H) ρ s.heap → s.heap.get? B = some (dictOf [] 0) → ¬ foot δ H B →
    (∀ vs s' ws H' δ', St D τ δ' s' H' → Pres D (foot δ H) (foot δ' H') s.heap s'.heap → s'.heap.get? B = some (dictOf [] 0) → ¬ foot δ' H' B →
      (∃ kvs : List (Str × Value), Carries (PySem.strKind D.prog D.w) vs kvs ∧ PR s'.heap (psi τ δ' H') ((is.zip ws).map fun p => (nm p.1, p.2)) kvs) → ws.length = is.length → Qs ws H' → P vs s') →
    wpAny (model D.prog D.w) A (evalPairs (pairTrees ks es env pos)) P NoE s := by
  induction is with
  | nil =>
    intro ks xs es ρ H δ s Qs P pos tk ts hl h r S R hB hf k
    cases tk
    cases xs with
    | cons _ _ => cases hl
    | nil => cases ts; exact pairTrees_nil_walk (k [] s [] H δ S (.refl _ _ _) hB hf ⟨[], trivial, .nil⟩ rfl h)
  | cons i is ih =>
    intro ks xs es ρ H δ s Qs P pos tk ts hl h r S R hB hf k
    · obtain ⟨_, _, _, rfl, tk⟩ := tk
      cases xs with
      | nil => cases hl
      | cons x xs =>
        obtain ⟨_, _, rfl, te, ts⟩ := ts
        refine pairTrees_cons_walk (wpAny_Constant_str ?_)
        have S0 := S.toks (s.toks + 1)
        refine WE.bind h te r S0 R fun v s' x H' δ' S' P' R' c q => ?_
        obtain ⟨g1, g2⟩ := P'.1 _ _ hB hf
        refine ih tk ts (by simpa using hl) q r S' R' g1 g2 fun vs s'' ws H'' δ'' S'' P'' b1 b2 ⟨kvs, c1, c2⟩ hwl qq => ?_
        exact k _ s'' (x :: ws) H'' δ'' S'' (P'.trans P'') b1 b2 ⟨(nm i, v) :: kvs, ⟨by simp [PySem.strKind, Value.isStrOf], rfl, c1⟩, .cons (c.mono P''.tm) c2⟩ (by simp [hwl]) qq
theorem we_dict {is : List Nat} {xs : List X} (hn : is.Nodup) (hlen : is.length ≤ 15) (h0 : is ≠ []) (hl : is.length = xs.length) (h : WD D n xs ρ H fun ws H₁ => ∀ a, H₁ a = none → Q (.ref a) (upd H₁ a (.sd (is.zip ws)))) : WE D n (.dict is xs) ρ H Q := by
  intro ex env A τ δ s t r S R
  · obtain ⟨ks, es, p, rfl, tk, tv⟩ := t
    have f := S.fresh
    have kall : ∀ {ks is}, Tk ks is → ks.all (·.isSome) = true ∧ ks.length = is.length := fun {ks is} t => by
      induction is generalizing ks with
      | nil => cases t; exact ⟨rfl, rfl⟩
      | cons i is ih => 
        · obtain ⟨_, _, _, rfl, t⟩ := t
          have := ih t; exact ⟨by simp [this.1], by simp [this.2]⟩
    have tlen : ∀ {sc es xs}, Ts sc es xs → es.length = xs.length := fun {sc es xs} t => by
      induction xs generalizing es with
      | nil => cases t; rfl
      | cons i is ih => 
        · obtain ⟨_, _, rfl, _, t⟩ := t
          simp [ih t]
    obtain ⟨k1, k2⟩ := kall tk
    refine wpAny_Dict_walk (knd := PySem.strKind D.prog D.w) k1 (by rw [k2, tlen tv, hl]) (fun q => by rw [q] at k2; exact h0 (List.length_eq_zero_iff.mp k2.symm)) (by rw [k2]; exact hlen) ?_
    have hk := push_keeps s.heap { cls := .type "dict", data := .dict #[] }
    have P1 : Pres D (foot δ H) (foot δ H) s.heap (s.heap.push { cls := .type "dict", data := .dict #[] }) := Pres.grow hk
    have S1 : St D τ δ { s with heap := s.heap.push { cls := .type "dict", data := .dict #[] } } H := S.grow hk
    refine display_ok (B := s.heap.objs.size) tk tv hl h r S1 (R.pres P1 P1.tm) (Heap.get?_push_size _ rfl) f.2.2.1 fun vs s' ws H' δ' S' P' b1 b2 ⟨kvs, c1, c2⟩ hwl q => ?_
    have hkeys := c2.keys
    have hz : ((is.zip ws).map fun p => (nm p.1, p.2)).map (·.1) = is.map nm := by
      rw [List.map_map]
      have : (is.zip ws).map (·.1) = is := List.map_fst_zip (by omega)
      conv => rhs; rw [← this]
      rw [List.map_map]; rfl
    have hnd : (kvs.map (·.1)).Nodup := by
      rw [hkeys, hz]
      exact List.Pairwise.map nm (fun a b h e => h (nm_inj e)) hn
    refine ⟨kvs, c1, ?_, fun h' hd hs => ?_⟩
    · exact ⟨_, #[], 0, b1, ⟨rfl, rfl, rfl⟩, rfl, fun _ he => by simp at he, Pairs.nil, List.nodup_nil⟩
    · rw [merged_nil_of_nodup _ hnd] at hd
      have hlive : ∃ o, h'.get? s.heap.objs.size = some o ∧ ∀ its n, o ≠ tupObj its n := by
        obtain ⟨o, es', ep, h1, h3, h4, _⟩ := hd
        exact ⟨o, h1, fun _ _ q => by subst q; cases h4⟩
      have S2 : St D τ δ' { s' with heap := h', toks := s'.toks + vs.length } H' := S'.other (fun b => b = s.heap.objs.size) (fun b o hb e => hs.extBut b o hb e) (fun b hb => by
        subst hb; exact ⟨b2, f.2.1, .inl (fun its m q => by rw [b1] at q; have := congrArg Obj.cls (Option.some.inj q); simp at this), let ⟨o, e, _⟩ := hlive; ⟨o, e⟩⟩)
      have tm2 : TM s'.heap (psi τ δ' H') h' (psi τ δ' H') := fun b its m e q => ⟨hs.extBut b _ (fun z => by rw [z, b1] at e; have := congrArg Obj.cls (Option.some.inj e); simp at this) e, q⟩
      obtain ⟨S3, hf3, hH3⟩ := S2.adoptO (o := .sd (is.zip ws)) rfl hlive f.2.1 b2 fun tm => ⟨kvs, hd, (c2.mono tm2).mono tm⟩
      refine ⟨.ref s.heap.objs.size, _, δ', S3, ⟨fun b o e nf => ?_, fun hr b o e => ?_⟩, .ref _, q _ hH3⟩
      · have hne : b ≠ s.heap.objs.size := fun z => by rw [z, f.1] at e; cases e
        obtain ⟨g1, g2⟩ := P'.1 b o (hk b o e) nf
        exact ⟨hs.extBut b o hne g1, fun z => ((hf3 b).mp z).elim g2 hne⟩
      · have hne : b ≠ s.heap.objs.size := fun z => by rw [z, f.1] at e; cases e
        exact hs.extBut b o hne (P'.2 hr b o (hk b o e))
end




/-! a check that a tree of the program is told by a small one -/
noncomputable def isNm (s : Str) (i : Nat) : Bool := s == nm i
theorem isNm_eq {s : Str} {i : Nat} (h : isNm s i = true) : s = nm i := eq_of_beq h
theorem ands {a b : Bool} (h : (a && b) = true) : a = true ∧ b = true := Bool.and_eq_true_iff.mp h
theorem not_of {a : Bool} (h : (!a) = true) : a = false := (Bool.not_eq_true' a).mp h
theorem or_of {a b : Bool} (h : (a || b) = true) : a = true ∨ b = true := Bool.or_eq_true_iff.mp h
theorem dite_ok {c : Prop} [Decidable c] {f : c → Bool} (h : (if h : c then f h else false) = true) : ∃ c, f c = true := by
  by_cases q : c
  · rw [dif_pos q] at h; exact ⟨q, h⟩
  · rw [dif_neg q] at h; exact no h
theorem any_ok {α : Type} {o : Option α} {f : α → Bool} (h : o.any f = true) : ∃ a, o = some a ∧ f a = true := by
  cases o with
  | none => exact no h
  | some a => exact ⟨a, rfl, h⟩
noncomputable def on1 {α : Type} (l : List α) (f : α → Bool) : Bool := l.head?.any fun a => decide (l.length = 1) && f a
theorem on1_ok {α : Type} {l : List α} {f : α → Bool} (h : on1 l f = true) : ∃ a, l = [a] ∧ f a = true := by
  cases l with
  | nil => exact no h
  | cons a r =>
    obtain ⟨h1, h2⟩ := ands (a := decide (_ = 1)) h
    exact ⟨a, by rw [List.eq_nil_of_length_eq_zero (Nat.succ.inj (of_decide_eq_true h1))], h2⟩
noncomputable def onBop (e : Expr) (f : BoolOp → List Expr → Pos → Bool) : Bool := if h : e.ctorIdx = 0 then Expr.BoolOp.elim e h f else false
theorem onBop_ok {e : Expr} {f : BoolOp → List Expr → Pos → Bool} (h : onBop e f = true) : ∃ op' es' p', e = .BoolOp op' es' p' ∧ f op' es' p' = true :=
  let ⟨c, h⟩ := dite_ok h; Expr.BoolOp.elim (motive_1 := fun e => ∀ c, Expr.BoolOp.elim (motive_1 := fun _ => Bool) e c f = true → ∃ op' es' p', e = .BoolOp op' es' p' ∧ f op' es' p' = true) e c (fun op' es' p' _ h => ⟨op', es', p', rfl, h⟩) c h
noncomputable def onBin (e : Expr) (f : Expr → Operator → Expr → Pos → Bool) : Bool := if h : e.ctorIdx = 2 then Expr.BinOp.elim e h f else false
theorem onBin_ok {e : Expr} {f : Expr → Operator → Expr → Pos → Bool} (h : onBin e f = true) : ∃ a' op' b' p', e = .BinOp a' op' b' p' ∧ f a' op' b' p' = true :=
  let ⟨c, h⟩ := dite_ok h; Expr.BinOp.elim (motive_1 := fun e => ∀ c, Expr.BinOp.elim (motive_1 := fun _ => Bool) e c f = true → ∃ a' op' b' p', e = .BinOp a' op' b' p' ∧ f a' op' b' p' = true) e c (fun a' op' b' p' _ h => ⟨a', op', b', p', rfl, h⟩) c h
noncomputable def onUn (e : Expr) (f : UnaryOp → Expr → Pos → Bool) : Bool := if h : e.ctorIdx = 3 then Expr.UnaryOp.elim e h f else false
theorem onUn_ok {e : Expr} {f : UnaryOp → Expr → Pos → Bool} (h : onUn e f = true) : ∃ op' a' p', e = .UnaryOp op' a' p' ∧ f op' a' p' = true :=
  let ⟨c, h⟩ := dite_ok h; Expr.UnaryOp.elim (motive_1 := fun e => ∀ c, Expr.UnaryOp.elim (motive_1 := fun _ => Bool) e c f = true → ∃ op' a' p', e = .UnaryOp op' a' p' ∧ f op' a' p' = true) e c (fun op' a' p' _ h => ⟨op', a', p', rfl, h⟩) c h
noncomputable def onIf (e : Expr) (f : Expr → Expr → Expr → Pos → Bool) : Bool := if h : e.ctorIdx = 5 then Expr.IfExp.elim e h f else false
theorem onIf_ok {e : Expr} {f : Expr → Expr → Expr → Pos → Bool} (h : onIf e f = true) : ∃ a' b' c' p', e = .IfExp a' b' c' p' ∧ f a' b' c' p' = true :=
  let ⟨c, h⟩ := dite_ok h; Expr.IfExp.elim (motive_1 := fun e => ∀ c, Expr.IfExp.elim (motive_1 := fun _ => Bool) e c f = true → ∃ a' b' c' p', e = .IfExp a' b' c' p' ∧ f a' b' c' p' = true) e c (fun a' b' c' p' _ h => ⟨a', b', c', p', rfl, h⟩) c h
noncomputable def onDict (e : Expr) (f : List (Option Expr) → List Expr → Pos → Bool) : Bool := if h : e.ctorIdx = 6 then Expr.Dict.elim e h f else false
theorem onDict_ok {e : Expr} {f : List (Option Expr) → List Expr → Pos → Bool} (h : onDict e f = true) : ∃ ks' vs' p', e = .Dict ks' vs' p' ∧ f ks' vs' p' = true :=
  let ⟨c, h⟩ := dite_ok h; Expr.Dict.elim (motive_1 := fun e => ∀ c, Expr.Dict.elim (motive_1 := fun _ => Bool) e c f = true → ∃ ks' vs' p', e = .Dict ks' vs' p' ∧ f ks' vs' p' = true) e c (fun ks' vs' p' _ h => ⟨ks', vs', p', rfl, h⟩) c h
noncomputable def onLc (e : Expr) (f : Expr → List Comprehension → Scope → Pos → Bool) : Bool := if h : e.ctorIdx = 8 then Expr.ListComp.elim e h f else false
theorem onLc_ok {e : Expr} {f : Expr → List Comprehension → Scope → Pos → Bool} (h : onLc e f = true) : ∃ e' gs' cs' p', e = .ListComp e' gs' cs' p' ∧ f e' gs' cs' p' = true :=
  let ⟨c, h⟩ := dite_ok h; Expr.ListComp.elim (motive_1 := fun e => ∀ c, Expr.ListComp.elim (motive_1 := fun _ => Bool) e c f = true → ∃ e' gs' cs' p', e = .ListComp e' gs' cs' p' ∧ f e' gs' cs' p' = true) e c (fun e' gs' cs' p' _ h => ⟨e', gs', cs', p', rfl, h⟩) c h
noncomputable def onCmp (e : Expr) (f : Expr → List CmpOp → List Expr → Pos → Bool) : Bool := if h : e.ctorIdx = 15 then Expr.Compare.elim e h f else false
theorem onCmp_ok {e : Expr} {f : Expr → List CmpOp → List Expr → Pos → Bool} (h : onCmp e f = true) : ∃ a' ops' bs' p', e = .Compare a' ops' bs' p' ∧ f a' ops' bs' p' = true :=
  let ⟨c, h⟩ := dite_ok h; Expr.Compare.elim (motive_1 := fun e => ∀ c, Expr.Compare.elim (motive_1 := fun _ => Bool) e c f = true → ∃ a' ops' bs' p', e = .Compare a' ops' bs' p' ∧ f a' ops' bs' p' = true) e c (fun a' ops' bs' p' _ h => ⟨a', ops', bs', p', rfl, h⟩) c h
noncomputable def onCall (e : Expr) (f : Expr → List Expr → List Keyword → Pos → Bool) : Bool := if h : e.ctorIdx = 16 then Expr.Call.elim e h f else false
theorem onCall_ok {e : Expr} {f : Expr → List Expr → List Keyword → Pos → Bool} (h : onCall e f = true) : ∃ f' es' kw' p', e = .Call f' es' kw' p' ∧ f f' es' kw' p' = true :=
  let ⟨c, h⟩ := dite_ok h; Expr.Call.elim (motive_1 := fun e => ∀ c, Expr.Call.elim (motive_1 := fun _ => Bool) e c f = true → ∃ f' es' kw' p', e = .Call f' es' kw' p' ∧ f f' es' kw' p' = true) e c (fun f' es' kw' p' _ h => ⟨f', es', kw', p', rfl, h⟩) c h
noncomputable def onConst (e : Expr) (f : Const → Nat → Pos → Bool) : Bool := if h : e.ctorIdx = 19 then Expr.Constant.elim e h f else false
theorem onConst_ok {e : Expr} {f : Const → Nat → Pos → Bool} (h : onConst e f = true) : ∃ c' k' p', e = .Constant c' k' p' ∧ f c' k' p' = true :=
  let ⟨c, h⟩ := dite_ok h; Expr.Constant.elim (motive_1 := fun e => ∀ c, Expr.Constant.elim (motive_1 := fun _ => Bool) e c f = true → ∃ c' k' p', e = .Constant c' k' p' ∧ f c' k' p' = true) e c (fun c' k' p' _ h => ⟨c', k', p', rfl, h⟩) c h
noncomputable def onAttr (e : Expr) (f : Expr → Str → Pos → Bool) : Bool := if h : e.ctorIdx = 20 then Expr.Attribute.elim e h f else false
theorem onAttr_ok {e : Expr} {f : Expr → Str → Pos → Bool} (h : onAttr e f = true) : ∃ e' a' p', e = .Attribute e' a' p' ∧ f e' a' p' = true :=
  let ⟨c, h⟩ := dite_ok h; Expr.Attribute.elim (motive_1 := fun e => ∀ c, Expr.Attribute.elim (motive_1 := fun _ => Bool) e c f = true → ∃ e' a' p', e = .Attribute e' a' p' ∧ f e' a' p' = true) e c (fun e' a' p' _ h => ⟨e', a', p', rfl, h⟩) c h
noncomputable def onSub (e : Expr) (f : Expr → Expr → Pos → Bool) : Bool := if h : e.ctorIdx = 21 then Expr.Subscript.elim e h f else false
theorem onSub_ok {e : Expr} {f : Expr → Expr → Pos → Bool} (h : onSub e f = true) : ∃ e' k' p', e = .Subscript e' k' p' ∧ f e' k' p' = true :=
  let ⟨c, h⟩ := dite_ok h; Expr.Subscript.elim (motive_1 := fun e => ∀ c, Expr.Subscript.elim (motive_1 := fun _ => Bool) e c f = true → ∃ e' k' p', e = .Subscript e' k' p' ∧ f e' k' p' = true) e c (fun e' k' p' _ h => ⟨e', k', p', rfl, h⟩) c h
noncomputable def onName (e : Expr) (f : Str → Pos → Bool) : Bool := if h : e.ctorIdx = 23 then Expr.Name.elim e h f else false
theorem onName_ok {e : Expr} {f : Str → Pos → Bool} (h : onName e f = true) : ∃ s' p', e = .Name s' p' ∧ f s' p' = true :=
  let ⟨c, h⟩ := dite_ok h; Expr.Name.elim (motive_1 := fun e => ∀ c, Expr.Name.elim (motive_1 := fun _ => Bool) e c f = true → ∃ s' p', e = .Name s' p' ∧ f s' p' = true) e c (fun s' p' _ h => ⟨s', p', rfl, h⟩) c h
noncomputable def onList (e : Expr) (f : List Expr → Pos → Bool) : Bool := if h : e.ctorIdx = 24 then Expr.List.elim e h f else false
theorem onList_ok {e : Expr} {f : List Expr → Pos → Bool} (h : onList e f = true) : ∃ es' p', e = .List es' p' ∧ f es' p' = true :=
  let ⟨c, h⟩ := dite_ok h; Expr.List.elim (motive_1 := fun e => ∀ c, Expr.List.elim (motive_1 := fun _ => Bool) e c f = true → ∃ es' p', e = .List es' p' ∧ f es' p' = true) e c (fun es' p' _ h => ⟨es', p', rfl, h⟩) c h
noncomputable def onTup (e : Expr) (f : List Expr → Nat → Pos → Bool) : Bool := if h : e.ctorIdx = 25 then Expr.Tuple.elim e h f else false
theorem onTup_ok {e : Expr} {f : List Expr → Nat → Pos → Bool} (h : onTup e f = true) : ∃ es' k' p', e = .Tuple es' k' p' ∧ f es' k' p' = true :=
  let ⟨c, h⟩ := dite_ok h; Expr.Tuple.elim (motive_1 := fun e => ∀ c, Expr.Tuple.elim (motive_1 := fun _ => Bool) e c f = true → ∃ es' k' p', e = .Tuple es' k' p' ∧ f es' k' p' = true) e c (fun es' k' p' _ h => ⟨es', k', p', rfl, h⟩) c h
noncomputable def onSlice (e : Expr) (f : Option Expr → Option Expr → Option Expr → Pos → Bool) : Bool := if h : e.ctorIdx = 26 then Expr.Slice.elim e h f else false
theorem onSlice_ok {e : Expr} {f : Option Expr → Option Expr → Option Expr → Pos → Bool} (h : onSlice e f = true) : ∃ lo' up' st' p', e = .Slice lo' up' st' p' ∧ f lo' up' st' p' = true :=
  let ⟨c, h⟩ := dite_ok h; Expr.Slice.elim (motive_1 := fun e => ∀ c, Expr.Slice.elim (motive_1 := fun _ => Bool) e c f = true → ∃ lo' up' st' p', e = .Slice lo' up' st' p' ∧ f lo' up' st' p' = true) e c (fun lo' up' st' p' _ h => ⟨lo', up', st', p', rfl, h⟩) c h
noncomputable def onRet (e : Stmt) (f : Option Expr → Pos → Bool) : Bool := if h : e.ctorIdx = 3 then Stmt.Return.elim e h f else false
theorem onRet_ok {e : Stmt} {f : Option Expr → Pos → Bool} (h : onRet e f = true) : ∃ o' p', e = .Return o' p' ∧ f o' p' = true :=
  let ⟨c, h⟩ := dite_ok h; Stmt.Return.elim (motive_2 := fun e => ∀ c, Stmt.Return.elim (motive_2 := fun _ => Bool) e c f = true → ∃ o' p', e = .Return o' p' ∧ f o' p' = true) e c (fun o' p' _ h => ⟨o', p', rfl, h⟩) c h
noncomputable def onAsg (e : Stmt) (f : List Expr → Expr → Pos → Bool) : Bool := if h : e.ctorIdx = 5 then Stmt.Assign.elim e h f else false
theorem onAsg_ok {e : Stmt} {f : List Expr → Expr → Pos → Bool} (h : onAsg e f = true) : ∃ ts' e' p', e = .Assign ts' e' p' ∧ f ts' e' p' = true :=
  let ⟨c, h⟩ := dite_ok h; Stmt.Assign.elim (motive_2 := fun e => ∀ c, Stmt.Assign.elim (motive_2 := fun _ => Bool) e c f = true → ∃ ts' e' p', e = .Assign ts' e' p' ∧ f ts' e' p' = true) e c (fun ts' e' p' _ h => ⟨ts', e', p', rfl, h⟩) c h
noncomputable def onAug (e : Stmt) (f : Expr → Operator → Expr → Pos → Bool) : Bool := if h : e.ctorIdx = 7 then Stmt.AugAssign.elim e h f else false
theorem onAug_ok {e : Stmt} {f : Expr → Operator → Expr → Pos → Bool} (h : onAug e f = true) : ∃ a' op' b' p', e = .AugAssign a' op' b' p' ∧ f a' op' b' p' = true :=
  let ⟨c, h⟩ := dite_ok h; Stmt.AugAssign.elim (motive_2 := fun e => ∀ c, Stmt.AugAssign.elim (motive_2 := fun _ => Bool) e c f = true → ∃ a' op' b' p', e = .AugAssign a' op' b' p' ∧ f a' op' b' p' = true) e c (fun a' op' b' p' _ h => ⟨a', op', b', p', rfl, h⟩) c h
noncomputable def onFor (e : Stmt) (f : Expr → Expr → List Stmt → List Stmt → Pos → Bool) : Bool := if h : e.ctorIdx = 9 then Stmt.For.elim e h f else false
theorem onFor_ok {e : Stmt} {f : Expr → Expr → List Stmt → List Stmt → Pos → Bool} (h : onFor e f = true) : ∃ a' b' ss' rs' p', e = .For a' b' ss' rs' p' ∧ f a' b' ss' rs' p' = true :=
  let ⟨c, h⟩ := dite_ok h; Stmt.For.elim (motive_2 := fun e => ∀ c, Stmt.For.elim (motive_2 := fun _ => Bool) e c f = true → ∃ a' b' ss' rs' p', e = .For a' b' ss' rs' p' ∧ f a' b' ss' rs' p' = true) e c (fun a' b' ss' rs' p' _ h => ⟨a', b', ss', rs', p', rfl, h⟩) c h
noncomputable def onWhl (e : Stmt) (f : Expr → List Stmt → List Stmt → Pos → Bool) : Bool := if h : e.ctorIdx = 11 then Stmt.While.elim e h f else false
theorem onWhl_ok {e : Stmt} {f : Expr → List Stmt → List Stmt → Pos → Bool} (h : onWhl e f = true) : ∃ a' ss' rs' p', e = .While a' ss' rs' p' ∧ f a' ss' rs' p' = true :=
  let ⟨c, h⟩ := dite_ok h; Stmt.While.elim (motive_2 := fun e => ∀ c, Stmt.While.elim (motive_2 := fun _ => Bool) e c f = true → ∃ a' ss' rs' p', e = .While a' ss' rs' p' ∧ f a' ss' rs' p' = true) e c (fun a' ss' rs' p' _ h => ⟨a', ss', rs', p', rfl, h⟩) c h
noncomputable def onSIf (e : Stmt) (f : Expr → List Stmt → List Stmt → Pos → Bool) : Bool := if h : e.ctorIdx = 12 then Stmt.If.elim e h f else false
theorem onSIf_ok {e : Stmt} {f : Expr → List Stmt → List Stmt → Pos → Bool} (h : onSIf e f = true) : ∃ a' ss' rs' p', e = .If a' ss' rs' p' ∧ f a' ss' rs' p' = true :=
  let ⟨c, h⟩ := dite_ok h; Stmt.If.elim (motive_2 := fun e => ∀ c, Stmt.If.elim (motive_2 := fun _ => Bool) e c f = true → ∃ a' ss' rs' p', e = .If a' ss' rs' p' ∧ f a' ss' rs' p' = true) e c (fun a' ss' rs' p' _ h => ⟨a', ss', rs', p', rfl, h⟩) c h
noncomputable def onEx (e : Stmt) (f : Expr → Pos → Bool) : Bool := if h : e.ctorIdx = 24 then Stmt.Expr.elim e h f else false
theorem onEx_ok {e : Stmt} {f : Expr → Pos → Bool} (h : onEx e f = true) : ∃ e' p', e = .Expr e' p' ∧ f e' p' = true :=
  let ⟨c, h⟩ := dite_ok h; Stmt.Expr.elim (motive_2 := fun e => ∀ c, Stmt.Expr.elim (motive_2 := fun _ => Bool) e c f = true → ∃ e' p', e = .Expr e' p' ∧ f e' p' = true) e c (fun e' p' _ h => ⟨e', p', rfl, h⟩) c h
noncomputable def locK (k : Option NameKind) : Bool := decide (k = some .local) || decide (k = some .cell)
noncomputable def varK (k : Option NameKind) : Bool := locK k || decide (k = some .free)
theorem locK_ok {k : Option NameKind} (h : locK k = true) : isLoc k := (or_of h).imp of_decide_eq_true of_decide_eq_true
theorem varK_ok {k : Option NameKind} (h : varK k = true) : isVar k := (or_of h).elim (fun h => (locK_ok h).imp id .inl) fun h => .inr (.inr (of_decide_eq_true h))
noncomputable def isRef (e : Expr) : Bool := onName e (fun _ _ => true) || (onAttr e (fun _ _ _ => true) || onSub e (fun _ _ _ => true))
theorem isRef_ok {e : Expr} {P : Expr → Prop} (h : isRef e = true) (p1 : ∀ s p, P (.Name s p)) (p2 : ∀ a s p, P (.Attribute a s p)) (p3 : ∀ a s p, P (.Subscript a s p)) : P e := by
  rcases or_of h with h | h
  · obtain ⟨_, _, rfl, _⟩ := onName_ok h; exact p1 _ _
  · rcases or_of h with h | h
    · obtain ⟨_, _, _, rfl, _⟩ := onAttr_ok h; exact p2 _ _ _
    · obtain ⟨_, _, _, rfl, _⟩ := onSub_ok h; exact p3 _ _ _
theorem notSuper_ok {e : Expr} (h : isRef e = true) (a : Str) : ∀ env whole, attributeBase e a env whole = whole :=
  isRef_ok (P := fun e => ∀ env whole, attributeBase e a env whole = whole) h (fun _ _ _ _ => rfl) (fun _ _ _ _ _ => rfl) fun _ _ _ _ _ => rfl
noncomputable def notSet (e : Expr) : Bool := isRef e || (onCall e (fun _ _ _ _ => true) || onTup e fun _ _ _ => true)
theorem notSet_ok {e : Expr} (h : notSet e = true) : ∀ env y, foldedSetIterable e env y = pure y := by
  rcases or_of h with h | h
  · exact isRef_ok (P := fun e => ∀ env y, foldedSetIterable e env y = pure y) h (fun _ _ _ _ => rfl) (fun _ _ _ _ _ => rfl) fun _ _ _ _ _ => rfl
  · rcases or_of h with h | h
    · obtain ⟨_, _, _, _, rfl, _⟩ := onCall_ok h; exact fun _ _ => rfl
    · obtain ⟨_, _, _, rfl, _⟩ := onTup_ok h; exact fun _ _ => rfl

section
variable {α β : Type} (f : α → β → Bool)
noncomputable def chks : List α → List β → Bool
  | [], xs => xs.isEmpty
  | e :: es, xs => xs.head?.any fun x => f e x && chks es xs.tail
end
theorem chks_nil {α β : Type} {f : α → β → Bool} {es : List α} (h : chks f es [] = true) : es = [] := by
  cases es with
  | nil => rfl
  | cons e es => exact no h
theorem chks_cons {α β : Type} {f : α → β → Bool} {es : List α} {x : β} {xs : List β} (h : chks f es (x :: xs) = true) : ∃ e r, es = e :: r ∧ f e x = true ∧ chks f r xs = true := by
  cases es with
  | nil => exact no h
  | cons e es => obtain ⟨h1, h2⟩ := ands h; exact ⟨e, es, rfl, h1, h2⟩
noncomputable def strIs (i : Nat) (e : Expr) : Bool := onConst e fun c _ _ => decide (c = .str (nm i))
noncomputable def keyIs (k : Option Expr) (i : Nat) : Bool := k.any (strIs i)
noncomputable def nameIs (sc : Scope) (e : Expr) (i : Nat) : Bool := onName e fun s _ => isNm s i && locK (sc.names.lookup s)
noncomputable def chkTT (sc : Scope) (e : Expr) : Tg → Bool
  | .one i => nameIs sc e i
  | .many is => onTup e fun es _ _ => chks (nameIs sc) es is
noncomputable def intIs (y : Int) (e : Expr) : Bool := onConst e fun c _ _ => decide (c = .int y)
noncomputable def cutOk (y : Int) (e : Expr) : Bool := onSlice e fun lo up st _ => (lo.isNone && st.isNone) && up.any (intIs y)
theorem intIs_ok {y : Int} {e : Expr} (h : intIs y e = true) : ∃ k p, e = .Constant (.int y) k p := by
  obtain ⟨c, k, p, rfl, h⟩ := onConst_ok h
  exact ⟨k, p, by rw [of_decide_eq_true h]⟩
theorem cutOk_ok {y : Int} {e : Expr} (h : cutOk y e = true) : ∃ k p p', e = .Slice none (some (.Constant (.int y) k p)) none p' := by
  obtain ⟨lo, up, st, p, rfl, h⟩ := onSlice_ok h
  obtain ⟨h0, h2⟩ := ands h
  obtain ⟨h1, h3⟩ := ands h0
  obtain ⟨e, rfl, h2⟩ := any_ok h2
  obtain ⟨k, p', rfl⟩ := intIs_ok h2
  exact ⟨k, p', p, by rw [Option.isNone_iff_eq_none.mp h1, Option.isNone_iff_eq_none.mp h3]⟩
noncomputable def chkT : Nat → Scope → Expr → X → Bool
  | 0, _, _, _ => false
  | n + 1, sc, e, x => match x with
    | .var i => onName e fun s _ => isNm s i && varK (sc.names.lookup s)
    | .int y => intIs y e
    | .str i => strIs i e
    | .bool b => onConst e fun c _ _ => decide (c = .bool b)
    | .none => onConst e fun c _ _ => decide (c = .none)
    | .attr x i => onAttr e fun e a _ => isNm a i && (isRef e && chkT n sc e x)
    | .cut x y => onSub e fun e k _ => cutOk y k && (onName e (fun _ _ => true) && chkT n sc e x)
    | .item x y => onSub e fun e k _ => chkT n sc e x && chkT n sc k y
    | .neg y => onUn e fun op o _ => decide (op = .USub) && intIs y o
    | .not x => onUn e fun op o _ => decide (op = .Not) && chkT n sc o x
    | .tup xs => onTup e fun es _ _ => chks (chkT n sc) es xs
    | .list xs => onList e fun es _ => chks (chkT n sc) es xs
    | .dict is xs => onDict e fun ks vs _ => chks keyIs ks is && chks (chkT n sc) vs xs
    | .bin op' x y => onBin e fun a op b _ => decide (op = op') && (chkT n sc a x && chkT n sc b y)
    | .cmp op' x y => onCmp e fun a ops bs _ => decide (ops = [op']) && on1 bs fun b => !behindInMarks op' b && (chkT n sc a x && chkT n sc b y)
    | .bop op' xs => onBop e fun op es _ => decide (op = op') && chks (chkT n sc) es xs
    | .ife x y z => onIf e fun c a b _ => chkT n sc c x && (chkT n sc a y && chkT n sc b z)
    | .call i xs => onCall e fun f es kw _ => kw.isEmpty && onName f fun s _ => isNm s i && (decide (sc.names.lookup s = some .globalImplicit) && chks (chkT n sc) es xs)
    | .meth x m xs => onCall e fun f es kw q => kw.isEmpty && onAttr f fun e a p => isNm a m && ((p.endLine == q.line) && (isRef e && (decide (es.length < 20) && (chkT n sc e x && chks (chkT n sc) es xs))))
    | .comp x tg src xs => onLc e fun elt gs cs _ => on1 gs fun g => decide (g.is_async = 0) && (compOk cs sc && (tgCover tg cs && (notSet g.iter && (chkT n (relabelS cs sc) elt x && (chkTT (relabelS cs sc) g.target tg && (chkT n sc g.iter src && chks (chkT n (relabelS cs sc)) g.ifs xs))))))

theorem strIs_ok {i : Nat} {e : Expr} (h : strIs i e = true) : ∃ k p, e = .Constant (.str (nm i)) k p := by
  obtain ⟨c, k, p, rfl, h⟩ := onConst_ok h
  exact ⟨k, p, by rw [of_decide_eq_true h]⟩
theorem chks_ok {f : Expr → X → Bool} {sc : Scope} (h : ∀ e x, f e x = true → T sc e x) : ∀ {xs es}, chks f es xs = true → Ts sc es xs
  | [], es, q => chks_nil q
  | x :: xs, es, q => let ⟨e, r, q1, q2, q3⟩ := chks_cons q; ⟨e, r, q1, h _ _ q2, chks_ok h q3⟩
theorem chkK_ok : ∀ {is ks}, chks keyIs ks is = true → Tk ks is
  | [], ks, q => chks_nil q
  | i :: is, ks, q => let ⟨e, r, q1, q2, q3⟩ := chks_cons q; let ⟨k, q4, q5⟩ := any_ok q2; let ⟨c, p, q6⟩ := strIs_ok q5; ⟨c, p, r, by rw [q1, q4, q6], chkK_ok q3⟩
theorem nameIs_ok {sc : Scope} {e : Expr} {i : Nat} (q : nameIs sc e i = true) : ∃ p, e = .Name (nm i) p ∧ isLoc (sc.names.lookup (nm i)) := by
  obtain ⟨s, p, rfl, h⟩ := onName_ok q
  obtain ⟨h1, h2⟩ := ands h
  cases isNm_eq h1
  exact ⟨p, rfl, locK_ok h2⟩
theorem chkN_ok {sc : Scope} : ∀ {is es}, chks (nameIs sc) es is = true → TN sc es is
  | [], es, q => chks_nil q
  | i :: is, es, q => let ⟨e, r, q1, q2, q3⟩ := chks_cons q; let ⟨p, q4, q5⟩ := nameIs_ok q2; ⟨p, r, by rw [q1, q4], q5, chkN_ok q3⟩
theorem chkTT_ok {sc : Scope} {e : Expr} {t : Tg} (q : chkTT sc e t = true) : TT sc e t := by
  cases t with
  | one i => exact nameIs_ok q
  | many is => obtain ⟨es, k, p, rfl, h⟩ := onTup_ok q; exact ⟨_, _, _, rfl, chkN_ok h⟩
theorem chkT_ok : ∀ (n : Nat) {sc : Scope} {e : Expr} {x : X}, chkT n sc e x = true → T sc e x
  | 0, _, _, _, h => no h
  | n + 1, sc, e, x, h => by
    have ih : ∀ {sc : Scope} {e : Expr} {x : X}, chkT n sc e x = true → T sc e x := fun h => chkT_ok n h
    have ihs : ∀ {sc : Scope} {xs : List X} {es : List Expr}, chks (chkT n sc) es xs = true → Ts sc es xs := fun h => chks_ok (fun _ _ => ih) h
    clear chkT_ok
    cases x with
    | var i => obtain ⟨s, p, rfl, h⟩ := onName_ok h; obtain ⟨h1, h2⟩ := ands h; cases isNm_eq h1; exact ⟨_, rfl, varK_ok h2⟩
    | int y => exact intIs_ok h
    | str i => exact strIs_ok h
    | bool b => obtain ⟨c, k, p, rfl, h⟩ := onConst_ok h; cases of_decide_eq_true h; exact ⟨_, _, rfl⟩
    | none => obtain ⟨c, k, p, rfl, h⟩ := onConst_ok h; cases of_decide_eq_true h; exact ⟨_, _, rfl⟩
    | attr x i => obtain ⟨e', a, p, rfl, h⟩ := onAttr_ok h; obtain ⟨h1, h⟩ := ands h; obtain ⟨h2, h3⟩ := ands h; cases isNm_eq h1; exact ⟨_, _, rfl, notSuper_ok h2 _, ih h3⟩
    | cut x y =>
      obtain ⟨e', k, p, rfl, h⟩ := onSub_ok h; obtain ⟨h1, h⟩ := ands h; obtain ⟨h2, h3⟩ := ands h
      obtain ⟨_, _, _, rfl⟩ := cutOk_ok h1
      obtain ⟨_, _, rfl, _⟩ := onName_ok h2
      exact ⟨_, _, _, _, _, _, rfl, ih h3⟩
    | item x y => obtain ⟨e', k, p, rfl, h⟩ := onSub_ok h; obtain ⟨h1, h2⟩ := ands h; exact ⟨_, _, _, rfl, ih h1, ih h2⟩
    | neg y => obtain ⟨op, o, p, rfl, h⟩ := onUn_ok h; obtain ⟨h1, h2⟩ := ands h; cases of_decide_eq_true h1; obtain ⟨_, _, rfl⟩ := intIs_ok h2; exact ⟨_, _, _, rfl⟩
    | not x => obtain ⟨op, o, p, rfl, h⟩ := onUn_ok h; obtain ⟨h1, h2⟩ := ands h; cases of_decide_eq_true h1; exact ⟨_, _, rfl, ih h2⟩
    | tup xs => obtain ⟨es, k, p, rfl, h⟩ := onTup_ok h; exact ⟨_, _, _, rfl, ihs h⟩
    | list xs => obtain ⟨es, p, rfl, h⟩ := onList_ok h; exact ⟨_, _, rfl, ihs h⟩
    | dict is xs => obtain ⟨ks, vs, p, rfl, h⟩ := onDict_ok h; obtain ⟨h1, h2⟩ := ands h; exact ⟨_, _, _, rfl, chkK_ok h1, ihs h2⟩
    | bin op x y => obtain ⟨a, o, b, p, rfl, h⟩ := onBin_ok h; obtain ⟨h1, h⟩ := ands h; obtain ⟨h2, h3⟩ := ands h; cases of_decide_eq_true h1; exact ⟨_, _, _, rfl, ih h2, ih h3⟩
    | cmp op x y =>
      obtain ⟨a, o, bs, p, rfl, h⟩ := onCmp_ok h; obtain ⟨h1, h⟩ := ands h; obtain ⟨b, rfl, h⟩ := on1_ok h
      obtain ⟨h2, h⟩ := ands h; obtain ⟨h3, h4⟩ := ands h; cases of_decide_eq_true h1; exact ⟨_, _, _, rfl, not_of h2, ih h3, ih h4⟩
    | bop op xs => obtain ⟨o, es, p, rfl, h⟩ := onBop_ok h; obtain ⟨h1, h2⟩ := ands h; cases of_decide_eq_true h1; exact ⟨_, _, rfl, ihs h2⟩
    | ife x y z => obtain ⟨a, b, c, p, rfl, h⟩ := onIf_ok h; obtain ⟨h1, h⟩ := ands h; obtain ⟨h2, h3⟩ := ands h; exact ⟨_, _, _, _, rfl, ih h1, ih h2, ih h3⟩
    | call i xs =>
      obtain ⟨f, es, kw, p, rfl, h⟩ := onCall_ok h; obtain ⟨hk, h⟩ := ands h; obtain ⟨s, q, rfl, h⟩ := onName_ok h
      cases List.isEmpty_iff.mp hk
      obtain ⟨h1, h⟩ := ands h; obtain ⟨h2, h3⟩ := ands h; cases isNm_eq h1; exact ⟨_, _, _, rfl, of_decide_eq_true h2, ihs h3⟩
    | meth x m xs =>
      obtain ⟨f, es, kw, p, rfl, h⟩ := onCall_ok h; obtain ⟨hk, h⟩ := ands h; obtain ⟨e', s, q, rfl, h⟩ := onAttr_ok h
      cases List.isEmpty_iff.mp hk
      obtain ⟨h1, h⟩ := ands h; obtain ⟨h2, h⟩ := ands h; obtain ⟨h3, h⟩ := ands h; obtain ⟨h4, h⟩ := ands h; obtain ⟨h5, h6⟩ := ands h
      cases isNm_eq h1; exact ⟨_, _, _, _, rfl, h2, notSuper_ok h3 _, h4, ih h5, ihs h6⟩
    | comp x tg src xs =>
      obtain ⟨elt, gs, cs, p, rfl, h⟩ := onLc_ok h; obtain ⟨⟨t, it, ifs, asy⟩, rfl, h⟩ := on1_ok h
      obtain ⟨h1, h⟩ := ands h; obtain ⟨h2, h⟩ := ands h; obtain ⟨h3, h⟩ := ands h; obtain ⟨h4, h⟩ := ands h; obtain ⟨h5, h⟩ := ands h; obtain ⟨h6, h⟩ := ands h; obtain ⟨h7, h8⟩ := ands h
      have h1 : asy = 0 := of_decide_eq_true h1
      cases h1; exact ⟨_, _, _, _, _, _, rfl, h2, h3, notSet_ok h4, ih h5, chkTT_ok h6, ih h7, ihs h8⟩

/-! targets and statements -/
noncomputable def chkL (n : Nat) (sc : Scope) (e : Expr) : LV → Bool
  | .var i => nameIs sc e i
  | .attr x i => onAttr e fun e a _ => isNm a i && chkT n sc e x
  | .item x y => onSub e fun e k _ => chkT n sc e x && chkT n sc k y
  | .many is => onTup e fun es _ _ => chks (nameIs sc) es is
theorem chkL_ok {n : Nat} {sc : Scope} {e : Expr} {l : LV} (h : chkL n sc e l = true) : TL sc e l := by
  cases l with
  | var i => exact nameIs_ok h
  | attr x i => obtain ⟨e', a, p, rfl, h⟩ := onAttr_ok h; obtain ⟨h1, h2⟩ := ands h; cases isNm_eq h1; exact ⟨_, _, rfl, chkT_ok n h2⟩
  | item x y => obtain ⟨e', k, p, rfl, h⟩ := onSub_ok h; obtain ⟨h1, h2⟩ := ands h; exact ⟨_, _, _, rfl, chkT_ok n h1, chkT_ok n h2⟩
  | many is => obtain ⟨es, k, p, rfl, h⟩ := onTup_ok h; exact ⟨_, _, _, rfl, chkN_ok h⟩

noncomputable def swNames (sc : Scope) (ts : List Expr) : List Str := ts.filterMap fun e => PySem.swappedStores.match_8 (fun _ => Option Str) e (fun id pos => if (sc.names.lookup id == some .local && pos.line == (ts.head?.map (·.pos.line)).getD 0) = true then some id else none) (fun _ => none)
theorem sw_eq {sc : Scope} {env : Env} (he : env.scope = sc) (ts : List Expr) (k1 : Nat) (p1 : Pos) (vs : List Expr) (k2 : Nat) (p2 : Pos) : swappedStores [.Tuple ts k1 p1] (.Tuple vs k2 p2) env =
    if (!(ts.length == 2 || ts.length == 3) || vs.length != ts.length || env.blockKind != .function) = true then pure none else if vs.any starB = true then pure none else
    if ((swNames sc ts).length != ts.length || (swNames sc ts).eraseDups.length != (swNames sc ts).length) = true then pure none else if vs.all (foldedForSure 8) = true then pure none else
    if vs.all (constantsAlone 8) = true then (do unsupported "assign.tuple-of-constant-expressions:order-of-the-stores"; pure (some (swNames sc ts))) else pure (some (swNames sc ts)) := by
  subst he; rfl
noncomputable def noSwap (sc : Scope) (t e : Expr) : Bool := isRef t || onTup t fun ts _ _ => onTup e fun vs _ _ => (!(ts.length == 2 || ts.length == 3) || vs.length != ts.length) || ((swNames sc ts).length != ts.length)
theorem noSwap_ok {sc : Scope} {t e : Expr} (h : noSwap sc t e = true) (env : Env) (he : env.scope = sc) : swappedStores [t] e env = pure Option.none := by
  rcases or_of h with h | h
  · exact isRef_ok (P := fun t => swappedStores [t] e env = pure Option.none) h (fun _ _ => rfl) (fun _ _ _ => rfl) fun _ _ _ => rfl
  · obtain ⟨ts, k1, p1, rfl, h⟩ := onTup_ok h
    obtain ⟨vs, k2, p2, rfl, h⟩ := onTup_ok (e := e) h
    rw [sw_eq he]
    rcases or_of h with h | h
    · exact if_pos (by rw [h]; rfl)
    · by_cases c1 : (!(ts.length == 2 || ts.length == 3) || vs.length != ts.length || env.blockKind != .function) = true
      · exact if_pos c1
      · rw [if_neg c1]
        by_cases c2 : vs.any starB = true
        · exact if_pos c2
        · rw [if_neg c2]
          exact if_pos (by rw [h]; rfl)
noncomputable def isSwap (m : Nat) (sc : Scope) (is : List Nat) (t e : Expr) (x : X) : Bool := onTup t fun ts _ _ => onTup e fun vs _ _ => (sc.kind == .function) && ((ts.length == 2 || ts.length == 3) && ((vs.length == ts.length) &&
  (decide (swNames sc ts = is.map nm) && ((is.length == ts.length) && (((is.map nm).eraseDups.length == is.length) && (!(vs.all (foldedForSure 8)) && (!(vs.all (constantsAlone 8)) && (if h : x.ctorIdx = 9 then X.tup.elim x h (chks (chkT m sc) vs) else false))))))))
theorem Ts.nost {sc : Scope} : ∀ {xs : List X} {es : List Expr}, Ts sc es xs → es.any starB = false
  | [], es, h => by cases (h : es = []); rfl
  | x :: xs, es, h => by
    obtain ⟨e, r, rfl, te, ts⟩ := h
    rw [List.any_cons, te.plain.nost, ts.nost]; rfl
theorem isSwap_ok {m : Nat} {sc : Scope} {is : List Nat} {t e : Expr} {x : X} (h : isSwap m sc is t e x = true) (env : Env) (he : env.scope = sc) : swappedStores [t] e env = pure (some (is.map nm)) := by
  obtain ⟨ts, k1, p1, rfl, h⟩ := onTup_ok h
  obtain ⟨vs, k2, p2, rfl, h⟩ := onTup_ok (e := e) h
  obtain ⟨h1, h⟩ := ands h; obtain ⟨h2, h⟩ := ands h; obtain ⟨h3, h⟩ := ands h; obtain ⟨h5, h⟩ := ands h; obtain ⟨h6, h⟩ := ands h; obtain ⟨h7, h⟩ := ands h; obtain ⟨h8, h⟩ := ands h; obtain ⟨h9, h⟩ := ands h
  obtain ⟨c, h⟩ := dite_ok h
  have h4 : vs.any starB = false := X.tup.elim (motive_1 := fun x => ∀ c, X.tup.elim (motive_1 := fun _ => Bool) x c (chks (chkT m sc) vs) = true → vs.any starB = false) x c (fun es _ h => (chks_ok (fun _ _ => chkT_ok m) h).nost) c h
  have h1 : sc.kind = .function := eq_of_beq h1
  have h3 : vs.length = ts.length := eq_of_beq h3
  have h6 : is.length = ts.length := eq_of_beq h6
  have hb : env.blockKind = .function := by unfold Env.blockKind; rw [he, h1]; rfl
  rw [sw_eq he, if_neg (by rw [h2, h3, hb, bne_self_eq_false]; decide), if_neg (by rw [h4]; decide), of_decide_eq_true h5, if_neg (by rw [List.length_map, h6, eq_of_beq h7, h6, bne_self_eq_false]; decide), if_neg (by rw [not_of h8]; decide), if_neg (by rw [not_of h9]; decide)]

noncomputable def asgC (m : Nat) (sc : Scope) (i : Nat) (x : X) (ts : List Expr) (e : Expr) : Bool := on1 ts fun t => onName t fun s q => onLc e fun _ gs cs pc => on1 gs fun g =>
  isNm s i && (decide (g.is_async = 0) && ((sc.kind == .function) && (decide (sc.names.lookup s = some .local) && ((q.line == pc.line) && (!(cs.names.any fun (n, k) => n == s && (k == .local || k == .cell)) && (x.isComp && chkT m sc e x))))))
noncomputable def asgM (m : Nat) (sc : Scope) (is : List Nat) (t e : Expr) (x : X) : Bool := (noSwap sc t e && chkL 0 sc t (.many is)) || (isSwap m sc is t e x && (decide is.Nodup && is.all fun i => decide (sc.names.lookup (nm i) = some .local)))
noncomputable def asgP (m : Nat) (sc : Scope) (l : LV) (x : X) (ts : List Expr) (e : Expr) : Bool := on1 ts fun t => chkT m sc e x && ((!x.isComp || (onSub t (fun _ _ _ => true) && onLc e fun _ _ _ _ => true)) && (match l with | .many is => asgM m sc is t e x | .var _ => noSwap sc t e && chkL m sc t l | .attr _ _ => noSwap sc t e && chkL m sc t l | .item _ _ => noSwap sc t e && chkL m sc t l))
noncomputable def lvar (l : LV) (f : Nat → Bool) : Bool := match l with | .var i => f i | .attr _ _ => false | .item _ _ => false | .many _ => false
noncomputable def chkS (m : Nat) : Nat → Scope → Stmt → S → Bool
  | 0, _, _, _ => false
  | n + 1, sc, st, s => match s with
    | .asg l x => onAsg st fun ts e p => lvar l (fun i => asgC m sc i x ts e) || asgP m sc l x ts e
    | .aug x i op' y => onAug st fun t op v _ => onAttr t fun e a _ => isNm a i && (decide (op = op') && (chkT m sc e x && chkT m sc v y))
    | .ret x => onRet st fun o _ => o.any fun e => chkT m sc e x
    | .retN => onRet st fun o _ => o.isNone
    | .ife x ss rs => onSIf st fun c a b _ => chkT m sc c x && (chks (chkS m n sc) a ss && chks (chkS m n sc) b rs)
    | .for_ tg src ss => onFor st fun t it b r _ => r.isEmpty && (notSet it && (chkTT sc t tg && (chkT m sc it src && chks (chkS m n sc) b ss)))
    | .whl x ss => onWhl st fun c b r _ => r.isEmpty && (chkT m sc c x && chks (chkS m n sc) b ss)
    | .ex x => onEx st fun e _ => !x.isComp && chkT m sc e x
theorem chkSs_ok {f : Stmt → S → Bool} {sc : Scope} (h : ∀ e x, f e x = true → TS sc e x) : ∀ {xs es}, chks f es xs = true → TSs sc es xs
  | [], es, q => chks_nil q
  | x :: xs, es, q => let ⟨e, r, q1, q2, q3⟩ := chks_cons q; ⟨e, r, q1, h _ _ q2, chkSs_ok h q3⟩
theorem asgC_ok {m : Nat} {sc : Scope} {i : Nat} {x : X} {ts : List Expr} {e : Expr} {p : Pos} (h : asgC m sc i x ts e = true) : TS sc (.Assign ts e p) (.asg (.var i) x) := by
  obtain ⟨t, rfl, h⟩ := on1_ok h
  obtain ⟨s, q, rfl, h⟩ := onName_ok h
  obtain ⟨elt, gs, cs, pc, rfl, h⟩ := onLc_ok h
  obtain ⟨⟨t, it, ifs, a⟩, rfl, h⟩ := on1_ok h
  obtain ⟨h1, h⟩ := ands h; obtain ⟨h2, h⟩ := ands h; obtain ⟨h3, h⟩ := ands h; obtain ⟨h4, h⟩ := ands h; obtain ⟨h5, h⟩ := ands h; obtain ⟨h6, h⟩ := ands h; obtain ⟨hx, h7⟩ := ands h
  have h2 : a = 0 := of_decide_eq_true h2
  have h4 := of_decide_eq_true h4
  cases isNm_eq h1; cases h2
  refine .inr (.inr ⟨_, rfl, _, _, _, _, _, _, _, _, rfl, (fun env he => ?_), h4, hx, (chkT_ok m h7)⟩)
  show (pure (env.blockKind == .function && env.kindOf (nm i) == some .local && q.line == pc.line && !(cs.names.any fun (n, k) => n == nm i && (k == .local || k == .cell))) : Sem Bool) = pure true
  have e1 : env.blockKind = .function := by unfold Env.blockKind; rw [he, eq_of_beq h3]; rfl
  have e2 : env.kindOf (nm i) = some .local := by unfold Env.kindOf; rw [he]; exact h4
  rw [e1, e2, h5, h6]; rfl
theorem asgP_ok {m : Nat} {sc : Scope} {l : LV} {x : X} {ts : List Expr} {e : Expr} {p : Pos} (h : asgP m sc l x ts e = true) : TS sc (.Assign ts e p) (.asg l x) := by
  obtain ⟨t, rfl, h⟩ := on1_ok h
  obtain ⟨h2, h⟩ := ands h; obtain ⟨h1, h3⟩ := ands h
  have ht := chkT_ok m h2
  have hsw : ∀ env : Env, swapsWithSole [t] e p.line env = pure false := fun env => by
    show swapsWith e (some t) p.line env = pure false
    rcases or_of h1 with h1 | h1
    · exact ht.plain.nc (not_of h1) _ _ _
    · obtain ⟨h1, h4⟩ := ands h1
      obtain ⟨_, _, _, rfl, _⟩ := onSub_ok h1
      obtain ⟨_, _, _, _, rfl, _⟩ := onLc_ok h4
      rfl
  have plain : ∀ {k}, (noSwap sc t e && chkL k sc t l) = true → TS sc (.Assign [t] e p) (.asg l x) := fun h => .inl ⟨_, _, _, rfl, (fun env _ => hsw env), (fun env he => noSwap_ok (ands h).1 env he), (chkL_ok (ands h).2), ht⟩
  cases l with
  | many is =>
    rcases or_of h3 with h3 | h3
    · exact plain h3
    · obtain ⟨h3, h⟩ := ands h3; obtain ⟨h4, h5⟩ := ands h
      obtain ⟨ts, k1, p1, rfl, _⟩ := onTup_ok h3
      exact .inr (.inl ⟨_, rfl, _, _, _, _, _, rfl, (fun env _ => hsw env), (fun env he => isSwap_ok h3 env he), (of_decide_eq_true h4), (fun i hi => of_decide_eq_true (List.all_eq_true.mp h5 i hi)), ht⟩)
  | var i => exact plain h3
  | attr x i => exact plain h3
  | item x y => exact plain h3
theorem chkS_ok (m : Nat) : ∀ (n : Nat) {sc : Scope} {e : Stmt} {x : Mine.S}, chkS m n sc e x = true → TS sc e x
  | 0, _, _, _, h => no h
  | n + 1, sc, st, x, h => by
    have ih : ∀ {sc : Scope} {xs : List Mine.S} {es : List Stmt}, chks (chkS m n sc) es xs = true → TSs sc es xs := fun h => chkSs_ok (fun _ _ h => chkS_ok m n h) h
    clear chkS_ok
    cases x with
    | asg l x =>
      obtain ⟨ts, e, p, rfl, h⟩ := onAsg_ok h
      rcases or_of h with h | h
      · cases l with
        | var i => exact asgC_ok h
        | attr _ _ => exact no h
        | item _ _ => exact no h
        | many _ => exact no h
      · exact asgP_ok h
    | aug x i op y =>
      obtain ⟨t, o, v, p, rfl, h⟩ := onAug_ok h
      obtain ⟨e, a, q, rfl, h⟩ := onAttr_ok h
      obtain ⟨h1, h⟩ := ands h; obtain ⟨h2, h⟩ := ands h; obtain ⟨h3, h4⟩ := ands h
      cases isNm_eq h1; cases of_decide_eq_true h2
      exact ⟨_, _, _, _, rfl, (chkT_ok m h3), (chkT_ok m h4)⟩
    | ret x => obtain ⟨o, p, rfl, h⟩ := onRet_ok h; obtain ⟨e, rfl, h⟩ := any_ok h; exact ⟨_, _, rfl, chkT_ok m h⟩
    | retN => obtain ⟨o, p, rfl, h⟩ := onRet_ok h; cases Option.isNone_iff_eq_none.mp h; exact ⟨_, rfl⟩
    | ife c a b => obtain ⟨c', a', b', p, rfl, h⟩ := onSIf_ok h; obtain ⟨h1, h⟩ := ands h; obtain ⟨h2, h3⟩ := ands h; exact ⟨_, _, _, _, rfl, (chkT_ok m h1), (ih h2), (ih h3)⟩
    | for_ tg src b =>
      obtain ⟨t, it, b', r, p, rfl, h⟩ := onFor_ok h
      obtain ⟨h1, h⟩ := ands h; obtain ⟨h2, h⟩ := ands h; obtain ⟨h3, h⟩ := ands h; obtain ⟨h4, h5⟩ := ands h
      cases List.isEmpty_iff.mp h1
      exact ⟨_, _, _, _, rfl, (notSet_ok h2), (chkTT_ok h3), (chkT_ok m h4), (ih h5)⟩
    | whl c b => obtain ⟨c', b', r, p, rfl, h⟩ := onWhl_ok h; obtain ⟨h1, h⟩ := ands h; obtain ⟨h2, h3⟩ := ands h; cases List.isEmpty_iff.mp h1; exact ⟨_, _, _, rfl, (chkT_ok m h2), (ih h3)⟩
    | ex x => obtain ⟨e, p, rfl, h⟩ := onEx_ok h; obtain ⟨h1, h2⟩ := ands h; have ht := chkT_ok m h2; exact ⟨_, _, rfl, (fun env => ht.plain.nc (not_of h1) _ _ _), ht⟩

/-! functions -/
noncomputable def onFd {α : Type} (d : α) (o : Option Obj) (f : FuncData → α) : α := o.elim d fun o => if h : o.data.ctorIdx = 7 then Data.func.elim o.data h f else d
noncomputable def fdOf (K : Frag) (f : Addr) : FuncData := onFd default (K.lookup f) id
noncomputable def chkFn (K : Frag) (f : Addr) (ps : List Nat) (body : List S) : Bool := onFd false (K.lookup f) fun fd => (match fd.body with | .stmts ss => chks (chkS 12 12 fd.scope) ss body | .expr _ => false) &&
  (decide (fd.globals = mainGlobals) && (fd.closure.isEmpty && (decide (fd.builtins = builtinsNs) && (codeIn K fd.code fd.qualname && ((fd.scope.kind == .function) && (!fd.scope.isCoroutine && (!fd.scope.isGenerator &&
      ((ps.all fun p => locK (fd.scope.names.lookup (nm p))) && ((fd.scope.names.all fun y => y.2 != .free) && decide ps.Nodup)))))))))
theorem onFd_ok {o : Option Obj} {g : FuncData → Bool} (h : onFd false o g = true) : ∃ oc od fd osl, o = some ⟨oc, od, .func fd, osl⟩ ∧ g fd = true := by
  cases o with
  | none => exact no h
  | some o =>
    obtain ⟨oc, od, dt, osl⟩ := o
    obtain ⟨c, h⟩ := dite_ok (f := fun c => Data.func.elim (motive := fun _ => Bool) dt c g) h
    exact Data.func.elim (motive := fun dt => ∀ c, Data.func.elim (motive := fun _ => Bool) dt c g = true → ∃ oc' od' fd osl', some (Obj.mk oc od dt osl) = some ⟨oc', od', .func fd, osl'⟩ ∧ g fd = true) dt c (fun fd _ h => ⟨oc, od, fd, osl, rfl, h⟩) c h
theorem chkFn_ok {D : Amb} {f : Addr} {ps : List Nat} {body : List S} (h : chkFn D.K f ps body = true) (hb : ∀ vals : List Value, vals.length = ps.length → bindArgs (fdOf D.K f) ⟨vals, []⟩ = pure ((ps.map nm).zip vals)) : Fn D f ps body := by
  obtain ⟨oc, od, fd, osl, hK, h⟩ := onFd_ok h
  have hf : fdOf D.K f = fd := by unfold fdOf; rw [hK]; rfl
  rw [hf] at hb
  obtain ⟨name, qual, params, bd, scope, globals, closure, dV, kV, doc, pm, an, code, ct, builtins⟩ := fd
  obtain ⟨h1, h⟩ := ands h; obtain ⟨h2, h⟩ := ands h; obtain ⟨h3, h⟩ := ands h; obtain ⟨h4, h⟩ := ands h; obtain ⟨h5, h⟩ := ands h; obtain ⟨h6, h⟩ := ands h; obtain ⟨h7, h⟩ := ands h; obtain ⟨h8, h⟩ := ands h; obtain ⟨h9, h⟩ := ands h; obtain ⟨h10, h11⟩ := ands h
  have g2 : globals = mainGlobals := of_decide_eq_true h2
  have g4 : builtins = builtinsNs := of_decide_eq_true h4
  have g3 : closure = [] := List.isEmpty_iff.mp h3
  cases g2; cases g3; cases g4
  cases bd with
  | stmts ss =>
    refine ⟨⟨oc, od, osl, name, qual, params, ss, scope, dV, kV, doc, pm, an, code, ct, hK, h5, eq_of_beq h6, not_of h7, not_of h8, chkSs_ok (fun _ _ h => chkS_ok 12 12 h) h1, hb, fun p hp => locK_ok (List.all_eq_true.mp h9 p hp), fun x hx => ?_⟩, of_decide_eq_true h11⟩
    have := List.all_eq_true.mp h10 _ (lookup_mem' hx)
    exact no this
  | expr e => exact no h1



@[simp] def p_Shape_init : List Nat := [7, 8, 9, 10]
noncomputable def b_Shape_init : List S := [
  .asg (.attr (.var 7) 8) (.var 8),
  .asg (.attr (.var 7) 9) (.var 9),
  .asg (.attr (.var 7) 10) (.var 10),
  .asg (.attr (.var 7) 11) (.none),
  .asg (.attr (.var 7) 12) (.int 0),
  .asg (.attr (.var 7) 13) (.ife (.cmp .Is (.var 9) (.none)) (.int 0) (.attr (.var 9) 13)),
  .asg (.attr (.var 7) 14) (.bop .Or [.cmp .Is (.var 9) (.none), .attr (.var 9) 14]),
  .asg (.attr (.var 7) 15) (.dict [] []),
  .asg (.attr (.var 7) 16) (.none),
  .asg (.attr (.var 7) 17) (.none)]
@[simp] def p_Shape_rows : List Nat := [7]
noncomputable def b_Shape_rows : List S := [
  .asg (.var 18) (.list []),
  .asg (.var 19) (.var 7),
  .whl (.cmp .IsNot (.var 19) (.none)) [.ife (.cmp .IsNot (.attr (.var 19) 11) (.none)) [.ex (.meth (.var 18) 56 [.tup [.attr (.var 19) 11, .attr (.var 19) 12]])] [], .asg (.var 19) (.attr (.var 19) 9)],
  .ex (.meth (.var 18) 57 []),
  .ret (.var 18)]
@[simp] def p_Shape_place : List Nat := [7, 11]
noncomputable def b_Shape_place : List S := [
  .ife (.cmp .Is (.attr (.var 7) 17) (.none)) [.asg (.attr (.var 7) 17) (.dict [] []), .for_ (.many [20, 21]) (.call 86 [.meth (.var 7) 26 []]) [.asg (.item (.attr (.var 7) 17) (.item (.var 21) (.int 0))) (.tup [.var 20, .item (.var 21) (.int 1)])]] [],
  .ret (.meth (.attr (.var 7) 17) 58 [.var 11])]
@[simp] def p_ShapeTree_init : List Nat := [7, 22]
noncomputable def b_ShapeTree_init : List S := [
  .asg (.attr (.var 7) 22) (.var 22),
  .asg (.attr (.var 7) 23) (.int 0),
  .asg (.attr (.var 7) 24) (.dict [] [])]
@[simp] def p_ShapeTree_next_number : List Nat := [7]
noncomputable def b_ShapeTree_next_number : List S := [
  .aug (.var 7) 23 .Add (.int 1),
  .ret (.attr (.var 7) 23)]
@[simp] def p_ShapeTree_root : List Nat := [7, 10]
noncomputable def b_ShapeTree_root : List S := [
  .asg (.var 11) (.ife (.cmp .Is (.var 10) (.none)) (.int 0) (.attr (.var 10) 8)),
  .ife (.cmp .NotIn (.var 11) (.attr (.var 7) 24)) [.asg (.item (.attr (.var 7) 24) (.var 11)) (.call 81 [.meth (.var 7) 61 [], .none, .var 10])] [],
  .ret (.item (.attr (.var 7) 24) (.var 11))]
@[simp] def p_ShapeTree_added : List Nat := [7, 19, 11, 12]
noncomputable def b_ShapeTree_added : List S := [
  .asg (.var 25) (.tup [.var 11, .var 12]),
  .ife (.cmp .NotIn (.var 25) (.attr (.var 19) 15)) [.asg (.var 15) (.call 81 [.meth (.var 7) 61 [], .var 19, .attr (.var 19) 10]), .asg (.attr (.var 15) 11) (.var 11), .asg (.attr (.var 15) 12) (.var 12), .asg (.attr (.var 15) 13) (.bin .Add (.attr (.var 19) 13) (.int 1)), .asg (.item (.attr (.var 19) 15) (.var 25)) (.var 15)] [],
  .ret (.item (.attr (.var 19) 15) (.var 25))]
@[simp] def p_ShapeTree_shut : List Nat := [7, 19]
noncomputable def b_ShapeTree_shut : List S := [
  .ife (.not (.attr (.var 19) 14)) [.ret (.var 19)] [],
  .ife (.cmp .Is (.attr (.var 19) 16) (.none)) [.asg (.attr (.var 19) 16) (.call 81 [.meth (.var 7) 61 [], .var 19, .attr (.var 19) 10]), .asg (.attr (.attr (.var 19) 16) 14) (.bool false)] [],
  .ret (.attr (.var 19) 16)]
@[simp] def p_ShapeTree_built : List Nat := [7, 26, 10, 14]
noncomputable def b_ShapeTree_built : List S := [
  .asg (.var 19) (.meth (.var 7) 62 [.var 10]),
  .for_ (.many [11, 12]) (.var 26) [.asg (.var 19) (.meth (.var 7) 63 [.var 19, .var 11, .var 12])],
  .ret (.ife (.var 14) (.var 19) (.meth (.var 7) 64 [.var 19]))]
@[simp] def p_Store_init : List Nat := [7, 27, 10]
noncomputable def b_Store_init : List S := [
  .asg (.attr (.var 7) 27) (.var 27),
  .asg (.attr (.var 7) 8) (.meth (.var 27) 61 []),
  .asg (.attr (.var 7) 19) (.meth (.var 27) 62 [.var 10]),
  .asg (.attr (.var 7) 28) (.list []),
  .asg (.attr (.var 7) 29) (.dict [] []),
  .asg (.attr (.var 7) 30) (.bool false),
  .asg (.attr (.var 7) 31) (.none),
  .asg (.attr (.var 7) 32) (.bool true)]
@[simp] def p_Store_above : List Nat := [7]
noncomputable def b_Store_above : List S := [
  .ret (.ife (.attr (.var 7) 30) (.attr (.var 7) 31) (.attr (.attr (.var 7) 19) 10))]
@[simp] def p_Store_can_grow : List Nat := [7]
noncomputable def b_Store_can_grow : List S := [
  .ret (.ife (.attr (.var 7) 30) (.attr (.var 7) 32) (.attr (.attr (.var 7) 19) 14))]
@[simp] def p_Store_find : List Nat := [7, 11]
noncomputable def b_Store_find : List S := [
  .ife (.attr (.var 7) 30) [.ret (.meth (.attr (.var 7) 29) 58 [.var 11])] [],
  .asg (.var 33) (.meth (.attr (.var 7) 19) 33 [.var 11]),
  .ret (.ife (.cmp .Is (.var 33) (.none)) (.none) (.tup [.item (.var 33) (.int 1), .item (.attr (.var 7) 28) (.item (.var 33) (.int 0))]))]
@[simp] def p_Store_rows : List Nat := [7]
noncomputable def b_Store_rows : List S := [
  .ife (.attr (.var 7) 30) [.ret (.comp (.tup [.var 11, .item (.item (.attr (.var 7) 29) (.var 11)) (.int 0), .item (.item (.attr (.var 7) 29) (.var 11)) (.int 1)]) (.one 11) (.attr (.var 7) 29) [])] [],
  .ret (.comp (.tup [.item (.var 21) (.int 0), .item (.var 21) (.int 1), .item (.attr (.var 7) 28) (.var 20)]) (.many [20, 21]) (.call 86 [.meth (.attr (.var 7) 19) 26 []]) [])]
@[simp] def p_Store_go_alone : List Nat := [7]
noncomputable def b_Store_go_alone : List S := [
  .ife (.not (.attr (.var 7) 30)) [.for_ (.many [11, 12, 34]) (.meth (.var 7) 26 []) [.asg (.item (.attr (.var 7) 29) (.var 11)) (.tup [.var 12, .var 34])], .asg (.attr (.var 7) 31) (.attr (.attr (.var 7) 19) 10), .asg (.attr (.var 7) 32) (.attr (.attr (.var 7) 19) 14), .asg (.attr (.var 7) 28) (.list []), .asg (.attr (.var 7) 30) (.bool true)] []]
@[simp] def p_Store_put : List Nat := [7, 11, 12, 34]
noncomputable def b_Store_put : List S := [
  .asg (.var 33) (.ife (.attr (.var 7) 30) (.none) (.meth (.attr (.var 7) 19) 33 [.var 11])),
  .ife (.bop .And [.cmp .Is (.var 33) (.none), .not (.attr (.var 7) 30), .bop .Or [.cmp .GtE (.attr (.attr (.var 7) 19) 13) (.attr (.attr (.var 7) 27) 22), .not (.attr (.attr (.var 7) 19) 14)]]) [.ex (.meth (.var 7) 68 [])] [],
  .ife (.attr (.var 7) 30) [.asg (.item (.attr (.var 7) 29) (.var 11)) (.tup [.var 12, .var 34])] [.ife (.cmp .Is (.var 33) (.none)) [.asg (.attr (.var 7) 19) (.meth (.attr (.var 7) 27) 63 [.attr (.var 7) 19, .var 11, .var 12]), .ex (.meth (.attr (.var 7) 28) 56 [.var 34])] [.asg (.item (.attr (.var 7) 28) (.item (.var 33) (.int 0))) (.var 34), .ife (.cmp .NotEq (.var 12) (.item (.var 33) (.int 1))) [.ex (.meth (.var 7) 70 [.item (.var 33) (.int 0), .var 12])] []]]]
@[simp] def p_Store_reflag : List Nat := [7, 20, 12]
noncomputable def b_Store_reflag : List S := [
  .asg (.var 26) (.meth (.attr (.var 7) 19) 26 []),
  .asg (.item (.var 26) (.var 20)) (.tup [.item (.item (.var 26) (.var 20)) (.int 0), .var 12]),
  .asg (.attr (.var 7) 19) (.meth (.attr (.var 7) 27) 65 [.var 26, .attr (.attr (.var 7) 19) 10, .attr (.attr (.var 7) 19) 14])]
@[simp] def p_Store_remove : List Nat := [7, 11]
noncomputable def b_Store_remove : List S := [
  .ife (.attr (.var 7) 30) [.ex (.meth (.attr (.var 7) 29) 59 [.var 11, .none])] [.ife (.cmp .Eq (.attr (.attr (.var 7) 19) 11) (.var 11)) [.asg (.attr (.var 7) 19) (.attr (.attr (.var 7) 19) 9), .ex (.meth (.attr (.var 7) 28) 59 [])] [.ife (.cmp .IsNot (.meth (.attr (.var 7) 19) 33 [.var 11]) (.none)) [.ex (.meth (.var 7) 68 []), .ex (.meth (.attr (.var 7) 29) 59 [.var 11, .none])] []]]]
@[simp] def p_Store_close : List Nat := [7]
noncomputable def b_Store_close : List S := [
  .ife (.attr (.var 7) 30) [.asg (.attr (.var 7) 32) (.bool false)] [.asg (.attr (.var 7) 19) (.meth (.attr (.var 7) 27) 64 [.attr (.var 7) 19])]]
@[simp] def p_Store_set_proto : List Nat := [7, 10]
noncomputable def b_Store_set_proto : List S := [
  .ife (.attr (.var 7) 30) [.asg (.attr (.var 7) 31) (.var 10)] [.asg (.attr (.var 7) 19) (.meth (.attr (.var 7) 27) 65 [.meth (.attr (.var 7) 19) 26 [], .var 10, .attr (.attr (.var 7) 19) 14])]]
@[simp] def p_law_take : List Nat := [35, 22]
noncomputable def b_law_take : List S := [
  .ife (.cmp .Gt (.call 84 [.item (.var 35) (.int 0)]) (.int 0)) [.ret (.bin .Mod (.meth (.item (.var 35) (.int 0)) 59 [.int 0]) (.var 22))] [],
  .asg (.item (.var 35) (.int 1)) (.bin .Mod (.bin .Add (.bin .Mult (.item (.var 35) (.int 1)) (.int 4093)) (.int 12289)) (.int 1000003)),
  .ret (.bin .Mod (.bin .FloorDiv (.item (.var 35) (.int 1)) (.int 8)) (.var 22))]
@[simp] def p_law_put : List Nat := [36, 11, 12, 34]
noncomputable def b_law_put : List S := [
  .for_ (.many [37, 21]) (.call 86 [.item (.var 36) (.str 26)]) [.ife (.cmp .Eq (.item (.var 21) (.int 0)) (.var 11)) [.asg (.item (.item (.var 36) (.str 26)) (.var 37)) (.tup [.var 11, .var 12, .var 34]), .retN] []],
  .ex (.meth (.item (.var 36) (.str 26)) 56 [.tup [.var 11, .var 12, .var 34]])]
@[simp] def p_law_noted : List Nat := [36, 11]
noncomputable def b_law_noted : List S := [
  .asg (.var 38) (.cmp .Eq (.comp (.var 21) (.one 21) (.item (.var 36) (.str 26)) [.cmp .Eq (.item (.var 21) (.int 0)) (.var 11)]) (.list [])),
  .ife (.bop .And [.var 38, .bop .Or [.cmp .GtE (.call 84 [.item (.var 36) (.str 26)]) (.item (.var 36) (.str 22)), .not (.item (.var 36) (.str 54))]]) [.asg (.item (.var 36) (.str 55)) (.bool true)] []]
@[simp] def p_law_left : List Nat := [36, 11]
noncomputable def b_law_left : List S := [
  .asg (.var 39) (.comp (.var 37) (.many [37, 21]) (.call 86 [.item (.var 36) (.str 26)]) [.cmp .Eq (.item (.var 21) (.int 0)) (.var 11)]),
  .ife (.bop .And [.cmp .NotEq (.var 39) (.list []), .not (.bop .And [.item (.var 36) (.str 54), .cmp .Eq (.item (.var 39) (.int 0)) (.bin .Sub (.call 84 [.item (.var 36) (.str 26)]) (.int 1))])]) [.asg (.item (.var 36) (.str 55)) (.bool true)] []]
@[simp] def p_law_step : List Nat := [35, 40, 41]
noncomputable def b_law_step : List S := [
  .asg (.many [37, 42]) (.tup [.call 74 [.var 35, .call 84 [.var 40]], .call 74 [.var 35, .int 10]]),
  .asg (.many [43, 36]) (.tup [.item (.var 40) (.var 37), .item (.var 41) (.var 37)]),
  .asg (.many [11, 12, 34]) (.tup [.item (.list [.str 0, .str 1, .str 2, .str 3, .str 4, .str 5]) (.call 74 [.var 35, .int 6]), .call 74 [.var 35, .int 8], .call 74 [.var 35, .int 9]]),
  .ife (.cmp .Lt (.var 42) (.int 4)) [.ex (.meth (.var 43) 69 [.var 11, .var 12, .var 34]), .ex (.call 76 [.var 36, .var 11]), .ex (.call 75 [.var 36, .var 11, .var 12, .var 34])] [.ife (.cmp .Eq (.var 42) (.int 4)) [.ex (.call 76 [.var 36, .var 11]), .ex (.call 75 [.var 36, .var 11, .int 7, .var 34]), .ex (.meth (.var 43) 69 [.var 11, .int 7, .var 34])] [.ife (.cmp .Eq (.var 42) (.int 5)) [.ex (.meth (.var 43) 71 [.var 11]), .ex (.call 77 [.var 36, .var 11]), .asg (.item (.var 36) (.str 26)) (.comp (.var 21) (.one 21) (.item (.var 36) (.str 26)) [.cmp .NotEq (.item (.var 21) (.int 0)) (.var 11)])] [.ife (.bop .And [.cmp .Eq (.var 42) (.int 6), .cmp .NotEq (.item (.var 36) (.str 26)) (.list [])]) [.ex (.call 77 [.var 36, .item (.item (.item (.var 36) (.str 26)) (.neg 1)) (.int 0)]), .asg (.var 44) (.meth (.item (.var 36) (.str 26)) 59 []), .ex (.meth (.var 43) 71 [.item (.var 44) (.int 0)])] [.ife (.cmp .Eq (.var 42) (.int 7)) [.ex (.meth (.var 43) 72 []), .asg (.item (.var 36) (.str 54)) (.bool false)] [.ife (.cmp .Eq (.var 42) (.int 8)) [.asg (.var 45) (.call 74 [.var 35, .bin .Add (.var 37) (.int 1)]), .ex (.meth (.var 43) 73 [.ife (.cmp .Gt (.var 45) (.int 0)) (.item (.var 40) (.bin .Sub (.var 45) (.int 1))) (.none)]), .asg (.item (.var 36) (.str 45)) (.var 45)] [.ife (.bop .And [.cmp .Eq (.var 42) (.int 9), .cmp .Eq (.var 34) (.int 0)]) [.ex (.meth (.var 43) 68 []), .asg (.item (.var 36) (.str 55)) (.bool true)] []]]]]]]]
@[simp] def p_law_right : List Nat := [40, 41, 46, 22]
noncomputable def b_law_right : List S := [
  .for_ (.many [43, 36]) (.call 87 [.var 40, .var 41]) [.ife (.bop .Or [.cmp .NotEq (.meth (.var 43) 26 []) (.item (.var 36) (.str 26)), .cmp .NotEq (.call 89 [.tup [.meth (.var 43) 66 [], .attr (.var 43) 30]]) (.call 89 [.tup [.item (.var 36) (.str 54), .item (.var 36) (.str 55)]])]) [.ret (.bool false)] [], .asg (.var 45) (.meth (.var 43) 45 []), .ife (.cmp .NotEq (.ife (.cmp .Is (.var 45) (.none)) (.int 0) (.attr (.var 45) 8)) (.ife (.cmp .Eq (.item (.var 36) (.str 45)) (.int 0)) (.int 0) (.attr (.item (.var 40) (.bin .Sub (.item (.var 36) (.str 45)) (.int 1))) 8))) [.ret (.bool false)] [], .for_ (.one 11) (.tup [.str 0, .str 1, .str 2, .str 3, .str 4, .str 5, .str 6]) [.asg (.var 47) (.comp (.tup [.var 12, .var 34]) (.many [48, 12, 34]) (.item (.var 36) (.str 26)) [.cmp .Eq (.var 48) (.var 11)]), .ife (.cmp .NotEq (.meth (.var 43) 67 [.var 11]) (.ife (.cmp .NotEq (.var 47) (.list [])) (.item (.var 47) (.int 0)) (.none))) [.ret (.bool false)] []], .ife (.not (.attr (.var 43) 30)) [.asg (.var 49) (.tup [.comp (.tup [.item (.var 21) (.int 0), .item (.var 21) (.int 1)]) (.one 21) (.item (.var 36) (.str 26)) [], .item (.var 36) (.str 45), .item (.var 36) (.str 54)]), .asg (.var 8) (.attr (.attr (.var 43) 19) 8), .ife (.bop .Or [.cmp .Gt (.call 84 [.item (.var 49) (.int 0)]) (.var 22), .cmp .NotEq (.meth (.attr (.var 43) 19) 26 []) (.item (.var 49) (.int 0)), .cmp .NotEq (.attr (.attr (.var 43) 19) 13) (.call 84 [.item (.var 49) (.int 0)])]) [.ret (.bool false)] [], .ife (.cmp .NotEq (.meth (.var 46) 58 [.var 8, .var 49]) (.var 49)) [.ret (.bool false)] [], .ife (.cmp .NotEq (.comp (.var 50) (.one 50) (.var 46) [.bop .And [.cmp .Eq (.item (.var 46) (.var 50)) (.var 49), .cmp .NotEq (.var 50) (.var 8)]]) (.list [])) [.ret (.bool false)] [], .asg (.item (.var 46) (.var 8)) (.var 49)] []],
  .ret (.bool true)]
@[simp] def p_law : List Nat := [51]
noncomputable def b_law : List S := [
  .asg (.var 35) (.list [.comp (.call 88 [.var 50]) (.one 50) (.cut (.var 51) 48) [], .int 7]),
  .for_ (.one 50) (.cut (.var 51) 48) [.asg (.item (.var 35) (.int 1)) (.bin .Mod (.bin .Add (.bin .Mult (.item (.var 35) (.int 1)) (.int 31)) (.var 50)) (.int 1000003))],
  .asg (.many [22, 52]) (.tup [.bin .Add (.int 2) (.call 74 [.var 35, .int 5]), .bin .Add (.int 2) (.call 74 [.var 35, .int 3])]),
  .asg (.many [27, 40, 41, 46]) (.tup [.call 82 [.var 22], .list [], .list [], .dict [] []]),
  .for_ (.one 37) (.call 85 [.var 52]) [.asg (.var 45) (.call 74 [.var 35, .bin .Add (.var 37) (.int 1)]), .ex (.meth (.var 40) 56 [.call 83 [.var 27, .ife (.cmp .Gt (.var 45) (.int 0)) (.item (.var 40) (.bin .Sub (.var 45) (.int 1))) (.none)]]), .ex (.meth (.var 41) 56 [.dict [26, 45, 54, 55, 22] [.list [], .var 45, .bool true, .bool false, .var 22]])],
  .for_ (.one 53) (.call 85 [.bin .Add (.int 6) (.call 74 [.var 35, .int 7])]) [.ex (.call 78 [.var 35, .var 40, .var 41]), .ife (.not (.call 79 [.var 40, .var 41, .var 46, .var 22])) [.ret (.bool false)] []],
  .ret (.bool true)]

structure FactsR (D : Amb) : Prop where
  a45 : ∀ i ∈ [8, 9, 10, 11, 12, 13, 14, 15, 16, 17], AttrOk D.K 45 i ∧ StoreOk D.K 45 i
  a101 : ∀ i ∈ [22, 23, 24], AttrOk D.K 101 i ∧ StoreOk D.K 101 i
  a190 : ∀ i ∈ [27, 8, 19, 28, 29, 30, 31, 32], AttrOk D.K 190 i ∧ StoreOk D.K 190 i
  g0 : ∀ i ∈ [84, 85, 86, 87, 88, 89], D.mg (nm i) = none
theorem FactsR.rd {D : Amb} (W : FactsR D) : FactsR D.rd := ⟨W.a45, W.a101, W.a190, W.g0⟩
structure Facts (D : Amb) : Prop extends FactsR D where
  ro : D.ro = false
  f28 : Fn D 28 p_Shape_init b_Shape_init
  f35 : Fn D 35 p_Shape_rows b_Shape_rows
  f42 : Fn D 42 p_Shape_place b_Shape_place
  f63 : Fn D 63 p_ShapeTree_init b_ShapeTree_init
  f70 : Fn D 70 p_ShapeTree_next_number b_ShapeTree_next_number
  f77 : Fn D 77 p_ShapeTree_root b_ShapeTree_root
  f84 : Fn D 84 p_ShapeTree_added b_ShapeTree_added
  f91 : Fn D 91 p_ShapeTree_shut b_ShapeTree_shut
  f98 : Fn D 98 p_ShapeTree_built b_ShapeTree_built
  f119 : Fn D 119 p_Store_init b_Store_init
  f126 : Fn D 126 p_Store_above b_Store_above
  f133 : Fn D 133 p_Store_can_grow b_Store_can_grow
  f140 : Fn D 140 p_Store_find b_Store_find
  f145 : Fn D 145 p_Store_rows b_Store_rows
  f152 : Fn D 152 p_Store_go_alone b_Store_go_alone
  f159 : Fn D 159 p_Store_put b_Store_put
  f166 : Fn D 166 p_Store_reflag b_Store_reflag
  f173 : Fn D 173 p_Store_remove b_Store_remove
  f180 : Fn D 180 p_Store_close b_Store_close
  f187 : Fn D 187 p_Store_set_proto b_Store_set_proto
  f201 : Fn D 201 p_law_take b_law_take
  f208 : Fn D 208 p_law_put b_law_put
  f213 : Fn D 213 p_law_noted b_law_noted
  f218 : Fn D 218 p_law_left b_law_left
  f223 : Fn D 223 p_law_step b_law_step
  f228 : Fn D 228 p_law_right b_law_right
  c45 : Cls D 45 28
  c101 : Cls D 101 63
  c190 : Cls D 190 119
  m45 : ∀ p ∈ [(26, 35), (33, 42)], MethOk D.K 45 p.1 p.2
  m101 : ∀ p ∈ [(61, 70), (62, 77), (63, 84), (64, 91), (65, 98)], MethOk D.K 101 p.1 p.2
  m190 : ∀ p ∈ [(45, 126), (66, 133), (67, 140), (26, 145), (68, 152), (69, 159), (70, 166), (71, 173), (72, 180), (73, 187)], MethOk D.K 190 p.1 p.2
  g : ∀ p ∈ [(74, 201), (75, 208), (76, 213), (77, 218), (78, 223), (79, 228), (81, 45), (82, 101), (83, 190)], D.mg (nm p.1) = some (.ref p.2)
  kp : ∀ f ∈ [201, 208, 213, 218, 223, 228, 45, 101, 190], keepIn D.K (.ref f) = true
theorem all1 {P : List Value → Prop} (h : ∀ a, P [a]) (vs : List Value) (e : vs.length = 1) : P vs := by
  obtain ⟨a, rfl⟩ := List.length_eq_one_iff.mp e; exact h a
theorem allS {P : List Value → Prop} {k : Nat} (h : ∀ a (vs : List Value), vs.length = k → P (a :: vs)) (vs : List Value) (e : vs.length = k + 1) : P vs := by
  cases vs with
  | nil => cases e
  | cons a vs => exact h a vs (Nat.succ.inj e)
theorem all2 {P : List Value → Prop} (h : ∀ a b, P [a, b]) : ∀ vs : List Value, vs.length = 2 → P vs := allS fun a => all1 (h a)
theorem all3 {P : List Value → Prop} (h : ∀ a b c, P [a, b, c]) : ∀ vs : List Value, vs.length = 3 → P vs := allS fun a => all2 (h a)
theorem all4 {P : List Value → Prop} (h : ∀ a b c d, P [a, b, c, d]) : ∀ vs : List Value, vs.length = 4 → P vs := allS fun a => all3 (h a)



/-! expressions that only read -/
noncomputable def attrB (C : Addr) (i : Nat) : Bool := if C = 45 then [8, 9, 10, 11, 12, 13, 14, 15, 16, 17].contains i else if C = 101 then [22, 23, 24].contains i else if C = 190 then [27, 8, 19, 28, 29, 30, 31, 32].contains i else false
noncomputable def O.asInst : O → Option (Addr × List (Nat × V))
  | .list _ => none | .sd _ => none | .nd _ => none | .td _ => none | .inst C fs => some (C, fs)
noncomputable def O.asList : O → Option (List V)
  | .list xs => some xs | .sd _ => none | .nd _ => none | .td _ => none | .inst _ _ => none
@[simp] theorem asInst_inst (C : Addr) (fs : List (Nat × V)) : (O.inst C fs).asInst = some (C, fs) := rfl
@[simp] theorem asList_list (xs : List V) : (O.list xs).asList = some xs := rfl
theorem O.asInst_eq {x : O} {z : Addr × List (Nat × V)} (h : x.asInst = some z) : x = .inst z.1 z.2 := by cases x <;> cases h; rfl
theorem O.asList_eq {x : O} {z : List V} (h : x.asList = some z) : x = .list z := by cases x <;> cases h; rfl
noncomputable def hdV (v : V) : V := (v.asTup.bind List.head?).getD .none
noncomputable def ndV (v : V) : V := (v.asTup.bind fun l => l[1]?).getD .none
noncomputable def tlV (v : V) : V := .tup ((v.asTup.getD []).drop 1)
noncomputable def inV (v : V) : V := .tup ((v.asTup.getD []).take 2)
noncomputable def headIs (k : Nat) (v : V) : Bool := (hdV v).asStr.any fun z => decide (z = k)
noncomputable def headNo (k : Nat) (v : V) : Bool := (hdV v).asStr.any fun z => decide (z ≠ k)
noncomputable def one : List V → Option V
  | [] => none | [x] => some x | _ :: _ :: _ => none
noncomputable def two : List V → Option (V × V)
  | [] => none | [_] => none | [x, y] => some (x, y) | _ :: _ :: _ :: _ => none
@[simp] theorem one_one (x : V) : one [x] = some x := rfl
@[simp] theorem two_two (x y : V) : two [x, y] = some (x, y) := rfl
theorem one_eq {l : List V} {x : V} (h : one l = some x) : l = [x] := by
  cases l with
  | nil => cases h
  | cons y l => cases l with
    | nil => cases h; rfl
    | cons z l => cases h
theorem two_eq {l : List V} {p : V × V} (h : two l = some p) : l = [p.1, p.2] := by
  cases l with
  | nil => cases h
  | cons y l => cases l with
    | nil => cases h
    | cons z l => cases l with
      | nil => cases h; rfl
      | cons w l => cases h
noncomputable def attrV (H : AH) (i : Nat) (v : V) : Option V := v.asRef.bind fun a => (H a).bind fun o => o.asInst.bind fun p => if attrB p.1 i = true then dget p.2 i else none
noncomputable def lenV (H : AH) (v : V) : Option V := v.asRef.bind fun a => (H a).bind fun o => o.asList.bind fun xs => if xs.length < 1000000 then some (.int xs.length) else none
noncomputable def reprV (v : V) : Option V := v.asTup.bind fun xs => (two xs).bind fun p => p.1.asBool.bind fun a => p.2.asBool.map fun b => .str (reprId a b)
noncomputable def callV (H : AH) (f : Nat) (vs : List V) : Option V := (one vs).bind fun x => if f = 84 then lenV H x else if f = 88 then x.asInt.map .int else if f = 89 then reprV x else none
noncomputable def getO (o : O) (vs : List V) : Option V := match o with
  | .list _ => none
  | .sd kvs => (one vs).bind fun k => k.asStr.map fun i => (dget kvs i).getD .none
  | .nd kvs => (two vs).bind fun p => p.1.asInt.map fun i => (dget kvs i).getD p.2
  | .td _ => none
  | .inst _ _ => none
noncomputable def getV (H : AH) (x : V) (vs : List V) : Option V := x.asRef.bind fun a => (H a).bind fun o => getO o vs
noncomputable def boolV (o : Option V) : Option Bool := o.bind V.asBool
mutual
noncomputable def evP (H : AH) (ρ : Loc) : X → Option V
  | .var i => ρ i
  | .int z => some (.int z)
  | .str i => some (.str i)
  | .bool b => some (.bool b)
  | .none => some .none
  | .neg z => some (.int (-z))
  | .attr e i => (evP H ρ e).bind (attrV H i)
  | .item e k => (evP H ρ e).bind fun x => (evP H ρ k).bind (itemV H x)
  | .bin op a b => (evP H ρ a).bind fun x => (evP H ρ b).bind (binV op x)
  | .cmp op a b => (evP H ρ a).bind fun x => (evP H ρ b).bind fun y => (cmpV H op x y).map .bool
  | .tup es => (evPs H ρ es).bind fun vs => if vs.length ≤ 1000 then some (.tup vs) else none
  | .ife c a b => (evB H ρ c).bind fun z => if z then evP H ρ a else evP H ρ b
  | .call f es => (evPs H ρ es).bind (callV H f)
  | .meth e m es => if m = 58 then (evP H ρ e).bind fun x => (evPs H ρ es).bind (getV H x) else none
  | .bop op es => match op, es with
    | .And, _ => none
    | .Or, [] => none
    | .Or, [_] => none
    | .Or, [a, b] => (boolV (evP H ρ a)).bind fun c => if c then some (.bool true) else evP H ρ b
    | .Or, _ :: _ :: _ :: _ => none
  | .not _ => none
  | .cut _ _ => none
  | .list _ => none
  | .dict _ _ => none
  | .comp _ _ _ _ => none
noncomputable def evPs (H : AH) (ρ : Loc) : List X → Option (List V)
  | [] => some []
  | x :: xs => (evP H ρ x).bind fun v => (evPs H ρ xs).map (v :: ·)
noncomputable def evB (H : AH) (ρ : Loc) : X → Option Bool
  | .not e => (evB H ρ e).map (! ·)
  | .bop op es => match op with
    | .And => evAnd H ρ es
    | .Or => evOr H ρ es
  | .cmp op a b => (evP H ρ a).bind fun x => (evP H ρ b).bind fun y => cmpV H op x y
  | .var i => boolV (ρ i)
  | .attr e i => boolV ((evP H ρ e).bind (attrV H i))
  | .item e k => boolV ((evP H ρ e).bind fun x => (evP H ρ k).bind (itemV H x))
  | .int _ => none
  | .str _ => none
  | .bool _ => none
  | .none => none
  | .neg _ => none
  | .cut _ _ => none
  | .tup _ => none
  | .list _ => none
  | .dict _ _ => none
  | .bin _ _ _ => none
  | .ife _ _ _ => none
  | .call _ _ => none
  | .meth _ _ _ => none
  | .comp _ _ _ _ => none
noncomputable def evAnd (H : AH) (ρ : Loc) : List X → Option Bool
  | [] => some true
  | x :: xs => (evB H ρ x).bind fun b => if b then evAnd H ρ xs else some false
noncomputable def evOr (H : AH) (ρ : Loc) : List X → Option Bool
  | [] => some false
  | x :: xs => (evB H ρ x).bind fun b => if b then some true else evOr H ρ xs
end

section
variable {D : Amb} {n : Nat} {ρ : Loc} {H : AH}
theorem FactsR.attr (W : FactsR D) {C : Addr} {i : Nat} (h : attrB C i = true) : AttrOk D.K C i ∧ StoreOk D.K C i := by
  unfold attrB at h
  split at h
  · rename_i e; subst e; exact W.a45 i (by simpa using h)
  · split at h
    · rename_i e; subst e; exact W.a101 i (by simpa using h)
    · split at h
      · rename_i e; subst e; exact W.a190 i (by simpa using h)
      · cases h
theorem FactsR.bg (W : FactsR D) {i : Nat} (hi : i ∈ [84, 85, 86, 87, 88, 89]) {v : Value} (hb : bootBuiltins (nm i) = some v) (hn : nm i ≠ "__name__") : Glob D i v := .inr ⟨W.g0 i hi, hb, hn⟩
theorem FactsR.len (W : FactsR D) : Glob D 84 (.builtin "len") := W.bg (by simp) (by decide +kernel) (by decide +kernel)
theorem FactsR.range (W : FactsR D) : Glob D 85 (.type "range") := W.bg (by simp) (by decide +kernel) (by decide +kernel)
theorem FactsR.enum (W : FactsR D) : Glob D 86 (.type "enumerate") := W.bg (by simp) (by decide +kernel) (by decide +kernel)
theorem FactsR.zip (W : FactsR D) : Glob D 87 (.type "zip") := W.bg (by simp) (by decide +kernel) (by decide +kernel)
theorem FactsR.int (W : FactsR D) : Glob D 88 (.type "int") := W.bg (by simp) (by decide +kernel) (by decide +kernel)
theorem FactsR.repr (W : FactsR D) : Glob D 89 (.builtin "repr") := W.bg (by simp) (by decide +kernel) (by decide +kernel)

theorem attrV_ok (W : FactsR D) {e : X} {i : Nat} {x v : V} {Q : V → AH → Prop} (h : WE D n e ρ H fun u H' => u = x ∧ H' = H) (hv : attrV H i x = some v) (q : Q v H) : WE D n (.attr e i) ρ H Q := by
  refine we_attr (h.mono fun u H' hu => ?_)
  obtain ⟨rfl, rfl⟩ := hu
  obtain ⟨a, e1, h1⟩ := bsome hv
  obtain ⟨o, hH, h2⟩ := bsome h1
  obtain ⟨p, e2, h3⟩ := bsome h2
  rw [O.asInst_eq e2] at hH
  by_cases hb : attrB p.1 i = true
  · rw [if_pos hb] at h3
    exact ⟨a, p.1, p.2, v, V.asRef_eq e1, hH, (W.attr hb).1, h3, q⟩
  · rw [if_neg hb] at h3; cases h3
theorem callV_ok (W : FactsR D) {f : Nat} {es : List X} {vs : List V} {v : V} {Q : V → AH → Prop} (h : WEs D n es ρ H fun us H' => us = vs ∧ H' = H) (hv : callV H f vs = some v) (q : Q v H) : WE D n (.call f es) ρ H Q := by
  have hm : ∀ {P : List V → AH → Prop}, P vs H → WEs D n es ρ H P := fun {P} p e env A τ δ s pos t r S R => wpAny_mono (h e env A τ δ s pos t r S R) (fun v s' ⟨x, H', δ', a, b, c, d1, d2⟩ => ⟨x, H', δ', a, b, c, by rw [d1, d2]; exact p⟩) fun _ _ z => z
  obtain ⟨x, e1, h1⟩ := bsome hv
  cases one_eq e1
  by_cases f1 : f = 84
  · rw [if_pos f1] at h1
    subst f1
    obtain ⟨a, e2, h2⟩ := bsome h1
    obtain ⟨o, hH, h3⟩ := bsome h2
    obtain ⟨xs, e3, h4⟩ := bsome h3
    obtain ⟨hl, rfl⟩ := isome h4
    rw [O.asList_eq e3] at hH
    cases V.asRef_eq e2
    exact we_call _ W.len (.inl ⟨_, rfl⟩) (hm (wc_len hH hl q))
  rw [if_neg f1] at h1
  by_cases f2 : f = 88
  · rw [if_pos f2] at h1
    subst f2
    obtain ⟨z, e2, rfl⟩ := msome h1
    cases V.asInt_eq e2
    exact we_call _ W.int (.inr (.inl ⟨_, rfl⟩)) (hm (wc_int q))
  rw [if_neg f2] at h1
  by_cases f3 : f = 89
  · rw [if_pos f3] at h1
    subst f3
    obtain ⟨xs, e2, h2⟩ := bsome h1
    obtain ⟨p, e3, h3⟩ := bsome h2
    obtain ⟨a, e4, h4⟩ := bsome h3
    obtain ⟨b, e5, rfl⟩ := msome h4
    cases V.asTup_eq e2
    cases two_eq e3
    rw [V.asBool_eq e4, V.asBool_eq e5] at hm
    exact we_call _ W.repr (.inl ⟨_, rfl⟩) (hm (wc_repr q))
  · rw [if_neg f3] at h1; cases h1
mutual
theorem evP_ok (W : FactsR D) : ∀ (x : X) {v : V}, evP H ρ x = some v → ∀ {Q : V → AH → Prop}, Q v H → WE D n x ρ H Q
  | .var i, v, h, Q, q => we_var h q
  | .int z, v, h, Q, q => by cases h; exact we_int q
  | .str z, v, h, Q, q => by cases h; exact we_str q
  | .bool z, v, h, Q, q => by cases h; exact we_bool q
  | .none, v, h, Q, q => by cases h; exact we_none q
  | .neg z, v, h, Q, q => by cases h; exact we_neg q
  | .attr e i, v, h, Q, q => by
    obtain ⟨x, h1, h2⟩ := bsome h
    exact attrV_ok W (evP_ok W e h1 ⟨rfl, rfl⟩) h2 q
  | .item e k, v, h, Q, q => by
    obtain ⟨x, h1, h2⟩ := bsome h
    obtain ⟨y, h3, h4⟩ := bsome h2
    exact we_item (evP_ok W e h1 (evP_ok W k h3 ⟨v, h4, q⟩))
  | .bin op a b, v, h, Q, q => by
    obtain ⟨x, h1, h2⟩ := bsome h
    obtain ⟨y, h3, h4⟩ := bsome h2
    exact we_bin (evP_ok W a h1 (evP_ok W b h3 ⟨v, h4, q⟩))
  | .cmp op a b, v, h, Q, q => by
    obtain ⟨x, h1, h2⟩ := bsome h
    obtain ⟨y, h3, h4⟩ := bsome h2
    obtain ⟨z, h5, rfl⟩ := msome h4
    exact we_cmp (evP_ok W a h1 (evP_ok W b h3 ⟨z, h5, q⟩))
  | .tup es, v, h, Q, q => by
    obtain ⟨vs, h1, h2⟩ := bsome h
    obtain ⟨hl, rfl⟩ := isome h2
    exact we_tup (evPs_ok W es h1 ⟨hl, q⟩)
  | .ife c a b, v, h, Q, q => by
    obtain ⟨z, h1, h2⟩ := bsome h
    refine we_ife (evB_ok W c h1 ?_)
    cases z with
    | true => exact evP_ok W a h2 q
    | false => exact evP_ok W b h2 q
  | .call f es, v, h, Q, q => by
    obtain ⟨vs, h1, h2⟩ := bsome h
    exact callV_ok W (evPs_ok W es h1 ⟨rfl, rfl⟩) h2 q
  | .meth e m es, v, h, Q, q => by
    by_cases hm : m = 58
    · have h' := (if_pos hm).symm.trans h
      subst hm
      obtain ⟨x, h1, h2⟩ := bsome h'
      obtain ⟨vs, h3, h4⟩ := bsome h2
      obtain ⟨a, e1, h5⟩ := bsome h4
      obtain ⟨o, hH, h6⟩ := bsome h5
      cases V.asRef_eq e1
      cases o with
      | list _ => cases h6
      | td _ => cases h6
      | inst _ _ => cases h6
      | sd kvs =>
        obtain ⟨k, e2, h7⟩ := bsome h6
        obtain ⟨i, e3, rfl⟩ := msome h7
        exact we_get1 (evP_ok W e h1 ⟨a, kvs, rfl, hH, evPs_ok W es h3 ⟨i, kvs, by rw [one_eq e2, V.asStr_eq e3], hH, q⟩⟩)
      | nd kvs =>
        obtain ⟨k, e2, h7⟩ := bsome h6
        obtain ⟨i, e3, rfl⟩ := msome h7
        exact we_get2n (evP_ok W e h1 ⟨a, kvs, rfl, hH, evPs_ok W es h3 ⟨i, k.2, kvs, by rw [two_eq e2, V.asInt_eq e3], hH, q⟩⟩)
    · have h' := (if_neg hm).symm.trans h
      cases h'
  | .bop .And es, v, h, Q, q => by cases h
  | .bop .Or [], v, h, Q, q => by cases h
  | .bop .Or [a], v, h, Q, q => by cases h
  | .bop .Or (a :: b :: c :: r), v, h, Q, q => by cases h
  | .bop .Or [a, b], v, h, Q, q => by
    obtain ⟨c, h1, h2⟩ := bsome h
    obtain ⟨w, h3, h4⟩ := bsome h1
    refine we_or2 (evP_ok W a h3 ⟨c, V.asBool_eq h4, ?_⟩)
    cases c with
    | true => cases h2; exact q
    | false => exact evP_ok W b h2 q
  | .not e, v, h, Q, q => by cases h
  | .cut e z, v, h, Q, q => by cases h
  | .list es, v, h, Q, q => by cases h
  | .dict ks es, v, h, Q, q => by cases h
  | .comp _ _ _ _, v, h, Q, q => by cases h
theorem evPs_ok (W : FactsR D) : ∀ (xs : List X) {vs : List V}, evPs H ρ xs = some vs → ∀ {Q : List V → AH → Prop}, Q vs H → WEs D n xs ρ H Q
  | [], vs, h, Q, q => by cases h; exact wes_nil q
  | x :: xs, vs, h, Q, q => by
    obtain ⟨v, h1, h2⟩ := bsome h
    obtain ⟨ws, h3, rfl⟩ := msome h2
    exact wes_cons (evP_ok W x h1 (evPs_ok W xs h3 q))
theorem evB_ok (W : FactsR D) : ∀ (x : X) {b : Bool}, evB H ρ x = some b → ∀ {Q : Bool → AH → Prop}, Q b H → WB D n x ρ H Q
  | .not e, b, h, Q, q => by
    obtain ⟨z, h1, rfl⟩ := msome h
    exact wb_not (evB_ok W e h1 q)
  | .bop .And es, b, h, Q, q => evAnd_ok W es h q
  | .bop .Or es, b, h, Q, q => evOr_ok W es h q
  | .cmp op x y, b, h, Q, q => by
    obtain ⟨v, h1, h2⟩ := bsome h
    obtain ⟨w, h3, h4⟩ := bsome h2
    exact wb_cmp (evP_ok W x h1 (evP_ok W y h3 ⟨b, h4, q⟩))
  | .var i, b, h, Q, q => by
    obtain ⟨w, h3, h4⟩ := bsome h
    exact wb_of (x := .var i) trivial (we_var h3 ⟨_, V.asBool_eq h4, q⟩)
  | .attr e i, b, h, Q, q => by
    obtain ⟨w, h3, h4⟩ := bsome h
    obtain ⟨x, h1, h2⟩ := bsome h3
    exact wb_of (x := .attr e i) trivial (attrV_ok W (evP_ok W e h1 ⟨rfl, rfl⟩) h2 ⟨_, V.asBool_eq h4, q⟩)
  | .item e k, b, h, Q, q => by
    obtain ⟨w, h5, h6⟩ := bsome h
    obtain ⟨x, h1, h2⟩ := bsome h5
    obtain ⟨y, h3, h4⟩ := bsome h2
    exact wb_of (x := .item e k) trivial (we_item (evP_ok W e h1 (evP_ok W k h3 ⟨_, h4, _, V.asBool_eq h6, q⟩)))
  | .int _, b, h, Q, q => by cases h
  | .str _, b, h, Q, q => by cases h
  | .bool _, b, h, Q, q => by cases h
  | .none, b, h, Q, q => by cases h
  | .neg _, b, h, Q, q => by cases h
  | .cut _ _, b, h, Q, q => by cases h
  | .tup _, b, h, Q, q => by cases h
  | .list _, b, h, Q, q => by cases h
  | .dict _ _, b, h, Q, q => by cases h
  | .bin _ _ _, b, h, Q, q => by cases h
  | .ife _ _ _, b, h, Q, q => by cases h
  | .call _ _, b, h, Q, q => by cases h
  | .meth _ _ _, b, h, Q, q => by cases h
  | .comp _ _ _ _, b, h, Q, q => by cases h
theorem evAnd_ok (W : FactsR D) : ∀ (xs : List X) {b : Bool}, evAnd H ρ xs = some b → ∀ {Q : Bool → AH → Prop}, Q b H → WB D n (.bop .And xs) ρ H Q
  | [], b, h, Q, q => by cases h; exact wb_and_nil q
  | x :: xs, b, h, Q, q => by
    obtain ⟨z, h1, h2⟩ := bsome h
    refine wb_and (evB_ok W x h1 ?_)
    cases z with
    | true => exact evAnd_ok W xs h2 q
    | false => cases h2; exact q
theorem evOr_ok (W : FactsR D) : ∀ (xs : List X) {b : Bool}, evOr H ρ xs = some b → ∀ {Q : Bool → AH → Prop}, Q b H → WB D n (.bop .Or xs) ρ H Q
  | [], b, h, Q, q => by cases h; exact wb_or_nil q
  | x :: xs, b, h, Q, q => by
    obtain ⟨z, h1, h2⟩ := bsome h
    refine wb_or (evB_ok W x h1 ?_)
    cases z with
    | true => cases h2; exact q
    | false => exact evOr_ok W xs h2 q
end
end




noncomputable def methB (C : Addr) (m : Nat) : Option Addr := if C = 45 then dget [(26, 35), (33, 42)] m
  else if C = 101 then dget [(61, 70), (62, 77), (63, 84), (64, 91), (65, 98)] m
  else if C = 190 then dget [(45, 126), (66, 133), (67, 140), (26, 145), (68, 152), (69, 159), (70, 166), (71, 173), (72, 180), (73, 187)] m else none
noncomputable def globB (i : Nat) : Option Addr := dget [(74, 201), (75, 208), (76, 213), (77, 218), (78, 223), (79, 228), (81, 45), (82, 101), (83, 190)] i
theorem dget_mem {K α : Type} [DecidableEq K] {kvs : List (K × α)} {k : K} {v : α} (h : dget kvs k = some v) : (k, v) ∈ kvs := by
  unfold dget at h
  obtain ⟨x, hx, rfl⟩ := Option.map_eq_some_iff.mp h
  have e1 := List.find?_some hx
  have e : x.1 = k := by simpa using e1
  rw [← e]
  exact List.mem_of_find?_eq_some hx

section
variable {D : Amb} {n : Nat} {ρ : Loc} {H : AH}
theorem Facts.meth (W : Facts D) {C f : Addr} {m : Nat} (h : methB C m = some f) : MethOk D.K C m f := by
  unfold methB at h
  by_cases e : C = 45
  · subst e; rw [if_pos rfl] at h; exact W.m45 _ (dget_mem h)
  rw [if_neg e] at h
  by_cases e : C = 101
  · subst e; rw [if_pos rfl] at h; exact W.m101 _ (dget_mem h)
  rw [if_neg e] at h
  by_cases e : C = 190
  · subst e; rw [if_pos rfl] at h; exact W.m190 _ (dget_mem h)
  rw [if_neg e] at h
  cases h
theorem Facts.glob (W : Facts D) {i : Nat} {f : Addr} (h : globB i = some f) : Glob D i (.ref f) ∧ Callable D (.ref f) :=
  ⟨.inl (W.g _ (dget_mem h)), .inr (.inr (W.kp f (List.mem_map_of_mem (f := Prod.snd) (dget_mem h))))⟩

theorem we_m (W : Facts D) {e : X} {m : Nat} {es : List X} {Q : V → AH → Prop} {a C f : Addr} {fs : List (Nat × V)} (h1 : evP H ρ e = some (.ref a)) (h2 : H a = some (.inst C fs)) (h3 : methB C m = some f) (h4 : dget fs m = none)
    (h5 : WEs D n es ρ H fun vs H' => WK D n f (.ref a :: vs) H' Q) : WE D n (.meth e m es) ρ H Q :=
  we_meth (evP_ok W.toFactsR e h1 ⟨a, C, fs, f, rfl, h2, W.meth h3, h4, fun es env A τ δ s pos t r S R => wpAny_mono (h5 es env A τ δ s pos t r S R) (fun v s' ⟨x, H', δ', a, b, c, d⟩ => ⟨x, H', δ', a, b, c, wc_of d⟩) fun _ _ z => z⟩)
theorem we_c (W : Facts D) {i : Nat} {es : List X} {Q : V → AH → Prop} {f : Addr} (h1 : globB i = some f) (h5 : WEs D n es ρ H fun vs H' => WK D n f vs H' Q) : WE D n (.call i es) ρ H Q :=
  we_call (.ref f) (W.glob h1).1 (W.glob h1).2 fun es env A τ δ s pos t r S R => wpAny_mono (h5 es env A τ δ s pos t r S R) (fun v s' ⟨x, H', δ', a, b, c, d⟩ => ⟨x, H', δ', a, b, c, wc_of d⟩) fun _ _ z => z
theorem wes_p (W : Facts D) {xs : List X} {vs : List V} {Q : List V → AH → Prop} (h : evPs H ρ xs = some vs) (q : Q vs H) : WEs D n xs ρ H Q := evPs_ok W.toFactsR xs h q
theorem we_p (W : Facts D) {x : X} {v : V} {Q : V → AH → Prop} (h : evP H ρ x = some v) (q : Q v H) : WE D n x ρ H Q := evP_ok W.toFactsR x h q
theorem wb_p (W : Facts D) {x : X} {b : Bool} {Q : Bool → AH → Prop} (h : evB H ρ x = some b) (q : Q b H) : WB D n x ρ H Q := evB_ok W.toFactsR x h q

/-! statements by pure parts -/
theorem s_var (W : Facts D) {i : Nat} {x : X} {xs : List S} {v : V} {Q : Fl → Loc → AH → Prop} (hc : x.isComp = false) (h : evP H ρ x = some v) (q : WS D n xs (lset ρ i v) H Q) : WS D n (.asg (.var i) x :: xs) ρ H Q :=
  ws_cons (w1_asg hc (we_p W h (wa_var q)))
theorem s_varE {i : Nat} {x : X} {xs : List S} {Q : Fl → Loc → AH → Prop} (hc : x.isComp = false) (h : WE D n x ρ H fun v H' => WS D n xs (lset ρ i v) H' Q) : WS D n (.asg (.var i) x :: xs) ρ H Q :=
  ws_cons (w1_asg hc (h.mono fun v H' q => wa_var q))
inductive AtP (D : Amb) (n : Nat) (e : X) (i : Nat) (xs : List S) (ρ : Loc) (Q : Fl → Loc → AH → Prop) (v : V) (H' : AH) : Prop
  | mk (a C : Addr) (fs : List (Nat × V)) : evP H' ρ e = some (.ref a) → H' a = some (.inst C fs) → attrB C i = true → fs.length ≤ 500 → WS D n xs ρ (upd H' a (.inst C (fput fs i v))) Q → AtP D n e i xs ρ Q v H'
theorem s_attrE (W : Facts D) {e : X} {i : Nat} {x : X} {xs : List S} {Q : Fl → Loc → AH → Prop} (h : WE D n x ρ H (AtP D n e i xs ρ Q)) :
    WS D n (.asg (.attr e i) x :: xs) ρ H Q :=
  ws_cons (w1_asg trivial (h.mono fun v H' ⟨a, C, fs, h1, h2, h3, h4, q⟩ => wa_attr W.ro (we_p W h1 ⟨a, C, fs, rfl, h2, (W.attr h3).2, h4, q⟩)))
theorem s_attr (W : Facts D) {e : X} {i : Nat} {x : X} {xs : List S} {v : V} {Q : Fl → Loc → AH → Prop} {a C : Addr} {fs : List (Nat × V)} (h : evP H ρ x = some v) (h1 : evP H ρ e = some (.ref a)) (h2 : H a = some (.inst C fs)) (h3 : attrB C i = true) (h4 : fs.length ≤ 500)
    (q : WS D n xs ρ (upd H a (.inst C (fput fs i v))) Q) : WS D n (.asg (.attr e i) x :: xs) ρ H Q := s_attrE W (we_p W h ⟨a, C, fs, h1, h2, h3, h4, q⟩)
theorem s_attrU (W : Facts D) {e : X} {i : Nat} {x : X} {xs : List S} {v : V} {Q : Fl → Loc → AH → Prop} {a C : Addr} {fs : List (Nat × V)} (h : evP (upd H a (.inst C fs)) ρ x = some v) (h1 : evP (upd H a (.inst C fs)) ρ e = some (.ref a)) (h3 : attrB C i = true) (h4 : fs.length ≤ 500)
    (q : WS D n xs ρ (upd H a (.inst C (fput fs i v))) Q) : WS D n (.asg (.attr e i) x :: xs) ρ (upd H a (.inst C fs)) Q := s_attr W h h1 (upd_self _ _ _) h3 h4 (by rw [upd_upd]; exact q)
inductive ItP (D : Amb) (n : Nat) (e k : X) (xs : List S) (ρ : Loc) (Q : Fl → Loc → AH → Prop) (v : V) (H' : AH) : Prop
  | mk (y z : V) (a : Addr) (o : O) : evP H' ρ e = some y → evP H' ρ k = some z → putV H' y z v = some (a, o) → WS D n xs ρ (upd H' a o) Q → ItP D n e k xs ρ Q v H'
theorem s_itemE (W : Facts D) {e k : X} {x : X} {xs : List S} {Q : Fl → Loc → AH → Prop} (h : WE D n x ρ H (ItP D n e k xs ρ Q)) :
    WS D n (.asg (.item e k) x :: xs) ρ H Q :=
  ws_cons (w1_asg trivial (h.mono fun v H' ⟨y, z, a, o, h1, h2, h3, q⟩ => wa_item W.ro (we_p W h1 (we_p W h2 ⟨a, o, h3, q⟩))))
noncomputable def Then (D : Amb) (n : Nat) (xs : List S) (Q : Fl → Loc → AH → Prop) : Fl → Loc → AH → Prop := fun f ρ' H' => match f with
  | .nxt => WS D n xs ρ' H' Q
  | f => Q f ρ' H'
theorem s_end {xs : List S} {Q : Fl → Loc → AH → Prop} (q : WS D n xs ρ H Q) : WS D n [] ρ H (Then D n xs Q) := ws_nil q
theorem s_if (W : Facts D) {c : X} {a b xs : List S} {z : Bool} {Q : Fl → Loc → AH → Prop} (h : evB H ρ c = some z) (q : WS D n (if z then a else b) ρ H (Then D n xs Q)) : WS D n (.ife c a b :: xs) ρ H Q :=
  ws_cons (w1_if (wb_p W h (by cases z <;> exact q)))
theorem s_ifE {c : X} {a b xs : List S} {Q : Fl → Loc → AH → Prop} (h : WB D n c ρ H fun z H' => WS D n (if z then a else b) ρ H' (Then D n xs Q)) : WS D n (.ife c a b :: xs) ρ H Q :=
  ws_cons (w1_if (fun e env A τ δ s t r S R => wpAny_mono (h e env A τ δ s t r S R) (fun v s' ⟨H', δ', a, b, d⟩ => ⟨H', δ', a, b, by cases v <;> exact d⟩) fun _ _ z => z))
theorem s_ret (W : Facts D) {x : X} {xs : List S} {v : V} {Q : Fl → Loc → AH → Prop} (h : evP H ρ x = some v) (q : Q (.ret v) ρ H) : WS D n (.ret x :: xs) ρ H Q := ws_cons (w1_ret (we_p W h q))
theorem s_retE {x : X} {xs : List S} {Q : Fl → Loc → AH → Prop} (h : WE D n x ρ H fun v H' => Q (.ret v) ρ H') : WS D n (.ret x :: xs) ρ H Q := ws_cons (w1_ret h)
theorem s_exE {x : X} {xs : List S} {Q : Fl → Loc → AH → Prop} (h : WE D n x ρ H fun _ H' => WS D n xs ρ H' Q) : WS D n (.ex x :: xs) ρ H Q := ws_cons (w1_ex h)
end
@[simp] theorem dget_nil {K α : Type} [DecidableEq K] (k : K) : dget ([] : List (K × α)) k = none := rfl
@[simp] theorem dget_cons {K α : Type} [DecidableEq K] (k' : K) (x : α) (r : List (K × α)) (k : K) : dget ((k', x) :: r) k = if k' = k then some x else dget r k := by
  unfold dget
  rw [List.find?_cons]
  by_cases e : k' = k <;> simp [e]
theorem upd_app (H : AH) (a : Addr) (o : O) (b : Addr) : upd H a o b = if b = a then some o else H b := rfl
theorem lset_app (ρ : Loc) (i : Nat) (v : V) (j : Nat) : lset ρ i v j = if j = i then some v else ρ j := rfl

theorem upd3 (H : AH) (c l : Addr) (o o' o'' : O) : upd (upd (upd H c o) l o') c o'' = upd (upd H l o') c o'' := by
  funext b
  simp only [upd]
  by_cases h : b = c <;> simp [h]
section
variable {H : AH} {ρ : Loc}
theorem len_ok {a b : Nat} (h : Nat.ble a b = true) : a ≤ b := Nat.le_of_ble_eq_true h
theorem upd_miss {a b : Addr} {o : O} {r : Option O} (h : b ≠ a) (h' : H b = r) : upd H a o b = r := (upd_ne h).trans h'
theorem lset_miss {i j : Nat} {v : V} {r : Option V} (h : Nat.beq j i = false) (h' : ρ j = r) : lset ρ i v j = r := (lset_ne (Nat.ne_of_beq_eq_false h)).trans h'
theorem lsets_c {i j : Nat} {is : List Nat} {v : V} {vs : List V} {r : Option V} (h : lsets (lset ρ i v) is vs j = r) : lsets ρ (i :: is) (v :: vs) j = r := h
theorem lsets_n {j : Nat} {r : Option V} (h : ρ j = r) : lsets ρ [] [] j = r := h
theorem bind_of {α β : Type} {o : Option α} {f : α → Option β} {x : α} {z : Option β} (h : o = some x) (h' : f x = z) : o.bind f = z := by rw [h]; exact h'
theorem map_of {α β : Type} {o : Option α} {f : α → β} {x : α} {z : β} (h : o = some x) (h' : f x = z) : o.map f = some z := by rw [h, ← h']; rfl
theorem e_var {i : Nat} {v : V} (h : ρ i = some v) : evP H ρ (.var i) = some v := h
theorem e_int {z : Int} : evP H ρ (.int z) = some (.int z) := rfl
theorem e_str {z : Nat} : evP H ρ (.str z) = some (.str z) := rfl
theorem e_bool {z : Bool} : evP H ρ (.bool z) = some (.bool z) := rfl
theorem e_none : evP H ρ .none = some .none := rfl
theorem e_neg {z : Int} : evP H ρ (.neg z) = some (.int (-z)) := rfl
theorem attr_at {i : Nat} {a C : Addr} {fs : List (Nat × V)} {v : V} (h2 : H a = some (.inst C fs)) (h3 : attrB C i = true) (h4 : dget fs i = some v) : attrV H i (.ref a) = some v :=
  bind_of (o := H a) h2 ((if_pos h3).trans h4)
theorem e_attr {e : X} {i : Nat} {a C : Addr} {fs : List (Nat × V)} {v : V} (h1 : evP H ρ e = some (.ref a)) (h2 : H a = some (.inst C fs)) (h3 : attrB C i = true) (h4 : dget fs i = some v) : evP H ρ (.attr e i) = some v :=
  bind_of h1 (attr_at h2 h3 h4)
theorem e_item {e k : X} {x y v : V} (h1 : evP H ρ e = some x) (h2 : evP H ρ k = some y) (h3 : itemV H x y = some v) : evP H ρ (.item e k) = some v :=
  bind_of h1 (bind_of h2 h3)
theorem i_tup {xs : List V} {z : Int} {v : V} (h : sget xs z = some v) : itemV H (.tup xs) (.int z) = some v := h
theorem i_list {a : Addr} {xs : List V} {z : Int} {v : V} (h : H a = some (.list xs)) (h' : sget xs z = some v) : itemV H (.ref a) (.int z) = some v := bind_of (o := H a) h h'
theorem i_nd {a : Addr} {kvs : List (Int × V)} {z : Int} {v : V} (h : H a = some (.nd kvs)) (h' : dget kvs z = some v) : itemV H (.ref a) (.int z) = some v := bind_of (o := H a) h h'
theorem i_sd {a : Addr} {kvs : List (Nat × V)} {z : Nat} {v : V} (h : H a = some (.sd kvs)) (h' : dget kvs z = some v) : itemV H (.ref a) (.str z) = some v := bind_of (o := H a) h h'
theorem i_td {a : Addr} {kvs : List (List KA × V)} {ks : List V} {k : List KA} {v : V} (h : H a = some (.td kvs)) (hk : kaOf ks = some k) (h' : dget kvs k = some v) : itemV H (.ref a) (.tup ks) = some v := bind_of (o := H a) h (bind_of (o := kaOf ks) hk h')
theorem e_bin {op : Operator} {a b : X} {x y v : V} (h1 : evP H ρ a = some x) (h2 : evP H ρ b = some y) (h3 : binV op x y = some v) : evP H ρ (.bin op a b) = some v :=
  bind_of h1 (bind_of h2 h3)
theorem i_mod {a b : Int} (h : 0 < b) : binV .Mod (.int a) (.int b) = some (.int (a % b)) := if_pos h
theorem i_div {a b : Int} (h : 0 < b ∧ b < 1000000) : binV .FloorDiv (.int a) (.int b) = some (.int (a / b)) := if_pos h
theorem i_mul {a b : Int} (h : Builtin.Int.intBits b ≤ 64) : binV .Mult (.int a) (.int b) = some (.int (a * b)) := if_pos h
theorem nd_self {α : Type} [DecidableEq α] (a : α) : some (!decide (a = a)) = some false := congrArg (fun z => some (!z)) (decide_eq_true rfl)
theorem e_tup {es : List X} {vs : List V} (h : evPs H ρ es = some vs) (hl : Nat.ble vs.length 1000 = true) : evP H ρ (.tup es) = some (.tup vs) :=
  bind_of h (if_pos (len_ok hl))
theorem e_ifT {c a b : X} {v : V} (h1 : evB H ρ c = some true) (h2 : evP H ρ a = some v) : evP H ρ (.ife c a b) = some v :=
  bind_of h1 h2
theorem e_ifF {c a b : X} {v : V} (h1 : evB H ρ c = some false) (h2 : evP H ρ b = some v) : evP H ρ (.ife c a b) = some v :=
  bind_of h1 h2
theorem e_len {es : List X} {a : Addr} {xs : List V} (h1 : evPs H ρ es = some [.ref a]) (h2 : H a = some (.list xs)) (h3 : xs.length < 1000000) : evP H ρ (.call 84 es) = some (.int xs.length) :=
  bind_of h1 (bind_of (o := H a) h2 (if_pos h3))
theorem e_cmp {op : CmpOp} {a b : X} {x y : V} {z : Bool} (h1 : evP H ρ a = some x) (h2 : evP H ρ b = some y) (h3 : cmpV H op x y = some z) : evP H ρ (.cmp op a b) = some (.bool z) :=
  bind_of h1 (bind_of h2 (map_of h3 rfl))
theorem e_orT {a b : X} (h1 : evP H ρ a = some (.bool true)) : evP H ρ (.bop .Or [a, b]) = some (.bool true) :=
  bind_of (o := boolV (evP H ρ a)) (bind_of h1 rfl) rfl
theorem e_orF {a b : X} {v : V} (h1 : evP H ρ a = some (.bool false)) (h2 : evP H ρ b = some v) : evP H ρ (.bop .Or [a, b]) = some v :=
  bind_of (o := boolV (evP H ρ a)) (bind_of h1 rfl) h2
theorem b_and {es : List X} {z : Bool} (h : evAnd H ρ es = some z) : evB H ρ (.bop .And es) = some z := h
theorem b_or {es : List X} {z : Bool} (h : evOr H ρ es = some z) : evB H ρ (.bop .Or es) = some z := h
theorem and_nil : evAnd H ρ [] = some true := rfl
theorem and_T {x : X} {xs : List X} {z : Bool} (h : evB H ρ x = some true) (h' : evAnd H ρ xs = some z) : evAnd H ρ (x :: xs) = some z := bind_of h h'
theorem and_F {x : X} {xs : List X} (h : evB H ρ x = some false) : evAnd H ρ (x :: xs) = some false := bind_of h rfl
theorem or_nil : evOr H ρ [] = some false := rfl
theorem or_F {x : X} {xs : List X} {z : Bool} (h : evB H ρ x = some false) (h' : evOr H ρ xs = some z) : evOr H ρ (x :: xs) = some z := bind_of h h'
theorem or_T {x : X} {xs : List X} (h : evB H ρ x = some true) : evOr H ρ (x :: xs) = some true := bind_of h rfl
theorem b_and1 {a : X} {x : Bool} (h : evB H ρ a = some x) : evB H ρ (.bop .And [a]) = some x := bind_of h (by cases x <;> rfl)
theorem b_and2 {a b : X} {x y : Bool} (h1 : evB H ρ a = some x) (h2 : evB H ρ b = some y) : evB H ρ (.bop .And [a, b]) = some (x && y) :=
  bind_of h1 (by
    cases x with
    | false => rfl
    | true => exact bind_of h2 (by cases y <;> rfl))
theorem b_or2 {a b : X} {x y : Bool} (h1 : evB H ρ a = some x) (h2 : evB H ρ b = some y) : evB H ρ (.bop .Or [a, b]) = some (x || y) :=
  bind_of h1 (by
    cases x with
    | false => exact bind_of h2 (by cases y <;> rfl)
    | true => rfl)
theorem sget_nat {xs : List V} {i : Nat} {v : V} (h : xs[i]? = some v) (hi : i < 1000000) : sget xs (i : Int) = some v := by
  unfold sget
  rw [if_neg (by omega), if_pos (by omega), Int.toNat_natCast, h]
theorem es_nil : evPs H ρ [] = some [] := rfl
theorem es_cons {x : X} {xs : List X} {v : V} {vs : List V} (h1 : evP H ρ x = some v) (h2 : evPs H ρ xs = some vs) : evPs H ρ (x :: xs) = some (v :: vs) := bind_of h1 (map_of h2 rfl)
theorem e_get1 {e x : X} {a : Addr} {kvs : List (Nat × V)} {i : Nat} {v : V} (h1 : evP H ρ e = some (.ref a)) (h2 : evP H ρ x = some (.str i)) (h3 : H a = some (.sd kvs)) (h4 : (dget kvs i).getD .none = v) : evP H ρ (.meth e 58 [x]) = some v :=
  bind_of h1 (bind_of (es_cons h2 es_nil) (bind_of (o := H a) h3 (congrArg some h4)))
theorem e_get2 {e x y : X} {a : Addr} {kvs : List (Int × V)} {i : Int} {d v : V} (h1 : evP H ρ e = some (.ref a)) (h2 : evP H ρ x = some (.int i)) (h2' : evP H ρ y = some d) (h3 : H a = some (.nd kvs)) (h4 : (dget kvs i).getD d = v) : evP H ρ (.meth e 58 [x, y]) = some v :=
  bind_of h1 (bind_of (es_cons h2 (es_cons h2' es_nil)) (bind_of (o := H a) h3 (congrArg some h4)))
theorem b_not {c : X} {z z' : Bool} (h : evB H ρ c = some z) (hz : (!z) = z') : evB H ρ (.not c) = some z' := map_of h hz
theorem b_cmp {op : CmpOp} {a b : X} {x y : V} {z : Bool} (h1 : evP H ρ a = some x) (h2 : evP H ρ b = some y) (h3 : cmpV H op x y = some z) : evB H ρ (.cmp op a b) = some z := bind_of h1 (bind_of h2 h3)
theorem b_var {i : Nat} {z : Bool} (h : ρ i = some (.bool z)) : evB H ρ (.var i) = some z := bind_of (o := ρ i) h rfl
theorem b_attr {e : X} {i : Nat} {z : Bool} (h : evP H ρ (.attr e i) = some (.bool z)) : evB H ρ (.attr e i) = some z := bind_of (o := evP H ρ (.attr e i)) h rfl
theorem b_item {e k : X} {z : Bool} (h : evP H ρ (.item e k) = some (.bool z)) : evB H ρ (.item e k) = some z := bind_of (o := evP H ρ (.item e k)) h rfl
theorem c_has {x y : V} {z z' : Bool} (h : hasV H x y = some z) (h' : (!z) = z') : cmpV H .NotIn x y = some z' := map_of h h'
theorem c_nd0 {a : Addr} {kvs : List (Int × V)} {z : Int} (h : H a = some (.nd kvs)) (h' : dget kvs z = none) : cmpV H .NotIn (.int z) (.ref a) = some true :=
  c_has (bind_of (o := H a) h (congrArg (fun o : Option V => some o.isSome) h')) rfl
theorem c_nd1 {a : Addr} {kvs : List (Int × V)} {z : Int} {v : V} (h : H a = some (.nd kvs)) (h' : dget kvs z = some v) : cmpV H .NotIn (.int z) (.ref a) = some false :=
  c_has (bind_of (o := H a) h (congrArg (fun o : Option V => some o.isSome) h')) rfl
theorem c_td0 {a : Addr} {kvs : List (List KA × V)} {ks : List V} {k : List KA} (h : H a = some (.td kvs)) (hk : kaOf ks = some k) (h' : dget kvs k = none) : cmpV H .NotIn (.tup ks) (.ref a) = some true :=
  c_has (bind_of (o := H a) h (map_of (o := kaOf ks) hk (congrArg Option.isSome h'))) rfl
theorem c_td1 {a : Addr} {kvs : List (List KA × V)} {ks : List V} {k : List KA} {v : V} (h : H a = some (.td kvs)) (hk : kaOf ks = some k) (h' : dget kvs k = some v) : cmpV H .NotIn (.tup ks) (.ref a) = some false :=
  c_has (bind_of (o := H a) h (map_of (o := kaOf ks) hk (congrArg Option.isSome h'))) rfl
end
theorem dget_dset {K α : Type} [DecidableEq K] (kvs : List (K × α)) (k : K) (v : α) (k' : K) : dget (dset kvs k v) k' = if k = k' then some v else dget kvs k' := by
  unfold dset
  split
  · rename_i h
    induction kvs with
    | nil => simp at h
    | cons x r ih =>
      obtain ⟨q, y⟩ := x
      rw [List.map_cons]
      by_cases e : q = k
      · subst e
        simp only [if_true, dget_cons]
        by_cases e2 : q = k'
        · simp [e2]
        · simp only [e2, if_false]
          -- behind: the keys that are k keep nothing that k' sees
          have : ∀ r : List (K × α), dget (r.map fun kv => if kv.1 = q then (kv.1, v) else kv) k' = dget r k' := fun r => by
            induction r with
            | nil => rfl
            | cons z r ih2 =>
              obtain ⟨w, z⟩ := z
              rw [List.map_cons]
              by_cases e3 : w = q
              · subst e3; simp only [if_true, dget_cons, e2, if_false]; exact ih2
              · simp only [e3, if_false, dget_cons]; rw [ih2]
          exact this r
      · simp only [e, if_false, dget_cons]
        have h' : (r.any fun kv => decide (kv.1 = k)) = true := by simpa [e] using h
        rw [ih h']
        by_cases e2 : q = k'
        · subst e2; simp only [if_true, Ne.symm e, if_false]
        · simp only [e2, if_false]
  · rename_i h
    induction kvs with
    | nil => simp
    | cons x r ih =>
      obtain ⟨q, y⟩ := x
      have h1 : q ≠ k := fun e => h (by simp [e])
      have h2 : ¬ (r.any fun kv => decide (kv.1 = k)) = true := fun e => h (by rw [List.any_cons, e]; simp)
      rw [List.cons_append, dget_cons, ih h2, dget_cons]
      by_cases e : q = k'
      · subst e; simp only [if_true, Ne.symm h1, if_false]
      · simp only [e, if_false]
noncomputable def dgetR : List (Nat × V) → Nat → Option V
  | [], _ => none
  | (a, b) :: r, k => if a = k then some b else dgetR r k
theorem dget_eqR (kvs : List (Nat × V)) (k : Nat) : dget kvs k = dgetR kvs k := by
  induction kvs with
  | nil => rfl
  | cons x r ih => rw [dget_cons, ih]; rfl
theorem dget_of {kvs : List (Nat × V)} {k : Nat} {o : Option V} (h : dgetR kvs k = o) : dget kvs k = o := (dget_eqR kvs k).trans h
theorem dget_self {K α : Type} [DecidableEq K] (kvs : List (K × α)) (k : K) (v : α) : dget (dset kvs k v) k = some v := (dget_dset kvs k v k).trans (if_pos rfl)
local macro_rules | `(tactic| tb_start) => `(tactic| (repeat' (first
  | with_reducible (first
    | assumption
    | exact e_int | exact e_str | exact e_bool | exact e_none | exact e_neg | exact es_nil | exact and_nil | exact or_nil
    | exact upd_self _ _ _ | exact lset_self _ _ _
    | apply e_var | apply e_attr | apply e_item | apply e_tup | apply es_cons | apply e_bin | apply e_len | apply e_get1 | apply e_get2 | apply e_cmp
    | apply b_cmp | apply b_not | apply b_attr | apply b_item | apply b_var | apply b_and | apply b_or
    | apply sget_nat | apply i_tup | apply i_sd | apply i_td | apply c_nd0 | apply c_nd1 | apply c_td0 | apply c_td1
    | apply upd_miss | apply lset_miss | apply lsets_c | apply lsets_n
    | exact Ne.symm (by assumption)
    | exact dget_self _ _ _
    | (refine i_list (by first | assumption | exact upd_self _ _ _) ?_) | (refine i_nd (by first | assumption | exact upd_self _ _ _) ?_))
  | ((with_reducible refine e_ifT ?c ?_); (case c => tb_start; done))
  | ((with_reducible refine e_ifF ?c ?_); (case c => tb_start; done))
  | ((with_reducible refine e_orT ?c); (case c => tb_start; done))
  | ((with_reducible refine e_orF ?c ?_); (case c => tb_start; done))
  | ((with_reducible refine and_T ?c ?_); (case c => tb_start; done))
  | ((with_reducible refine and_F ?c); (case c => tb_start; done))
  | ((with_reducible refine or_F ?c ?_); (case c => tb_start; done))
  | ((with_reducible refine or_T ?c); (case c => tb_start; done))
  | exact dget_of rfl | exact rfl | exact e_int | exact e_bool | assumption | omega)))

section
variable {D : Amb} {n : Nat} {ρ : Loc} {H : AH}
theorem k_next (W : Facts D) {T R : Addr} {L m : Int} (hT : H T = some (.inst 101 [(22, .int L), (23, .int m), (24, .ref R)])) : WK D (n + 1) 70 [.ref T] H fun v H' => v = .int (m + 1) ∧ H' = upd H T (.inst 101 [(22, .int L), (23, .int (m + 1)), (24, .ref R)]) := by
  refine wk_fn W.ro W.f70 rfl ?_
  unfold b_ShapeTree_next_number
  refine ws_cons (w1_aug W.ro (we_p W (v := .ref T) (by tb_start) ⟨T, 101, _, m, rfl, hT, (W.attr rfl).1, rfl, we_p W (v := .int 1) rfl ⟨1, _, rfl, hT, (W.attr rfl).2, by simp, ?_⟩⟩))
  exact s_ret W (v := .int (m + 1)) (by tb_start) ⟨rfl, rfl⟩

noncomputable def shapeFs (num : Int) (bf p : V) (b : Option (Addr × List (Nat × V) × Int × Bool)) (l : Addr) : List (Nat × V) :=
  [(8, .int num), (9, bf), (10, p), (11, .none), (12, .int 0), (13, .int ((b.map fun x => x.2.2.1).getD 0)), (14, .bool ((b.map fun x => x.2.2.2).getD true)), (15, .ref l), (16, .none), (17, .none)]
inductive ShapeP (num : Int) (bf p : V) (b : Option (Addr × List (Nat × V) × Int × Bool)) (H : AH) (v : V) (H' : AH) : Prop
  | mk (c l : Addr) : v = .ref c → H c = none → H l = none → c ≠ l → H' = upd (upd H l (.td [])) c (.inst 45 (shapeFs num bf p b l)) → ShapeP num bf p b H v H'
theorem k_shape (W : Facts D) {num : Int} {bf p : V} {b : Option (Addr × List (Nat × V) × Int × Bool)}
    (hb : match b with | none => bf = .none | some (a, fs, sz, op) => bf = .ref a ∧ H a = some (.inst 45 fs) ∧ dget fs 13 = some (.int sz) ∧ dget fs 14 = some (.bool op)) :
    WK D (n + 2) 45 [.int num, bf, p] H (ShapeP num bf p b H) := by
  refine wk_cls W.c45 fun c hc => ?_
  refine wk_fn W.ro W.f28 rfl ?_
  unfold b_Shape_init
  refine s_attrU W (v := .int num) (by tb_start) (by tb_start) rfl (len_ok rfl) ?_
  refine s_attrU W (v := bf) (by tb_start) (by tb_start) rfl (len_ok rfl) ?_
  refine s_attrU W (v := p) (by tb_start) (by tb_start) rfl (len_ok rfl) ?_
  refine s_attrU W (v := .none) (by tb_start) (by tb_start) rfl (len_ok rfl) ?_
  refine s_attrU W (v := .int 0) (by tb_start) (by tb_start) rfl (len_ok rfl) ?_
  have hs : ∀ o, evP (upd H c o) (fun i => dget (p_Shape_init.zip [V.ref c, V.int num, bf, p]) i) (.ife (.cmp .Is (.var 9) (.none)) (.int 0) (.attr (.var 9) 13)) = some (.int ((b.map fun x => x.2.2.1).getD 0)) := fun o => by
    cases b with
    | none => subst hb; tb_start
    | some x =>
      obtain ⟨a, fs, sz, op⟩ := x
      obtain ⟨rfl, h1, h2, h3⟩ := hb
      have : a ≠ c := fun q => by rw [q, hc] at h1; cases h1
      show _ = some (V.int sz)
      tb_start
  have ho : ∀ o, evP (upd H c o) (fun i => dget (p_Shape_init.zip [V.ref c, V.int num, bf, p]) i) (.bop .Or [.cmp .Is (.var 9) (.none), .attr (.var 9) 14]) = some (.bool ((b.map fun x => x.2.2.2).getD true)) := fun o => by
    cases b with
    | none => subst hb; tb_start
    | some x =>
      obtain ⟨a, fs, sz, op⟩ := x
      obtain ⟨rfl, h1, h2, h3⟩ := hb
      have : a ≠ c := fun q => by rw [q, hc] at h1; cases h1
      show _ = some (V.bool op)
      tb_start
  refine s_attrU W (hs _) (by tb_start) rfl (len_ok rfl) ?_
  refine s_attrU W (ho _) (by tb_start) rfl (len_ok rfl) ?_
  refine s_attrE W (we_dict0 (.td []) rfl fun l hl => ?_)
  have hlc : l ≠ c := fun q => by rw [q, upd_self] at hl; cases hl
  rw [upd_ne hlc] at hl
  refine ⟨c, 45, _, by tb_start, (upd_ne (Ne.symm hlc)).trans (upd_self _ _ _), rfl, len_ok rfl, ?_⟩
  refine s_attrU W (v := .none) (by tb_start) (by tb_start) rfl (len_ok rfl) ?_
  refine s_attrU W (v := .none) (by tb_start) (by tb_start) rfl (len_ok rfl) ?_
  refine ws_nil ⟨rfl, c, l, rfl, hc, hl, Ne.symm hlc, ?_⟩
  rw [upd3]; rfl
end



/-! the tree of shapes -/
structure Info where
  p : Nat
  rows : List (Nat × Int)
  op : Bool
  deriving DecidableEq
inductive Role where
  | free | tree | roots | shape (i : Info) | later (i : Info) | places (i : Info) | store (j : Nat) | slots (j : Nat) | table (j : Nat)
noncomputable def Role.isTree : Role → Prop
  | .tree | .roots | .shape _ | .later _ | .places _ => True
  | _ => False
set_option genInjectivity false in
structure Gh where
  ro : Addr → Role
  tr : Info → Option Addr
  nu : Info → Int
  ns : Nat
  sa : Nat → Addr
  sn : Nat → Int
noncomputable def Info.add (i : Info) (k : Nat) (f : Int) : Info := ⟨i.p, i.rows ++ [(k, f)], true⟩
noncomputable def Info.shut (i : Info) : Info := ⟨i.p, i.rows, false⟩
noncomputable def Info.back (i : Info) : Option Info := if i.op then (if i.rows = [] then none else some ⟨i.p, i.rows.dropLast, true⟩) else some ⟨i.p, i.rows, true⟩
noncomputable def optR : Option Addr → V
  | some a => .ref a
  | none => .none
noncomputable def Gh.protoV (G : Gh) (p : Nat) : V := if p = 0 then .none else .ref (G.sa (p - 1))
noncomputable def Gh.pnum (G : Gh) (p : Nat) : Int := if p = 0 then 0 else G.sn (p - 1)
noncomputable def Info.keyV (i : Info) : V := if i.op then (match i.rows.getLast? with | some r => .str r.1 | none => .none) else .none
noncomputable def Info.flag (i : Info) : Int := if i.op then (match i.rows.getLast? with | some r => r.2 | none => 0) else 0
noncomputable def Gh.beforeV (G : Gh) (i : Info) : V := match i.back with
  | none => .none
  | some j => optR (G.tr j)
noncomputable def Gh.closedV (G : Gh) (i : Info) : V := if i.op then optR (G.tr i.shut) else .none
noncomputable def Gh.fs (G : Gh) (i : Info) (l : Addr) (pv : V) : List (Nat × V) := [(8, .int (G.nu i)), (9, G.beforeV i), (10, G.protoV i.p), (11, i.keyV), (12, .int i.flag), (13, .int i.rows.length), (14, .bool i.op), (15, .ref l), (16, G.closedV i), (17, pv)]
noncomputable def plOf (rows : List (Nat × Int)) : List (Nat × V) := rows.zipIdx.map fun r => (r.1.1, .tup [.int (r.2 : Int), .int r.1.2])

inductive ShEx (G : Gh) (m : Nat) (H : AH) (i : Info) (a : Addr) : Prop
  | mk (l : Addr) (kvs : List (List KA × V)) (pv : V) : H a = some (.inst 45 (G.fs i l pv)) → G.ro a = .shape i → G.ro l = .later i → H l = some (.td kvs) → kvs.length ≤ m → (i.op = true → ∀ k f, dget kvs [.s k, .i f] = (G.tr (i.add k f)).map .ref) →
    (pv = .none ∨ ∃ d, pv = .ref d ∧ G.ro d = .places i ∧ H d = some (.sd (plOf i.rows))) → ShEx G m H i a
structure ShOk (G : Gh) (m : Nat) (H : AH) (i : Info) (a : Addr) : Prop where
  ex : ShEx G m H i a
inductive RtEx (R : Addr) (m : Nat) (G : Gh) (H : AH) : Prop
  | mk (rk : List (Int × V)) : H R = some (.nd rk) → G.ro R = .roots → rk.length ≤ m → (∀ p, p ≤ G.ns → dget rk (G.pnum p) = (G.tr ⟨p, [], true⟩).map .ref) → (∀ z, dget rk z ≠ none → ∃ p, p ≤ G.ns ∧ z = G.pnum p) → RtEx R m G H
structure TI (T R : Addr) (L : Int) (m : Nat) (G : Gh) (H : AH) : Prop where
  t : H T = some (.inst 101 [(22, .int L), (23, .int m), (24, .ref R)])
  rT : G.ro T = .tree
  rt : RtEx R m G H
  sh : ∀ i a, G.tr i = some a → ShOk G m H i a
  pb : ∀ i a, G.tr i = some a → i.p ≤ G.ns
  bk : ∀ i a j, G.tr i = some a → i.back = some j → ∃ b, G.tr j = some b
  nd : ∀ i a, G.tr i = some a → (i.rows.map (·.1)).Nodup
  nu : ∀ i a, G.tr i = some a → 1 ≤ G.nu i ∧ G.nu i ≤ m
  nui : ∀ i j a b, G.tr i = some a → G.tr j = some b → G.nu i = G.nu j → i = j
  sn : ∀ j, j < G.ns → 1 ≤ G.sn j ∧ G.sn j ≤ m
  sni : ∀ i j, i < G.ns → j < G.ns → G.sn i = G.sn j → i = j
  st : ∀ j, j < G.ns → G.ro (G.sa j) = .store j ∧ ∃ fs, H (G.sa j) = some (.inst 190 fs) ∧ dget fs 8 = some (.int (G.sn j))
  fr : ∀ a, H a = none → G.ro a = .free
structure Ext (M : Role → Prop) (G : Gh) (H : AH) (G' : Gh) (H' : AH) : Prop where
  live : ∀ a, H a ≠ none → H' a ≠ none ∧ G'.ro a = G.ro a ∧ (¬ M (G.ro a) → H' a = H a)
  tr : ∀ i a, G.tr i = some a → G'.tr i = some a ∧ G'.nu i = G.nu i
  ns : G'.ns = G.ns
  sa : G'.sa = G.sa
  sn : G'.sn = G.sn
theorem Ext.refl (M : Role → Prop) (G : Gh) (H : AH) : Ext M G H G H := ⟨fun _ h => ⟨h, rfl, fun _ => rfl⟩, fun _ _ h => ⟨h, rfl⟩, rfl, rfl, rfl⟩
theorem Ext.trans {M : Role → Prop} {G G' G'' : Gh} {H H' H'' : AH} (x : Ext M G H G' H') (y : Ext M G' H' G'' H'') : Ext M G H G'' H'' := by
  refine ⟨fun a h => ?_, fun i a h => ?_, y.ns.trans x.ns, y.sa.trans x.sa, y.sn.trans x.sn⟩
  · obtain ⟨h1, h2, h3⟩ := x.live a h
    obtain ⟨g1, g2, g3⟩ := y.live a h1
    exact ⟨g1, g2.trans h2, fun q => (g3 (by rw [h2]; exact q)).trans (h3 q)⟩
  · obtain ⟨h1, h2⟩ := x.tr i a h
    obtain ⟨g1, g2⟩ := y.tr i a h1
    exact ⟨g1, g2.trans h2⟩
theorem Ext.mono {M M' : Role → Prop} (k : ∀ r, M r → M' r) {G G' : Gh} {H H' : AH} (x : Ext M G H G' H') : Ext M' G H G' H' :=
  ⟨fun a h => let ⟨h1, h2, h3⟩ := x.live a h; ⟨h1, h2, fun q => h3 fun z => q (k _ z)⟩, x.tr, x.ns, x.sa, x.sn⟩
noncomputable abbrev isTr : Role → Prop := Role.isTree

theorem Ext.protoV {M : Role → Prop} {G G' : Gh} {H H' : AH} (x : Ext M G H G' H') (p : Nat) : G'.protoV p = G.protoV p := by unfold Gh.protoV; rw [x.sa]
theorem Ext.pnum {M : Role → Prop} {G G' : Gh} {H H' : AH} (x : Ext M G H G' H') (p : Nat) : G'.pnum p = G.pnum p := by unfold Gh.pnum; rw [x.sn]

theorem dset_length {K α : Type} [DecidableEq K] (kvs : List (K × α)) (k : K) (v : α) : (dset kvs k v).length ≤ kvs.length + 1 := by
  unfold dset
  split <;> simp

theorem ShOk.keep {G G' : Gh} {m m' : Nat} {H H' : AH} {i : Info} {a : Addr} (x : ShOk G m H i a) (hm : m ≤ m') (hr : ∀ b, H b ≠ none → G'.ro b = G.ro b) (hH : ∀ b, H b ≠ none → (b = a ∨ G.ro b = .later i ∨ G.ro b = .places i) → H' b = H b)
    (hf : ∀ l pv, G'.fs i l pv = G.fs i l pv) (ht : i.op = true → ∀ k f, G'.tr (i.add k f) = G.tr (i.add k f)) : ShOk G' m' H' i a := by
  obtain ⟨l, kvs, pv, h1, h2, h3, h4, h5, h6, h7⟩ := x.ex
  have la : H a ≠ none := by rw [h1]; exact fun q => nomatch q
  have ll : H l ≠ none := by rw [h4]; exact fun q => nomatch q
  refine ⟨l, kvs, pv, ?_, (hr a la).trans h2, (hr l ll).trans h3, (hH l ll (.inr (.inl h3))).trans h4, Nat.le_trans h5 hm, fun ho k f => by rw [ht ho]; exact h6 ho k f, ?_⟩
  · rw [hf]; exact (hH a la (.inl rfl)).trans h1
  · rcases h7 with h7 | ⟨d, d1, d2, d3⟩
    · exact .inl h7
    · have ld : H d ≠ none := by rw [d3]; exact fun q => nomatch q
      exact .inr ⟨d, d1, (hr d ld).trans d2, (hH d ld (.inr (.inr d2))).trans d3⟩



noncomputable def Gh.grow (G : Gh) (j : Info) (c l : Addr) (m : Nat) : Gh :=
  { G with ro := fun a => if a = c then .shape j else if a = l then .later j else G.ro a, tr := fun i => if i = j then some c else G.tr i, nu := fun i => if i = j then ((m + 1 : Nat) : Int) else G.nu i }

section
variable {T R : Addr} {L : Int} {m : Nat} {G : Gh} {H H' : AH}
theorem ne_of_live {a b : Addr} (ha : H a ≠ none) (hb : H b = none) : a ≠ b := fun q => ha (by rw [q]; exact hb)
theorem TI.back_none (X : TI T R L m G H) {j i : Info} (hj : G.tr j = none) (hb : i.back = some j) : G.tr i = none := by
  cases e : G.tr i with
  | none => rfl
  | some a => obtain ⟨b, hb'⟩ := X.bk i a j e hb; rw [hj] at hb'; cases hb'
theorem back_add (i : Info) (k : Nat) (f : Int) (ho : i.op = true) : (i.add k f).back = some i := by
  obtain ⟨p, rows, op⟩ := i
  cases ho
  simp [Info.back, Info.add]
theorem back_shut (i : Info) (ho : i.op = true) : i.shut.back = some i := by
  obtain ⟨p, rows, op⟩ := i
  cases ho
  simp [Info.back, Info.shut]
theorem back_ne {i j : Info} (h : i.back = some j) : i ≠ j := fun e => by
  subst e
  unfold Info.back at h
  split at h
  · split at h
    · cases h
    · rename_i h1 h2
      have := congrArg (fun o => o.map fun i => i.rows.length) h
      simp at this
      have : 0 < i.rows.length := List.length_pos_iff.mpr h2
      omega
  · rename_i h1
    have := congrArg (fun o => o.map fun i => i.op) h
    simp at this
    exact h1 this
theorem TI.grow (X : TI T R L m G H) {j : Info} {c l : Addr} (hj : G.tr j = none) (hp : j.p ≤ G.ns) (hn : (j.rows.map (·.1)).Nodup) (hb : ∀ b, j.back = some b → ∃ x, G.tr b = some x) (hc : H c = none) (hl : H l = none) (hcl : c ≠ l)
    (h1 : H' c = some (.inst 45 ((G.grow j c l m).fs j l .none))) (h2 : H' l = some (.td [])) (h3 : H' T = some (.inst 101 [(22, .int L), (23, .int ((m + 1 : Nat) : Int)), (24, .ref R)]))
    (hnt : ∀ a, H a ≠ none → ¬ isTr (G.ro a) → H' a = H a) (hnone : ∀ a, H a ≠ none → H' a ≠ none) (hfr : ∀ a, H' a ≠ none → H a = none → a = c ∨ a = l)
    (hR : ∃ rk, H' R = some (.nd rk) ∧ rk.length ≤ m + 1 ∧ (∀ p, p ≤ G.ns → dget rk (G.pnum p) = ((G.grow j c l m).tr ⟨p, [], true⟩).map .ref) ∧ ∀ z, dget rk z ≠ none → ∃ p, p ≤ G.ns ∧ z = G.pnum p)
    (hS : ∀ i a, G.tr i = some a → ShOk (G.grow j c l m) (m + 1) H' i a) : TI T R L (m + 1) (G.grow j c l m) H' ∧ Ext isTr G H (G.grow j c l m) H' := by
  have ro : ∀ a, H a ≠ none → (G.grow j c l m).ro a = G.ro a := fun a ha => by
    show (if a = c then _ else if a = l then _ else G.ro a) = _
    rw [if_neg (ne_of_live ha hc), if_neg (ne_of_live ha hl)]
  have tr : ∀ i a, G.tr i = some a → (G.grow j c l m).tr i = some a ∧ (G.grow j c l m).nu i = G.nu i := fun i a h => by
    have : i ≠ j := fun e => by rw [e, hj] at h; cases h
    exact ⟨(if_neg this).trans h, if_neg this⟩
  have tr' : ∀ i a, (G.grow j c l m).tr i = some a → (i = j ∧ a = c) ∨ (i ≠ j ∧ G.tr i = some a) := fun i a h => by
    by_cases e : i = j
    · subst e
      have h : (if i = i then some c else G.tr i) = some a := h
      rw [if_pos rfl] at h; cases h; exact .inl ⟨rfl, rfl⟩
    · exact .inr ⟨e, (if_neg e).symm.trans h⟩
  have nuj : (G.grow j c l m).nu j = ((m + 1 : Nat) : Int) := if_pos rfl
  refine ⟨⟨h3, ?_, ?_, fun i a h => ?_, fun i a h => ?_, fun i a b h h' => ?_, fun i a h => ?_, fun i a h => ?_, fun i i' a b h h' e => ?_, fun k hk => ?_, X.sni, fun k hk => ?_, fun a ha => ?_⟩, ⟨fun a ha => ⟨hnone a ha, ro a ha, hnt a ha⟩, tr, rfl, rfl, rfl⟩⟩
  · rw [ro T (by rw [X.t]; exact fun q => nomatch q)]; exact X.rT
  · obtain ⟨rk, g1, g2, g3, g4⟩ := hR
    obtain ⟨rk0, q1, q2, _⟩ := X.rt
    exact ⟨rk, g1, (ro R (by rw [q1]; exact fun q => nomatch q)).trans q2, g2, g3, g4⟩
  · rcases tr' i a h with ⟨rfl, rfl⟩ | ⟨e, h⟩
    · refine ⟨l, [], .none, h1, if_pos rfl, (if_neg (Ne.symm hcl)).trans (if_pos rfl), h2, Nat.zero_le _, fun ho k f => ?_, .inl rfl⟩
      have b1 := back_add i k f ho
      have b2 : (G.grow i a l m).tr (i.add k f) = none := (if_neg (back_ne b1)).trans (X.back_none hj b1)
      rw [b2]; rfl
    · exact hS i a h
  · rcases tr' i a h with ⟨rfl, rfl⟩ | ⟨e, h⟩
    · exact hp
    · exact X.pb i a h
  · rcases tr' i a h with ⟨rfl, rfl⟩ | ⟨e, h⟩
    · obtain ⟨x, hx⟩ := hb b h'; exact ⟨x, (tr b x hx).1⟩
    · obtain ⟨x, hx⟩ := X.bk i a b h h'; exact ⟨x, (tr b x hx).1⟩
  · rcases tr' i a h with ⟨rfl, rfl⟩ | ⟨e, h⟩
    · exact hn
    · exact X.nd i a h
  · rcases tr' i a h with ⟨rfl, rfl⟩ | ⟨e, h⟩
    · rw [nuj]; omega
    · have := X.nu i a h
      rw [(tr i a h).2]; omega
  · rcases tr' i a h with ⟨ei, ea⟩ | ⟨e1, g⟩
    · rcases tr' i' b h' with ⟨ei', ea'⟩ | ⟨e2, g'⟩
      · rw [ei, ei']
      · have := X.nu i' b g'
        rw [ei, nuj, (tr i' b g').2] at e; omega
    · rcases tr' i' b h' with ⟨ei', ea'⟩ | ⟨e2, g'⟩
      · have := X.nu i a g
        rw [ei', nuj, (tr i a g).2] at e; omega
      · rw [(tr i a g).2, (tr i' b g').2] at e
        exact X.nui i i' a b g g' e
  · have := X.sn k hk
    show 1 ≤ G.sn k ∧ G.sn k ≤ _
    omega
  · obtain ⟨q1, fs, q2, q3⟩ := X.st k hk
    have hl : H (G.sa k) ≠ none := by rw [q2]; exact fun q => nomatch q
    refine ⟨(ro _ hl).trans q1, fs, ?_, q3⟩
    exact (hnt (G.sa k) hl (by rw [q1]; exact id)).trans q2
  · have ha0 : H a = none := by
      cases e : H a with
      | none => rfl
      | some o => exact absurd ha (hnone a (by rw [e]; exact fun q => nomatch q))
    show (if a = c then _ else if a = l then _ else G.ro a) = _
    rw [if_neg (fun q => by rw [q, h1] at ha; cases ha), if_neg (fun q => by rw [q, h2] at ha; cases ha)]
    exact X.fr a ha0
theorem TI.fs_same (X : TI T R L m G H) {j : Info} {c l : Addr} (hj : G.tr j = none) {i : Info} {a : Addr} (hi : G.tr i = some a) (hs : i.op = true → i.shut ≠ j) (l' : Addr) (pv : V) : (G.grow j c l m).fs i l' pv = G.fs i l' pv := by
  have hne : i ≠ j := fun e => by rw [e, hj] at hi; cases hi
  have e1 : (G.grow j c l m).nu i = G.nu i := if_neg hne
  have e2 : (G.grow j c l m).beforeV i = G.beforeV i := by
    unfold Gh.beforeV
    cases hb : i.back with
    | none => rfl
    | some b =>
      obtain ⟨x, hx⟩ := X.bk i a b hi hb
      have : b ≠ j := fun e => by rw [e, hj] at hx; cases hx
      show optR (if b = j then _ else _) = _
      rw [if_neg this]
  have e3 : (G.grow j c l m).closedV i = G.closedV i := by
    unfold Gh.closedV
    split
    · rename_i ho
      show optR (if i.shut = j then _ else _) = _
      rw [if_neg (hs ho)]
    · rfl
  unfold Gh.fs
  rw [e1, e2, e3]; rfl
theorem TI.fs_new (X : TI T R L m G H) {j : Info} {c l : Addr} (hj : G.tr j = none) (l' : Addr) : (G.grow j c l m).fs j l' .none = [(8, .int ((m + 1 : Nat) : Int)), (9, G.beforeV j), (10, G.protoV j.p), (11, j.keyV), (12, .int j.flag), (13, .int j.rows.length), (14, .bool j.op), (15, .ref l'), (16, .none), (17, .none)] := by
  have e1 : (G.grow j c l m).nu j = ((m + 1 : Nat) : Int) := if_pos rfl
  have e2 : (G.grow j c l m).beforeV j = G.beforeV j := by
    unfold Gh.beforeV
    cases hb : j.back with
    | none => rfl
    | some b =>
      have : b ≠ j := Ne.symm (back_ne hb)
      show optR (if b = j then _ else _) = _
      rw [if_neg this]
  have e3 : (G.grow j c l m).closedV j = .none := by
    unfold Gh.closedV
    split
    · rename_i ho
      have b1 := back_shut j ho
      show optR (if j.shut = j then _ else G.tr j.shut) = _
      rw [if_neg (back_ne b1), X.back_none hj b1]; rfl
    · rfl
  unfold Gh.fs
  rw [e1, e2, e3]; rfl
theorem some_ne {a : Addr} {o : O} (h : H a = some o) : H a ≠ none := by rw [h]; exact fun q => nomatch q
noncomputable def four (H : AH) (T l c k : Addr) (t sh o : O) : AH := upd (upd (upd (upd H T t) l (.td [])) c sh) k o
theorem four_app (T l c k : Addr) (t sh o : O) (b : Addr) : four H T l c k t sh o b = if b = k then some o else if b = c then some sh else if b = l then some (.td []) else if b = T then some t else H b := by
  unfold four upd; rfl
theorem TI.grow4 (X : TI T R L m G H) {j : Info} {c l k : Addr} {o : O} (hj : G.tr j = none) (hp : j.p ≤ G.ns) (hn : (j.rows.map (·.1)).Nodup) (hb : ∀ b, j.back = some b → ∃ x, G.tr b = some x) (hc : H c = none) (hl : H l = none) (hcl : c ≠ l)
    (hk : H k ≠ none) (hkT : k ≠ T) (hkr : isTr (G.ro k)) {sh : O} (hsh : sh = .inst 45 [(8, .int ((m + 1 : Nat) : Int)), (9, G.beforeV j), (10, G.protoV j.p), (11, j.keyV), (12, .int j.flag), (13, .int j.rows.length), (14, .bool j.op), (15, .ref l), (16, .none), (17, .none)])
    (hR : ∃ rk, four H T l c k (.inst 101 [(22, .int L), (23, .int ((m + 1 : Nat) : Int)), (24, .ref R)]) sh o R = some (.nd rk) ∧ rk.length ≤ m + 1 ∧ (∀ p, p ≤ G.ns → dget rk (G.pnum p) = ((G.grow j c l m).tr ⟨p, [], true⟩).map .ref) ∧ ∀ z, dget rk z ≠ none → ∃ p, p ≤ G.ns ∧ z = G.pnum p)
    (hS : ∀ i a, G.tr i = some a → ShOk (G.grow j c l m) (m + 1) (four H T l c k (.inst 101 [(22, .int L), (23, .int ((m + 1 : Nat) : Int)), (24, .ref R)]) sh o) i a) :
    TI T R L (m + 1) (G.grow j c l m) (four H T l c k (.inst 101 [(22, .int L), (23, .int ((m + 1 : Nat) : Int)), (24, .ref R)]) sh o) ∧ Ext isTr G H (G.grow j c l m) (four H T l c k (.inst 101 [(22, .int L), (23, .int ((m + 1 : Nat) : Int)), (24, .ref R)]) sh o) := by
  have hT := some_ne X.t
  have kc := ne_of_live hk hc
  have kl := ne_of_live hk hl
  have Tc := ne_of_live hT hc
  have Tl := ne_of_live hT hl
  subst hsh
  refine X.grow hj hp hn hb hc hl hcl ?_ ?_ ?_ (fun a ha hr => ?_) (fun a ha => ?_) (fun a ha h0 => ?_) hR hS
  · rw [four_app, if_neg (Ne.symm kc), if_pos rfl, X.fs_new hj]
  · rw [four_app, if_neg (Ne.symm kl), if_neg (Ne.symm hcl), if_pos rfl]
  · rw [four_app, if_neg (Ne.symm hkT), if_neg Tc, if_neg Tl, if_pos rfl]
  · rw [four_app, if_neg (fun q => hr (by rw [q]; exact hkr)), if_neg (ne_of_live ha hc), if_neg (ne_of_live ha hl), if_neg (fun q => hr (by rw [q, X.rT]; trivial))]
  · rw [four_app]
    split
    · simp
    · split
      · simp
      · split
        · simp
        · split
          · simp
          · exact ha
  · rw [four_app] at ha
    by_cases e1 : a = c
    · exact .inl e1
    · by_cases e2 : a = l
      · exact .inr e2
      · exfalso
        rw [if_neg (fun q => hk (by rw [← q]; exact h0)), if_neg e1, if_neg e2, if_neg (fun q => hT (by rw [← q]; exact h0))] at ha
        exact ha h0
theorem TI.four_same (X : TI T R L m G H) {l c k b : Addr} {t sh o : O} (hc : H c = none) (hl : H l = none) (hb : H b ≠ none) (h1 : b ≠ k) (h2 : b ≠ T) : four H T l c k t sh o b = H b := by
  rw [four_app, if_neg h1, if_neg (ne_of_live hb hc), if_neg (ne_of_live hb hl), if_neg h2]
theorem TI.keep4 (X : TI T R L m G H) {j : Info} {l c k : Addr} {t sh o : O} (hj : G.tr j = none) (hc : H c = none) (hl : H l = none) {i : Info} {a : Addr} (hi : G.tr i = some a) (hk : k ≠ a ∧ G.ro k ≠ .later i ∧ G.ro k ≠ .places i)
    (hs : i.op = true → i.shut ≠ j) (ha : i.op = true → ∀ k f, i.add k f ≠ j) : ShOk (G.grow j c l m) (m + 1) (four H T l c k t sh o) i a := by
  refine (X.sh i a hi).keep (Nat.le_succ _) (fun b hb => ?_) (fun b hb hr => X.four_same hc hl hb (fun q => ?_) fun q => ?_) (fun l' pv => X.fs_same hj hi hs l' pv) fun ho k f => if_neg (ha ho k f)
  · show (if b = c then _ else if b = l then _ else G.ro b) = _
    rw [if_neg (ne_of_live hb hc), if_neg (ne_of_live hb hl)]
  · rcases hr with hr | hr | hr
    · exact hk.1 (q.symm.trans hr)
    · exact hk.2.1 (q ▸ hr)
    · exact hk.2.2 (q ▸ hr)
  · obtain ⟨l', kvs, pv, g1, g2, _⟩ := (X.sh i a hi).ex
    rcases hr with hr | hr | hr
    · rw [hr] at q; rw [q, X.rT] at g2; cases g2
    · rw [q, X.rT] at hr; cases hr
    · rw [q, X.rT] at hr; cases hr
end



section
variable {D : Amb} {n : Nat} {T R : Addr} {L : Int} {m : Nat} {G : Gh} {H H' : AH}

inductive TP (T R : Addr) (L : Int) (m : Nat) (G : Gh) (H : AH) (i : Info) (v : V) (H' : AH) : Prop
  | mk (G' : Gh) (m' : Nat) (a : Addr) : v = .ref a → TI T R L m' G' H' → Ext isTr G H G' H' → m ≤ m' → m' ≤ m + 1 → G'.tr i = some a → TP T R L m G H i v H'
theorem upd_none {a b : Addr} {o : O} (h : upd H a o b = none) : b ≠ a ∧ H b = none := by
  by_cases e : b = a
  · subst e; rw [upd_self] at h; cases h
  · rw [upd_ne e] at h; exact ⟨e, h⟩
theorem TI.proto (X : TI T R L m G H) {p : Nat} (hp : p ≤ G.ns) : (p = 0 ∧ G.protoV p = .none ∧ G.pnum p = 0) ∨ ∃ fs, p ≠ 0 ∧ G.protoV p = .ref (G.sa (p - 1)) ∧ G.pnum p = G.sn (p - 1) ∧ G.ro (G.sa (p - 1)) = .store (p - 1) ∧ H (G.sa (p - 1)) = some (.inst 190 fs) ∧ dget fs 8 = some (.int (G.sn (p - 1))) := by
  by_cases h : p = 0
  · exact .inl ⟨h, if_pos h, if_pos h⟩
  · obtain ⟨h1, fs, h2, h3⟩ := X.st (p - 1) (by omega)
    exact .inr ⟨fs, h, if_neg h, if_neg h, h1, h2, h3⟩
theorem TI.pnum_inj (X : TI T R L m G H) {p q : Nat} (hp : p ≤ G.ns) (hq : q ≤ G.ns) (h : G.pnum p = G.pnum q) : p = q := by
  unfold Gh.pnum at h
  split at h
  · split at h
    · omega
    · have := X.sn (q - 1) (by omega); omega
  · split at h
    · have := X.sn (p - 1) (by omega); omega
    · have := X.sni (p - 1) (q - 1) (by omega) (by omega) h; omega

theorem k_root (W : Facts D) (X : TI T R L m G H) {p : Nat} (hp : p ≤ G.ns) (hm : m < 900000) : WK D (n + 3) 77 [.ref T, G.protoV p] H (TP T R L m G H ⟨p, [], true⟩) := by
  refine wk_fn W.ro W.f77 rfl ?_
  unfold b_ShapeTree_root
  obtain ⟨rk, hR, rR, hlen, hget, hkey⟩ := X.rt
  have hT := X.t
  have hTR : T ≠ R := fun q => by rw [q, hR] at hT; cases hT
  refine s_var W (v := .int (G.pnum p)) rfl ?_ ?_
  · rcases X.proto hp with ⟨h1, h2, h3⟩ | ⟨fs, h1, h2, h3, h4, h5, h6⟩
    · rw [h2, h3]; tb_start
    · rw [h2, h3]; tb_start
  have hg := hget p hp
  cases ht : G.tr ⟨p, [], true⟩ with
  | some a =>
    rw [ht] at hg
    refine s_if W (z := false) (by tb_start) (s_end ?_)
    exact s_ret W (v := .ref a) (by tb_start) ⟨G, m, a, rfl, X, .refl _ _ _, Nat.le_refl _, Nat.le_succ _, ht⟩
  | none =>
    rw [ht] at hg
    refine s_if W (z := true) (by tb_start) ?_
    refine s_itemE W (we_c W (f := 45) rfl (wes_cons (we_m W (a := T) (C := 101) (f := 70) (by tb_start) X.t rfl rfl (wes_p W rfl ((k_next (n := n + 1) W X.t).mono fun v H1 ⟨hv, hH1⟩ => wes_p W (vs := [.none, G.protoV p]) ?_ ?_)))))
    · subst hH1; tb_start
    subst hv; subst hH1
    refine (k_shape (n := n) W (b := none) rfl).mono fun v H2 ⟨c, l, hv, hc, hl, hcl, hH2⟩ => ?_
    subst hv; subst hH2
    obtain ⟨cT, hc⟩ := upd_none hc
    obtain ⟨lT, hl⟩ := upd_none hl
    have cR : c ≠ R := fun q => by rw [q, hR] at hc; cases hc
    have lR : l ≠ R := fun q => by rw [q, hR] at hl; cases hl
    have Tc := Ne.symm cT; have Tl := Ne.symm lT; have Rc := Ne.symm cR; have Rl := Ne.symm lR; have RT := Ne.symm hTR; have lc := Ne.symm hcl
    have hlen2 : rk.length < 1000000 := by omega
    refine ⟨.ref R, .int (G.pnum p), R, .nd (dset rk (G.pnum p) (.ref c)), by tb_start, by tb_start, put_nd (by tb_start) hlen2, s_end ?_⟩
    refine s_ret W (v := .ref c) (by tb_start) ?_
    have hRl := some_ne hR
    have key := X.grow4 (j := ⟨p, [], true⟩) (c := c) (l := l) (k := R) (o := .nd (dset rk (G.pnum p) (.ref c))) ht hp (by simp) (fun b hb => by simp [Info.back] at hb) hc hl hcl hRl RT (by rw [rR]; trivial) rfl
      ⟨_, by rw [four_app, if_pos rfl], Nat.le_trans (dset_length _ _ _) (by omega), fun q hq => ?_, fun z hz => ?_⟩ (fun i a hi => ?_)
    · exact ⟨_, m + 1, c, rfl, key.1, key.2, Nat.le_succ _, Nat.le_refl _, if_pos rfl⟩
    · rw [dget_dset]
      show _ = Option.map V.ref (if (⟨q, [], true⟩ : Info) = ⟨p, [], true⟩ then some c else G.tr ⟨q, [], true⟩)
      by_cases e : q = p
      · subst e; simp
      · rw [if_neg (fun h => e (X.pnum_inj hq hp h.symm)), hget q hq, if_neg (fun h => e (by injection h))]
    · rw [dget_dset] at hz
      by_cases e : G.pnum p = z
      · exact ⟨p, hp, e.symm⟩
      · rw [if_neg e] at hz; exact hkey z hz
    · refine X.keep4 ht hc hl hi ⟨fun q => ?_, by rw [rR]; exact (by intro q; cases q), by rw [rR]; exact (by intro q; cases q)⟩ (fun ho q => ?_) fun ho k f q => ?_
      · obtain ⟨l', kvs, pv, g1, _⟩ := (X.sh i a hi).ex
        rw [← q, hR] at g1; cases g1
      · have := congrArg Info.op q; simp [Info.shut] at this
      · have := congrArg Info.rows q; simp [Info.add] at this
theorem k_added (W : Facts D) (X : TI T R L m G H) {i : Info} {a : Addr} (hi : G.tr i = some a) (ho : i.op = true) {k : Nat} {f : Int} (hk : k ∉ i.rows.map (·.1)) (hm : m < 900000) : WK D (n + 3) 84 [.ref T, .ref a, .str k, .int f] H (TP T R L m G H (i.add k f)) := by
  refine wk_fn W.ro W.f84 rfl ?_
  unfold b_ShapeTree_added
  obtain ⟨la, kvs, pv, h1, h2, h3, h4, h5, h6, h7⟩ := (X.sh i a hi).ex
  have hT := X.t
  have aT : a ≠ T := fun q => by rw [q, hT] at h1; cases h1
  have laT : la ≠ T := fun q => by rw [q, hT] at h4; cases h4
  have laa : la ≠ a := fun q => by rw [q, h1] at h4; cases h4
  have hg := h6 ho k f
  have ala := Ne.symm laa; have Ta := Ne.symm aT; have Tla := Ne.symm laT
  unfold Gh.fs at h1
  refine s_var W (v := .tup [.str k, .int f]) rfl (by tb_start) ?_
  cases ht : G.tr (i.add k f) with
  | some b =>
    rw [ht] at hg
    refine s_if W (z := false) (by tb_start) (s_end ?_)
    exact s_ret W (v := .ref b) (by tb_start) ⟨G, m, b, rfl, X, .refl _ _ _, Nat.le_refl _, Nat.le_succ _, ht⟩
  | none =>
    rw [ht] at hg
    refine s_if W (z := true) (by tb_start) ?_
    refine s_varE rfl (we_c W (f := 45) rfl (wes_cons (we_m W (a := T) (C := 101) (f := 70) (by tb_start) X.t rfl rfl (wes_p W rfl ((k_next (n := n + 1) W X.t).mono fun v H1 ⟨hv, hH1⟩ => wes_p W (vs := [.ref a, G.protoV i.p]) ?_ ?_)))))
    · subst hH1; tb_start
    subst hv; subst hH1
    refine (k_shape (n := n) W (b := some (a, _, (i.rows.length : Int), i.op)) ⟨rfl, (upd_ne aT).trans h1, by simp, by simp⟩).mono fun v H2 ⟨c, l, hv, hc, hl, hcl, hH2⟩ => ?_
    subst hv; subst hH2
    obtain ⟨cT, hc⟩ := upd_none hc
    obtain ⟨lT, hl⟩ := upd_none hl
    have ca := Ne.symm (ne_of_live (some_ne h1) hc)
    have cla := Ne.symm (ne_of_live (some_ne h4) hc)
    have la' := Ne.symm (ne_of_live (some_ne h1) hl)
    have lla := Ne.symm (ne_of_live (some_ne h4) hl)
    have lc := Ne.symm hcl
    have ac := Ne.symm ca; have lac := Ne.symm cla; have al := Ne.symm la'; have lal := Ne.symm lla
    refine s_attrU W (v := .str k) (by tb_start) (by tb_start) rfl (len_ok rfl) ?_
    refine s_attrU W (v := .int f) (by tb_start) (by tb_start) rfl (len_ok rfl) ?_
    refine s_attrU W (v := .int (i.rows.length + 1)) (by tb_start) (by tb_start) rfl (len_ok rfl) ?_
    have hlen2 : kvs.length < 1000000 := by omega
    refine s_itemE W (we_p W (v := .ref c) (by tb_start) ⟨.ref la, .tup [.str k, .int f], la, .td (dset kvs [.s k, .i f] (.ref c)), by tb_start, by tb_start, put_td (by tb_start) rfl hlen2, s_end ?_⟩)
    refine s_ret W (v := .ref c) (by tb_start) ?_
    have hpb := X.pb i a hi
    have hnd := X.nd i a hi
    have key := X.grow4 (j := i.add k f) (c := c) (l := l) (k := la) (o := .td (dset kvs [.s k, .i f] (.ref c))) ht hpb (by
        simp only [Info.add, List.map_append, List.map_cons, List.map_nil]
        rw [List.nodup_append]
        refine ⟨hnd, by simp, fun x hx y hy => ?_⟩
        simp at hy; subst hy; exact fun q => hk (by rw [← q]; exact hx)) (fun b hb => by rw [back_add i k f ho] at hb; cases hb; exact ⟨a, hi⟩) hc hl hcl (some_ne h4) laT (by rw [h3]; trivial)
      (sh := .inst 45 [(8, .int ((m + 1 : Nat) : Int)), (9, .ref a), (10, G.protoV i.p), (11, .str k), (12, .int f), (13, .int (i.rows.length + 1)), (14, .bool i.op), (15, .ref l), (16, .none), (17, .none)])
      (by
        have e1 : G.beforeV (i.add k f) = .ref a := by unfold Gh.beforeV; rw [back_add i k f ho]; simp [hi, optR]
        rw [e1]
        simp [Info.add, Info.keyV, Info.flag, ho]) ?_ (fun i' a' hi' => ?_)
    · exact ⟨_, m + 1, c, rfl, key.1, key.2, Nat.le_succ _, Nat.le_refl _, if_pos rfl⟩
    · obtain ⟨rk, hR, rR, hlen, hget, hkey⟩ := X.rt
      refine ⟨rk, (X.four_same hc hl (some_ne hR) (fun q => by rw [q, h3] at rR; cases rR) (fun q => by rw [q, hT] at hR; cases hR)).trans hR, by omega, fun p hp => ?_, hkey⟩
      rw [hget p hp]
      show _ = Option.map V.ref (if (⟨p, [], true⟩ : Info) = i.add k f then some c else G.tr ⟨p, [], true⟩)
      rw [if_neg (fun h => by have := congrArg Info.rows h; simp [Info.add] at this)]
    · by_cases e : i' = i
      · subst e
        rw [hi] at hi'; cases hi'
        have ro : ∀ b, H b ≠ none → (G.grow (i'.add k f) c l m).ro b = G.ro b := fun b hb => by
          show (if b = c then _ else if b = l then _ else G.ro b) = _
          rw [if_neg (ne_of_live hb hc), if_neg (ne_of_live hb hl)]
        refine ⟨la, dset kvs [.s k, .i f] (.ref c), pv, ?_, (ro _ (some_ne h1)).trans h2, (ro _ (some_ne h4)).trans h3, by rw [four_app, if_pos rfl], Nat.le_trans (dset_length _ _ _) (by omega), fun _ k' f' => ?_, ?_⟩
        · rw [X.four_same hc hl (some_ne h1) (Ne.symm laa) aT, h1, X.fs_same ht hi (fun _ q => by have := congrArg Info.op q; simp [Info.shut, Info.add] at this)]; rfl
        · rw [dget_dset, h6 ho k' f']
          show _ = Option.map V.ref (if i'.add k' f' = i'.add k f then some c else G.tr (i'.add k' f'))
          by_cases e : k = k' ∧ f = f'
          · obtain ⟨rfl, rfl⟩ := e; simp
          · rw [if_neg (fun q => e (by simpa using q)), if_neg (fun q => e (by have := congrArg Info.rows q; simp [Info.add] at this; exact ⟨this.1.symm, this.2.symm⟩))]
        · rcases h7 with h7 | ⟨d, d1, d2, d3⟩
          · exact .inl h7
          · exact .inr ⟨d, d1, (ro d (some_ne d3)).trans d2, (X.four_same hc hl (some_ne d3) (fun q => by rw [q, h3] at d2; cases d2) (fun q => by rw [q, hT] at d3; cases d3)).trans d3⟩
      · obtain ⟨l', kvs', pv', g1, g2, g3, g4, _⟩ := (X.sh i' a' hi').ex
        refine X.keep4 ht hc hl hi' ⟨fun q => ?_, fun q => ?_, fun q => ?_⟩ (fun _ q => ?_) fun ho' k' f' q => ?_
        · rw [← q, h3] at g2; cases g2
        · rw [h3] at q; injection q with q; exact e q.symm
        · rw [h3] at q; cases q
        · have := congrArg Info.op q; simp [Info.shut, Info.add] at this
        · obtain ⟨p1, r1, o1⟩ := i'; obtain ⟨p2, r2, o2⟩ := i
          simp only [Info.add, Info.mk.injEq] at q
          obtain ⟨q1, q2, _⟩ := q
          have := List.append_inj_left' q2 (by simp)
          dsimp only at ho ho'
          exact e (by rw [q1, this, ho, ho'])
theorem upd_swap (H : AH) {c a : Addr} (h : a ≠ c) (sh sh' o : O) : upd (upd (upd H c sh) a o) c sh' = upd (upd H c sh') a o := by
  funext b
  simp only [upd]
  by_cases h1 : b = c
  · subst h1; simp [Ne.symm h]
  · simp [h1]
theorem k_shut (W : Facts D) (X : TI T R L m G H) {i : Info} {a : Addr} (hi : G.tr i = some a) (hm : m < 900000) : WK D (n + 3) 91 [.ref T, .ref a] H (TP T R L m G H i.shut) := by
  refine wk_fn W.ro W.f91 rfl ?_
  unfold b_ShapeTree_shut
  obtain ⟨la, kvs, pv, h1, h2, h3, h4, h5, h6, h7⟩ := (X.sh i a hi).ex
  have hT := X.t
  have aT : a ≠ T := fun q => by rw [q, hT] at h1; cases h1
  have laT : la ≠ T := fun q => by rw [q, hT] at h4; cases h4
  have laa : la ≠ a := fun q => by rw [q, h1] at h4; cases h4
  have ala := Ne.symm laa; have Ta := Ne.symm aT; have Tla := Ne.symm laT
  unfold Gh.fs at h1
  cases ho : i.op with
  | false =>
    rw [ho] at h1
    have e : i.shut = i := by obtain ⟨p, r, o⟩ := i; cases ho; rfl
    refine s_if W (z := true) (by tb_start) ?_
    exact s_ret W (v := .ref a) (by tb_start) ⟨G, m, a, rfl, X, .refl _ _ _, Nat.le_refl _, Nat.le_succ _, by rw [e]; exact hi⟩
  | true =>
    rw [ho] at h1
    have hcl : G.closedV i = optR (G.tr i.shut) := by unfold Gh.closedV; rw [ho]; rfl
    rw [hcl] at h1
    refine s_if W (z := false) (by tb_start) (s_end ?_)
    cases ht : G.tr i.shut with
    | some b =>
      rw [ht] at h1
      dsimp only [optR] at h1
      refine s_if W (z := false) (by tb_start) (s_end ?_)
      exact s_ret W (v := .ref b) (by tb_start) ⟨G, m, b, rfl, X, .refl _ _ _, Nat.le_refl _, Nat.le_succ _, ht⟩
    | none =>
      rw [ht] at h1
      dsimp only [optR] at h1
      refine s_if W (z := true) (by tb_start) ?_
      refine s_attrE W (we_c W (f := 45) rfl (wes_cons (we_m W (a := T) (C := 101) (f := 70) (by tb_start) X.t rfl rfl (wes_p W rfl ((k_next (n := n + 1) W X.t).mono fun v H1 ⟨hv, hH1⟩ => wes_p W (vs := [.ref a, G.protoV i.p]) ?_ ?_)))))
      · subst hH1; tb_start
      subst hv; subst hH1
      refine (k_shape (n := n) W (b := some (a, _, (i.rows.length : Int), true)) ⟨rfl, (upd_ne aT).trans h1, by simp, by simp⟩).mono fun v H2 ⟨c, l, hv, hc, hl, hcl', hH2⟩ => ?_
      subst hv; subst hH2
      obtain ⟨cT, hc⟩ := upd_none hc
      obtain ⟨lT, hl⟩ := upd_none hl
      have ca := Ne.symm (ne_of_live (some_ne h1) hc)
      have la' := Ne.symm (ne_of_live (some_ne h1) hl)
      have lc := Ne.symm hcl'
      have ac := Ne.symm ca; have al := Ne.symm la'
      refine ⟨a, 45, _, by tb_start, (upd_ne ac).trans ((upd_ne al).trans ((upd_ne aT).trans h1)), rfl, len_ok rfl, ?_⟩
      refine s_attr W (v := .bool false) (a := c) (by tb_start) (by tb_start) ((upd_ne ca).trans (upd_self _ _ _)) rfl (len_ok rfl) (s_end ?_)
      rw [upd_swap _ ac]
      refine s_ret W (v := .ref c) (by tb_start) ?_
      have b1 := back_shut i ho
      have key := X.grow4 (j := i.shut) (c := c) (l := l) (k := a) (o := .inst 45 ((G.grow i.shut c l m).fs i la pv)) ht (X.pb i a hi) (X.nd i a hi) (fun b hb => by rw [b1] at hb; cases hb; exact ⟨a, hi⟩) hc hl hcl' (some_ne h1) aT (by rw [h2]; trivial)
        (sh := .inst 45 [(8, .int ((m + 1 : Nat) : Int)), (9, .ref a), (10, G.protoV i.p), (11, .none), (12, .int 0), (13, .int i.rows.length), (14, .bool false), (15, .ref l), (16, .none), (17, .none)])
        (by
          have e1 : G.beforeV i.shut = .ref a := by unfold Gh.beforeV; rw [b1]; simp [hi, optR]
          rw [e1]
          simp [Info.shut, Info.keyV, Info.flag]) ?_ (fun i' a' hi' => ?_)
      · have ef : O.inst 45 ((G.grow i.shut c l m).fs i la pv) = .inst 45 (fput [(8, V.int (G.nu i)), (9, G.beforeV i), (10, G.protoV i.p), (11, i.keyV), (12, V.int i.flag), (13, V.int i.rows.length), (14, V.bool true), (15, V.ref la), (16, V.none), (17, pv)] 16 (V.ref c)) := by
          have hne : i ≠ i.shut := fun e => by have := congrArg Info.op e; rw [ho] at this; cases this
          have e1 : (G.grow i.shut c l m).nu i = G.nu i := if_neg hne
          have e2 : (G.grow i.shut c l m).beforeV i = G.beforeV i := by
            unfold Gh.beforeV
            cases hb : i.back with
            | none => rfl
            | some b =>
              obtain ⟨x, hx⟩ := X.bk i a b hi hb
              have : b ≠ i.shut := fun e => by rw [e, ht] at hx; cases hx
              show optR (if b = i.shut then _ else _) = _
              rw [if_neg this]
          have e3 : (G.grow i.shut c l m).closedV i = .ref c := by
            unfold Gh.closedV
            rw [ho]
            show optR (if i.shut = i.shut then _ else _) = _
            rw [if_pos rfl]; rfl
          unfold Gh.fs
          rw [e1, e2, e3, ho]
          simp [fput]; rfl
        rw [ef] at key
        exact ⟨_, m + 1, c, rfl, key.1, key.2, Nat.le_succ _, Nat.le_refl _, if_pos rfl⟩
      · obtain ⟨rk, hR, rR, hlen, hget, hkey⟩ := X.rt
        refine ⟨rk, (X.four_same hc hl (some_ne hR) (fun q => by rw [q, h1] at hR; cases hR) (fun q => by rw [q, hT] at hR; cases hR)).trans hR, by omega, fun p hp => ?_, hkey⟩
        rw [hget p hp]
        show _ = Option.map V.ref (if (⟨p, [], true⟩ : Info) = i.shut then some c else G.tr ⟨p, [], true⟩)
        rw [if_neg (fun h => by have := congrArg Info.op h; simp [Info.shut] at this)]
      · by_cases e : i' = i
        · subst e
          rw [hi] at hi'; cases hi'
          have ro : ∀ b, H b ≠ none → (G.grow i'.shut c l m).ro b = G.ro b := fun b hb => by
            show (if b = c then _ else if b = l then _ else G.ro b) = _
            rw [if_neg (ne_of_live hb hc), if_neg (ne_of_live hb hl)]
          refine ⟨la, kvs, pv, by rw [four_app, if_pos rfl], (ro _ (some_ne h1)).trans h2, (ro _ (some_ne h4)).trans h3, (X.four_same hc hl (some_ne h4) laa laT).trans h4, Nat.le_succ_of_le h5, fun _ k' f' => ?_, ?_⟩
          · rw [h6 ho k' f']
            show _ = Option.map V.ref (if i'.add k' f' = i'.shut then some c else G.tr (i'.add k' f'))
            rw [if_neg (fun q => by have := congrArg Info.op q; simp [Info.add, Info.shut] at this)]
          · rcases h7 with h7 | ⟨d, d1, d2, d3⟩
            · exact .inl h7
            · exact .inr ⟨d, d1, (ro d (some_ne d3)).trans d2, (X.four_same hc hl (some_ne d3) (fun q => by rw [q, h1] at d3; cases d3) (fun q => by rw [q, hT] at d3; cases d3)).trans d3⟩
        · obtain ⟨l', kvs', pv', g1, g2, g3, g4, _⟩ := (X.sh i' a' hi').ex
          refine X.keep4 ht hc hl hi' ⟨fun q => ?_, fun q => ?_, fun q => ?_⟩ (fun ho' q => ?_) fun ho' k' f' q => ?_
          · rw [← q, h2] at g2; injection g2 with g2; exact e g2.symm
          · rw [h2] at q; cases q
          · rw [h2] at q; cases q
          · obtain ⟨p1, r1, o1⟩ := i'; obtain ⟨p2, r2, o2⟩ := i
            simp only [Info.shut, Info.mk.injEq] at q
            dsimp only at ho ho'
            exact e (by rw [q.1, q.2.1, ho, ho'])
          · have := congrArg Info.op q; simp [Info.add, Info.shut] at this
end



section
variable {D : Amb} {n : Nat} {T R : Addr} {L : Int} {m : Nat} {G : Gh} {H H' : AH}
noncomputable def rowsV (rows : List (Nat × Int)) : List V := rows.map fun r => .tup [.str r.1, .int r.2]

structure Chain (G : Gh) (H : AH) : Prop where
  sh : ∀ i a, G.tr i = some a → ∃ l pv, H a = some (.inst 45 (G.fs i l pv))
  bk : ∀ i a j, G.tr i = some a → i.back = some j → ∃ b, G.tr j = some b
theorem TI.chain (X : TI T R L m G H) : Chain G H := ⟨fun i a h => let ⟨l, kvs, pv, h1, _, _, _, _, _, _⟩ := (X.sh i a h).ex; ⟨l, pv, h1⟩, X.bk⟩
theorem Chain.back_cases (X : Chain G H) {j : Info} {a : Addr} (hj : G.tr j = some a) :
    (j.op = false ∧ j.keyV = .none ∧ ∃ b, G.beforeV j = .ref b ∧ G.tr ⟨j.p, j.rows, true⟩ = some b) ∨ (j.op = true ∧ j.rows = [] ∧ j.keyV = .none ∧ G.beforeV j = .none) ∨
    (j.op = true ∧ ∃ r k f b, j.rows = r ++ [(k, f)] ∧ j.keyV = .str k ∧ j.flag = f ∧ G.beforeV j = .ref b ∧ G.tr ⟨j.p, r, true⟩ = some b) := by
  cases ho : j.op with
  | false =>
    have hb : j.back = some ⟨j.p, j.rows, true⟩ := by unfold Info.back; rw [ho]; rfl
    obtain ⟨b, hb'⟩ := X.bk j a _ hj hb
    exact .inl ⟨rfl, by unfold Info.keyV; rw [ho]; rfl, b, by unfold Gh.beforeV; rw [hb]; simp [hb', optR], hb'⟩
  | true =>
    rcases List.eq_nil_or_concat j.rows with h | ⟨r, ⟨k, f⟩, h0⟩
    · exact .inr (.inl ⟨rfl, h, by unfold Info.keyV; rw [ho, h]; rfl, by unfold Gh.beforeV Info.back; rw [ho, h]; rfl⟩)
    · have h : j.rows = r ++ [(k, f)] := by rw [h0, List.concat_eq_append]
      have hb : j.back = some ⟨j.p, r, true⟩ := by unfold Info.back; rw [ho, h]; simp
      obtain ⟨b, hb'⟩ := X.bk j a _ hj hb
      have hl : j.rows.getLast? = some (k, f) := by rw [h]; simp
      exact .inr (.inr ⟨rfl, r, k, f, b, h, by unfold Info.keyV; rw [ho, hl]; rfl, by unfold Info.flag; rw [ho, hl]; rfl, by unfold Gh.beforeV; rw [hb]; simp [hb', optR], hb'⟩)
inductive NewL (H : AH) (ys : List V) (v : V) (H' : AH) : Prop
  | mk (b : Addr) : v = .ref b → H b = none → H' = upd H b (.list ys) → NewL H ys v H'
theorem k_rows (W : Facts D) (X : Chain G H) {i : Info} {a : Addr} (hi : G.tr i = some a) (hlen : i.rows.length < 100000) : WK D (n + 1) 35 [.ref a] H (NewL H (rowsV i.rows)) := by
  refine wk_fn W.ro W.f35 rfl ?_
  unfold b_Shape_rows
  refine s_varE rfl (we_list (wes_nil ⟨by simp, fun b hb => ?_⟩))
  refine s_var W (v := .ref a) rfl (by tb_start) ?_
  let J : Nat → Loc → AH → Prop := fun k ρ H' => ρ 18 = some (.ref b) ∧ ∃ rest, H' = upd H b (.list (rowsV rest).reverse) ∧ rest.length ≤ i.rows.length ∧ ((ρ 19 = some .none ∧ rest = i.rows ∧ k = 0) ∨ ∃ j a', ρ 19 = some (.ref a') ∧ G.tr j = some a' ∧ j.rows ++ rest = i.rows ∧ k = 1 + 2 * j.rows.length + (if j.op then 0 else 1))
  refine ws_cons (w1_while J (fun k ρ H' hJ => ?_) _ ⟨by tb_start, [], rfl, Nat.zero_le _, .inr ⟨i, a, by tb_start, hi, by simp, rfl⟩⟩)
  obtain ⟨h18, rest, rfl, hrl, hJ⟩ := hJ
  rcases hJ with ⟨h19, rfl, hk⟩ | ⟨j, a', h19, hj, hr, hk⟩
  · refine wb_p W (b := false) (by tb_start) ?_
    rw [if_neg (by decide)]
    refine s_exE (we_reverse W.ro (we_p W (v := .ref b) (by tb_start) ⟨b, _, rfl, upd_self _ _ _, by simp [rowsV]; omega, ?_⟩))
    rw [upd_upd, List.reverse_reverse]
    exact s_ret W (v := .ref b) (by tb_start) ⟨b, rfl, hb, rfl⟩
  · refine wb_p W (b := true) (by tb_start) ?_
    rw [if_pos rfl]
    obtain ⟨l, pv, h1⟩ := X.sh j a' hj
    have hab := ne_of_live (some_ne h1) hb
    have hba := Ne.symm hab
    have hlr : (rowsV rest).reverse.length < 1000000 := by simp [rowsV]; omega
    unfold Gh.fs at h1
    rcases X.back_cases hj with ⟨ho, hkv, b', hbv, hb'⟩ | ⟨ho, hrows, hkv, hbv⟩ | ⟨ho, r, kk, ff, b', hrows, hkv, hfl, hbv, hb'⟩
    · rw [hkv, hbv] at h1
      refine s_if W (z := false) (by tb_start) (s_end ?_)
      refine s_var W (v := .ref b') rfl (by tb_start) (ws_nil ⟨1 + 2 * j.rows.length, by rw [hk, ho]; simp, by tb_start, rest, rfl, hrl, .inr ⟨_, b', by tb_start, hb', hr, by simp⟩⟩)
    · rw [hkv, hbv] at h1
      refine s_if W (z := false) (by tb_start) (s_end ?_)
      refine s_var W (v := .none) rfl (by tb_start) (ws_nil ⟨0, by omega, by tb_start, rest, rfl, hrl, .inl ⟨by tb_start, by rw [hrows] at hr; exact hr, rfl⟩⟩)
    · rw [hkv, hbv, hfl] at h1
      refine s_if W (z := true) (by tb_start) ?_
      rw [if_pos rfl]
      refine s_exE (we_append W.ro (we_p W (v := .ref b) (by tb_start) ⟨b, _, rfl, upd_self _ _ _, we_p W (v := .tup [.str kk, .int ff]) (by tb_start) ⟨_, upd_self _ _ _, hlr, s_end ?_⟩⟩))
      rw [upd_upd]
      have e : (rowsV rest).reverse ++ [V.tup [.str kk, .int ff]] = (rowsV ((kk, ff) :: rest)).reverse := by simp [rowsV]
      rw [e]
      have hr2 : r ++ (kk, ff) :: rest = i.rows := by rw [← hr, hrows]; simp
      refine s_var W (v := .ref b') rfl (by tb_start) (ws_nil ⟨1 + 2 * r.length, by rw [hk, ho, hrows]; simp <;> omega, by tb_start, (kk, ff) :: rest, rfl, by rw [← hr2]; simp, .inr ⟨_, b', by tb_start, hb', hr2, by simp⟩⟩)
theorem dset_new {K α : Type} [DecidableEq K] (kvs : List (K × α)) (k : K) (v : α) (h : k ∉ kvs.map (·.1)) : dset kvs k v = kvs ++ [(k, v)] := by
  unfold dset
  rw [if_neg]
  intro q
  obtain ⟨x, hx, e⟩ := List.any_eq_true.mp q
  exact h (List.mem_map.mpr ⟨x, hx, by simpa using e⟩)
theorem plOf_keys (rows : List (Nat × Int)) : (plOf rows).map (·.1) = rows.map (·.1) := by
  unfold plOf
  rw [List.map_map]
  have : ((fun x : Nat × V => x.1) ∘ fun r : (Nat × Int) × Nat => (r.1.1, V.tup [.int (r.2 : Int), .int r.1.2])) = (fun r : Nat × Int => r.1) ∘ (fun r : (Nat × Int) × Nat => r.1) := rfl
  rw [this, ← List.map_map]
  congr 1
  exact List.zipIdx_map_fst ..
theorem plOf_succ {rows : List (Nat × Int)} {i : Nat} {k : Nat} {f : Int} (hn : (rows.map (·.1)).Nodup) (h : rows[i]? = some (k, f)) : dset (plOf (rows.take i)) k (.tup [.int (i : Int), .int f]) = plOf (rows.take (i + 1)) := by
  have hi := (List.getElem?_eq_some_iff.mp h).1
  have hl : (rows.take i).length = i := by rw [List.length_take]; omega
  rw [dset_new]
  · rw [List.take_add_one, h]
    unfold plOf
    rw [Option.toList_some, List.zipIdx_append, List.map_append]
    simp [hl]
  · rw [plOf_keys]
    intro q
    have h2 : rows.map (·.1) = (rows.take i).map (·.1) ++ (rows.drop i).map (·.1) := by rw [← List.map_append, List.take_append_drop]
    rw [h2, List.nodup_append] at hn
    refine hn.2.2 k q k ?_ rfl
    refine List.mem_map.mpr ⟨(k, f), ?_, rfl⟩
    refine List.mem_of_getElem? (i := 0) ?_
    rw [List.getElem?_drop]; simpa using h
noncomputable def placeV (rows : List (Nat × Int)) (k : Nat) : V := (dget (plOf rows) k).getD .none

theorem TI.turn (X : TI T R L m G H) {ro : Addr → Role} (hT : H' T = H T) (hR : H' R = H R) (hr : ∀ a, H a ≠ none → ro a = G.ro a) (hf : ∀ a, H' a = none → ro a = .free) (hnt : ∀ a, H a ≠ none → ¬ isTr (G.ro a) → H' a = H a) (hlv : ∀ a, H a ≠ none → H' a ≠ none)
    (hS : ∀ i a, G.tr i = some a → ShOk { G with ro := ro } m H' i a) : TI T R L m { G with ro := ro } H' ∧ Ext isTr G H { G with ro := ro } H' := by
  refine ⟨⟨hT.trans X.t, (hr T (some_ne X.t)).trans X.rT, ?_, hS, X.pb, X.bk, X.nd, X.nu, X.nui, X.sn, X.sni, fun j hj => ?_, hf⟩, ⟨fun a ha => ⟨hlv a ha, hr a ha, hnt a ha⟩, fun i a h => ⟨h, rfl⟩, rfl, rfl, rfl⟩⟩
  · obtain ⟨rk, g1, g2, g3, g4, g5⟩ := X.rt
    exact ⟨rk, hR.trans g1, (hr R (some_ne g1)).trans g2, g3, g4, g5⟩
  · obtain ⟨q1, fs, q2, q3⟩ := X.st j hj
    exact ⟨(hr _ (some_ne q2)).trans q1, fs, (hnt _ (some_ne q2) (by rw [q1]; exact id)).trans q2, q3⟩
theorem listItems_self {a : Addr} {xs : List V} : listItems a (upd H a (.list xs)) = some xs := by unfold listItems; rw [upd_self]
theorem k_place (W : Facts D) (X : TI T R L m G H) {i : Info} {a : Addr} (hi : G.tr i = some a) (hlen : i.rows.length < 100000) (k : Nat) : WK D (n + 2) 42 [.ref a, .str k] H fun v H' =>
    ∃ ro, TI T R L m { G with ro := ro } H' ∧ Ext isTr G H { G with ro := ro } H' ∧ v = placeV i.rows k := by
  refine wk_fn W.ro W.f42 rfl ?_
  unfold b_Shape_place
  obtain ⟨la, kvs, pv, h1, h2, h3, h4, h5, h6, h7⟩ := (X.sh i a hi).ex
  rcases h7 with rfl | ⟨d, rfl, d2, d3⟩
  · have hfs := h1
    unfold Gh.fs at h1
    refine s_if W (z := true) (by tb_start) ?_
    rw [if_pos rfl]
    refine s_attrE W (we_dict0 (.sd []) rfl fun d hd => ?_)
    have ad := ne_of_live (some_ne h1) hd
    have da := Ne.symm ad
    refine ⟨a, 45, _, by tb_start, (upd_ne ad).trans h1, rfl, len_ok rfl, ?_⟩
    have ef : fput [(8, V.int (G.nu i)), (9, G.beforeV i), (10, G.protoV i.p), (11, i.keyV), (12, V.int i.flag), (13, V.int i.rows.length), (14, V.bool i.op), (15, V.ref la), (16, G.closedV i), (17, V.none)] 17 (V.ref d) = G.fs i la (.ref d) := by simp [fput, Gh.fs]
    rw [ef]
    have Ch : Chain G (upd (upd H d (.sd [])) a (.inst 45 (G.fs i la (.ref d)))) := by
      refine ⟨fun j b hj => ?_, X.bk⟩
      by_cases e : b = a
      · subst e
        obtain ⟨l', _, pv', g1, g2, _⟩ := (X.sh j b hj).ex
        rw [h2] at g2; injection g2 with g2; subst g2
        exact ⟨la, .ref d, upd_self _ _ _⟩
      · obtain ⟨l', _, pv', g1, g2, _⟩ := (X.sh j b hj).ex
        exact ⟨l', pv', (upd_ne e).trans ((upd_ne (ne_of_live (some_ne g1) hd)).trans g1)⟩
    refine ws_cons (w1_for_enum W.toFactsR.enum (we_m W (a := a) (C := 45) (f := 35) (by tb_start) (upd_self _ _ _) rfl rfl (wes_p W rfl ((k_rows (n := n) W Ch hi hlen).mono fun v H2 ⟨b, hv, hb, hH2⟩ => ?_))))
    obtain ⟨hba, hb⟩ := upd_none hb
    obtain ⟨hbd, hb⟩ := upd_none hb
    have hab := Ne.symm hba
    have hdb := Ne.symm hbd
    refine ⟨b, rowsV i.rows, fun x ρ H' => ρ 7 = some (.ref a) ∧ ρ 11 = some (.str k) ∧ H' = upd (upd (upd H d (.sd (plOf (i.rows.take x)))) a (.inst 45 (G.fs i la (.ref d)))) b (.list (rowsV i.rows)), hv, by rw [hH2, upd_self], ⟨fun x ρ H' hJ => ?_, fun x ρ H' v hx hJ => ?_, fun ρ H' hJ => ?_⟩, by tb_start, by tb_start, by rw [hH2]; rfl⟩
    · obtain ⟨_, _, rfl⟩ := hJ
      show Option.map enumV (listItems b _) = _
      rw [listItems_self]; rfl
    · obtain ⟨h71, h72, rfl⟩ := hJ
      obtain ⟨y, hy, rfl⟩ := enumV_get hx
      unfold rowsV at hy
      rw [List.getElem?_map] at hy
      obtain ⟨⟨kk, ff⟩, hr, rfl⟩ := Option.map_eq_some_iff.mp hy
      refine ⟨_, rfl, ?_⟩
      have hlt := (List.getElem?_eq_some_iff.mp hr).1
      have hpl : (plOf (i.rows.take x)).length < 1000000 := by unfold plOf; simp; omega
      unfold Gh.fs
      refine s_itemE W (we_p W (v := .tup [.int x, .int ff]) (by tb_start) ⟨.ref d, .str kk, d, .sd (plOf (i.rows.take (x + 1))), ?_, ?_, ?_, ws_nil ⟨?_, ?_, ?_⟩⟩)
      · tb_start
      · tb_start
      · simp [putV, putO, upd_app, hdb, da, hpl, plOf_succ (X.nd i a hi) hr]
      · tb_start
      · tb_start
      · funext z
        simp only [upd]
        by_cases e1 : z = d
        · subst e1; simp [hdb, da]
        · simp [e1]
    · obtain ⟨h71, h72, rfl⟩ := hJ
      have hln : (enumV (rowsV i.rows)).length = i.rows.length := by rw [enumV_len]; simp [rowsV]
      rw [hln, List.take_length]
      have hroa : ∀ z, H z ≠ none → z ≠ d ∧ z ≠ b := fun z hz => ⟨ne_of_live hz hd, ne_of_live hz hb⟩
      have app : ∀ z, H z ≠ none → z ≠ a → upd (upd (upd H d (.sd (plOf i.rows))) a (.inst 45 (G.fs i la (.ref d)))) b (.list (rowsV i.rows)) z = H z := fun z hz hza => by
        rw [upd_ne (hroa z hz).2, upd_ne hza, upd_ne (hroa z hz).1]
      have apa : upd (upd (upd H d (.sd (plOf i.rows))) a (.inst 45 (G.fs i la (.ref d)))) b (.list (rowsV i.rows)) a = some (.inst 45 (G.fs i la (.ref d))) := by rw [upd_ne hab, upd_self]
      have apd : upd (upd (upd H d (.sd (plOf i.rows))) a (.inst 45 (G.fs i la (.ref d)))) b (.list (rowsV i.rows)) d = some (.sd (plOf i.rows)) := by rw [upd_ne hdb, upd_ne da, upd_self]
      obtain ⟨rk, hR, rR, _⟩ := X.rt
      have hTa : T ≠ a := fun q => by rw [← q, X.rT] at h2; cases h2
      have hRa : R ≠ a := fun q => by rw [← q, rR] at h2; cases h2
      have key := X.turn (ro := fun z => if z = d then .places i else G.ro z) (H' := upd (upd (upd H d (.sd (plOf i.rows))) a (.inst 45 (G.fs i la (.ref d)))) b (.list (rowsV i.rows)))
        (app T (some_ne X.t) hTa) (app R (some_ne hR) hRa) (fun z hz => if_neg (hroa z hz).1) (fun z hz => ?_) (fun z hz hr => app z hz fun q => hr (by rw [q, h2]; trivial)) (fun z hz => ?_) (fun i' a' hi' => ?_)
      · refine s_end (s_ret W (v := placeV i.rows k) ?_ ⟨_, key.1, key.2, rfl⟩)
        have apd' := apd
        unfold Gh.fs at apa apd' ⊢
        tb_start
      · by_cases e : z = d
        · rw [e, apd] at hz; cases hz
        · rw [if_neg e]
          obtain ⟨_, hz⟩ := upd_none hz
          obtain ⟨_, hz⟩ := upd_none hz
          obtain ⟨_, hz⟩ := upd_none hz
          exact X.fr z hz
      · by_cases e : z = a
        · rw [e, apa]; simp
        · rw [app z hz e]; exact hz
      · by_cases e : i' = i
        · subst e
          rw [hi] at hi'; cases hi'
          exact ⟨la, kvs, .ref d, apa, (if_neg ad).trans h2, (if_neg (ne_of_live (some_ne h4) hd)).trans h3, (app la (some_ne h4) fun q => by rw [q, hfs] at h4; cases h4).trans h4, h5, h6, .inr ⟨d, rfl, if_pos rfl, apd⟩⟩
        · refine (X.sh i' a' hi').keep (Nat.le_refl _) (fun z hz => if_neg (hroa z hz).1) (fun z hz hr => app z hz fun q => ?_) (fun _ _ => rfl) (fun _ _ _ => rfl)
          obtain ⟨l', kvs', pv', g1, g2, _⟩ := (X.sh i' a' hi').ex
          rw [q, h2] at hr
          rcases hr with hr | hr | hr
          · rw [← hr, h2] at g2; injection g2 with g2; exact e g2.symm
          · cases hr
          · cases hr
  · unfold Gh.fs at h1
    refine s_if W (z := false) (by tb_start) (s_end ?_)
    exact s_ret W (v := placeV i.rows k) (by tb_start) ⟨G.ro, X, .refl _ _ _, rfl⟩
end



section
variable {D : Amb} {n : Nat} {T R : Addr} {L : Int} {m : Nat} {G : Gh} {H H' : AH}
inductive TPk (T R : Addr) (L : Int) (m c : Nat) (G : Gh) (H : AH) (i : Info) (v : V) (H' : AH) : Prop
  | mk (G' : Gh) (m' : Nat) (a : Addr) : v = .ref a → TI T R L m' G' H' → Ext isTr G H G' H' → m ≤ m' → m' ≤ m + c → G'.tr i = some a → TPk T R L m c G H i v H'
theorem nodup_take {rows : List (Nat × Int)} {i k : Nat} {f : Int} (hn : (rows.map (·.1)).Nodup) (h : rows[i]? = some (k, f)) : k ∉ (rows.take i).map (·.1) := by
  intro q
  have h2 : rows.map (·.1) = (rows.take i).map (·.1) ++ (rows.drop i).map (·.1) := by rw [← List.map_append, List.take_append_drop]
  rw [h2, List.nodup_append] at hn
  refine hn.2.2 k q k ?_ rfl
  refine List.mem_map.mpr ⟨(k, f), ?_, rfl⟩
  refine List.mem_of_getElem? (i := 0) ?_
  rw [List.getElem?_drop]; simpa using h
theorem k_built (W : Facts D) (X : TI T R L m G H) {p : Nat} (hp : p ≤ G.ns) {b : Addr} {rows : List (Nat × Int)} (hb : H b = some (.list (rowsV rows))) (hrb : ¬ isTr (G.ro b)) (hn : (rows.map (·.1)).Nodup) (op : Bool) (hm : m + rows.length < 800000) :
    WK D (n + 4) 98 [.ref T, .ref b, G.protoV p, .bool op] H (TPk T R L m (rows.length + 2) G H ⟨p, rows, op⟩) := by
  refine wk_fn W.ro W.f98 rfl ?_
  unfold b_ShapeTree_built
  refine s_varE rfl (we_m W (a := T) (C := 101) (f := 77) (by tb_start) X.t rfl rfl (wes_p W (vs := [G.protoV p]) (by tb_start) ((k_root (n := n) W X hp (by omega)).mono fun v H1 ⟨G1, m1, a1, hv, X1, E1, g1, g2, g3⟩ => ?_)))
  subst hv
  have hlen : (rowsV rows).length = rows.length := by simp [rowsV]
  refine ws_cons (w1_for_list (we_p W (v := .ref b) (by tb_start) ⟨b, rowsV rows, fun x ρ H' => ρ 7 = some (.ref T) ∧ ρ 14 = some (.bool op) ∧ ∃ G' m' a, ρ 19 = some (.ref a) ∧ TI T R L m' G' H' ∧ Ext isTr G H G' H' ∧ m ≤ m' ∧ m' ≤ m + 1 + x ∧ G'.tr ⟨p, rows.take x, true⟩ = some a, rfl,
    ((E1.live b (some_ne hb)).2.2 hrb).trans hb, ⟨fun x ρ H' hJ => ?_, fun x ρ H' v hx hJ => ?_, fun ρ H' hJ => ?_⟩, by tb_start, by tb_start, G1, m1, a1, by tb_start, X1, E1, g1, by omega, by simpa using g3⟩))
  · obtain ⟨h7, h14, G', m', a, h19, X', E', _⟩ := hJ
    unfold listItems
    rw [(E'.live b (some_ne hb)).2.2 hrb, hb]
  · obtain ⟨h7, h14, G', m', a, h19, X', E', q1, q2, q3⟩ := hJ
    have hlt : x < rows.length := by rw [← hlen]; exact (List.getElem?_eq_some_iff.mp hx).1
    unfold rowsV at hx
    rw [List.getElem?_map] at hx
    obtain ⟨⟨kk, ff⟩, hr, rfl⟩ := Option.map_eq_some_iff.mp hx
    refine ⟨_, rfl, ?_⟩
    refine s_varE rfl (we_m W (a := T) (C := 101) (f := 84) (by tb_start) X'.t rfl rfl (wes_p W (vs := [.ref a, .str kk, .int ff]) (by tb_start) ((k_added (n := n) W X' q3 rfl (nodup_take hn hr) (by omega)).mono fun v H2 ⟨G2, m2, a2, hv, X2, E2, r1, r2, r3⟩ => ?_)))
    subst hv
    refine ws_nil ⟨by tb_start, by tb_start, G2, m2, a2, by tb_start, X2, E'.trans E2, by omega, by omega, ?_⟩
    have e : (Info.add ⟨p, rows.take x, true⟩ kk ff) = ⟨p, rows.take (x + 1), true⟩ := by
      unfold Info.add
      rw [List.take_add_one, hr]; rfl
    rw [← e]; exact r3
  · obtain ⟨h7, h14, G', m', a, h19, X', E', q1, q2, q3⟩ := hJ
    rw [hlen] at q2 q3
    rw [List.take_length] at q3
    refine s_retE (we_ife (wb_p W (b := op) (by tb_start) ?_))
    cases op with
    | true => exact we_p W (v := .ref a) (by tb_start) ⟨G', m', a, rfl, X', E', q1, by omega, q3⟩
    | false =>
      refine we_m W (a := T) (C := 101) (f := 91) (by tb_start) X'.t rfl rfl (wes_p W (vs := [.ref a]) (by tb_start) ((k_shut (n := n) W X' q3 (by omega)).mono fun v H2 ⟨G2, m2, a2, hv, X2, E2, r1, r2, r3⟩ => ?_))
      exact ⟨G2, m2, a2, hv, X2, E'.trans E2, by omega, by omega, r3⟩
end



/-! stores -/
structure SD where
  p : Nat
  rows : List (Nat × (Int × Int))
  op : Bool
  al : Bool
noncomputable def shR (rows : List (Nat × (Int × Int))) : List (Nat × Int) := rows.map fun r => (r.1, r.2.1)
noncomputable def valR (rows : List (Nat × (Int × Int))) : List V := rows.map fun r => .int r.2.2
noncomputable def tbR (rows : List (Nat × (Int × Int))) : List (Nat × V) := rows.map fun r => (r.1, .tup [.int r.2.1, .int r.2.2])
noncomputable def trR (rows : List (Nat × (Int × Int))) : List V := rows.map fun r => .tup [.str r.1, .int r.2.1, .int r.2.2]
noncomputable def SD.info (s : SD) : Info := ⟨s.p, shR s.rows, s.op⟩
noncomputable def sFs (T : Addr) (num : Int) (sh : V) (sl tb : Addr) (al : Bool) (ap : V) (ao : Bool) : List (Nat × V) := [(27, .ref T), (8, .int num), (19, sh), (28, .ref sl), (29, .ref tb), (30, .bool al), (31, ap), (32, .bool ao)]
inductive SEx (T : Addr) (G : Gh) (H : AH) (j : Nat) (s : SD) : Prop
  | mk (sh : V) (sl tb : Addr) (xs : List V) (tv : List (Nat × V)) (ap : V) (ao : Bool) : H (G.sa j) = some (.inst 190 (sFs T (G.sn j) sh sl tb s.al ap ao)) → G.ro (G.sa j) = .store j → G.ro sl = .slots j → G.ro tb = .table j → H sl = some (.list xs) → H tb = some (.sd tv) →
    (s.al = false → (∃ a, sh = .ref a ∧ G.tr s.info = some a) ∧ xs = valR s.rows ∧ tv = [] ∧ ap = .none ∧ ao = true) → (s.al = true → tv = tbR s.rows ∧ ap = G.protoV s.p ∧ ao = s.op) → SEx T G H j s
structure SOk (T : Addr) (G : Gh) (H : AH) (j : Nat) (s : SD) : Prop where
  ex : SEx T G H j s
  pb : s.p ≤ G.ns
  nd : (s.rows.map (·.1)).Nodup
  kb : ∀ r ∈ s.rows, r.1 < 95
  len : s.rows.length < 1000
noncomputable def Role.ofSt (j : Nat) : Role → Prop
  | .store i | .slots i | .table i => i = j
  | _ => False
noncomputable def modS (j : Nat) (r : Role) : Prop := r.isTree ∨ r.ofSt j

section
variable {D : Amb} {n : Nat} {T R : Addr} {L : Int} {m : Nat} {G G' : Gh} {H H' : AH} {j : Nat} {s : SD}
theorem SOk.keep (X : SOk T G H j s) {M : Role → Prop} (E : Ext M G H G' H') (h1 : ¬ M (.store j)) (h2 : ¬ M (.slots j)) (h3 : ¬ M (.table j)) : SOk T G' H' j s := by
  obtain ⟨sh, sl, tb, xs, tv, ap, ao, e1, e2, e3, e4, e5, e6, e7, e8⟩ := X.ex
  obtain ⟨_, a2, a3⟩ := E.live _ (some_ne e1)
  obtain ⟨_, b2, b3⟩ := E.live _ (some_ne e5)
  obtain ⟨_, c2, c3⟩ := E.live _ (some_ne e6)
  refine ⟨⟨sh, sl, tb, xs, tv, ap, ao, ?_, ?_, b2.trans e3, c2.trans e4, (b3 (by rw [e3]; exact h2)).trans e5, (c3 (by rw [e4]; exact h3)).trans e6, fun q => ?_, fun q => ?_⟩, by rw [E.ns]; exact X.pb, X.nd, X.kb, X.len⟩
  · rw [E.sa, E.sn]; exact (a3 (by rw [e2]; exact h1)).trans e1
  · rw [E.sa]; exact a2.trans e2
  · obtain ⟨⟨a, q1, q2⟩, q3⟩ := e7 q
    exact ⟨⟨a, q1, (E.tr _ _ q2).1⟩, q3⟩
  · obtain ⟨q1, q2, q3⟩ := e8 q
    exact ⟨q1, by rw [E.protoV]; exact q2, q3⟩
theorem SOk.tree (X : SOk T G H j s) (E : Ext isTr G H G' H') : SOk T G' H' j s := X.keep E id id id
theorem SOk.other (X : SOk T G H j s) {i : Nat} (E : Ext (modS i) G H G' H') (hij : i ≠ j) : SOk T G' H' j s :=
  X.keep E (fun q => q.elim id fun q => hij (Eq.symm q)) (fun q => q.elim id fun q => hij (Eq.symm q)) (fun q => q.elim id fun q => hij (Eq.symm q))

theorem TI.move (X : TI T R L m G H) {ro : Addr → Role} (hr : ∀ a, H a ≠ none → ro a = G.ro a) (hf : ∀ a, H' a = none → ro a = .free) (ht : ∀ a, H a ≠ none → isTr (G.ro a) → H' a = H a)
    (hs : ∀ j, j < G.ns → ∃ fs, H' (G.sa j) = some (.inst 190 fs) ∧ dget fs 8 = some (.int (G.sn j))) : TI T R L m { G with ro := ro } H' := by
  obtain ⟨rk, g1, g2, g3, g4, g5⟩ := X.rt
  refine ⟨(ht T (some_ne X.t) (by rw [X.rT]; trivial)).trans X.t, (hr T (some_ne X.t)).trans X.rT, ⟨rk, (ht R (some_ne g1) (by rw [g2]; trivial)).trans g1, (hr R (some_ne g1)).trans g2, g3, g4, g5⟩, fun i a h => ?_, X.pb, X.bk, X.nd, X.nu, X.nui, X.sn, X.sni, fun j hj => ?_, hf⟩
  · have hsh := X.sh i a h
    obtain ⟨l, kvs, pv, g1, g2, _⟩ := hsh.ex
    refine hsh.keep (Nat.le_refl _) (fun b hb => hr b hb) (fun b hb hr => ht b hb ?_) (fun _ _ => rfl) (fun _ _ _ => rfl)
    rcases hr with hr | hr | hr
    · rw [hr, g2]; trivial
    · rw [hr]; trivial
    · rw [hr]; trivial
  · obtain ⟨q1, fs, q2, q3⟩ := X.st j hj
    obtain ⟨fs', r1, r2⟩ := hs j hj
    exact ⟨(hr _ (some_ne q2)).trans q1, fs', r1, r2⟩
noncomputable def NewH (H H' : AH) : Prop := ∀ a, H a ≠ none → H' a = H a
theorem NewH.refl (H : AH) : NewH H H := fun _ _ => rfl
theorem NewH.trans {H'' : AH} (x : NewH H H') (y : NewH H' H'') : NewH H H'' := fun a h => (y a (by rw [x a h]; exact h)).trans (x a h)
theorem NewH.upd {a : Addr} {o : O} (h : H a = none) : NewH H (upd H a o) := fun b hb => upd_ne (ne_of_live hb h)
theorem NewH.none (x : NewH H H') {a : Addr} (h : H' a = none) : H a = none := by
  cases e : H a with
  | none => rfl
  | some o => rw [x a (some_ne e), e] at h; cases h
theorem TI.new (X : TI T R L m G H) (N : NewH H H') : TI T R L m G H' :=
  X.move (ro := G.ro) (fun _ _ => rfl) (fun a h => X.fr a (N.none h)) (fun a h _ => N a h) fun j hj => by
    obtain ⟨q1, fs, q2, q3⟩ := X.st j hj
    exact ⟨fs, (N _ (some_ne q2)).trans q2, q3⟩
theorem Ext.new (M : Role → Prop) (N : NewH H H') : Ext M G H G H' := ⟨fun a h => ⟨by rw [N a h]; exact h, rfl, fun _ => N a h⟩, fun _ _ h => ⟨h, rfl⟩, rfl, rfl, rfl⟩

/-! what a store answers -/
theorem shape_at (X : TI T R L m G H) {i : Info} {a : Addr} (h : G.tr i = some a) : ∃ l pv, H a = some (.inst 45 (G.fs i l pv)) := X.chain.sh i a h
theorem k_above (W : Facts D) (X : TI T R L m G H) (Y : SOk T G H j s) : WK D (n + 1) 126 [.ref (G.sa j)] H fun v H' => H' = H ∧ v = G.protoV s.p := by
  refine wk_fn W.ro W.f126 rfl ?_
  unfold b_Store_above
  obtain ⟨sh, sl, tb, xs, tv, ap, ao, e1, e2, e3, e4, e5, e6, e7, e8⟩ := Y.ex
  unfold sFs at e1
  refine s_ret W (v := G.protoV s.p) ?_ ⟨rfl, rfl⟩
  cases ha : s.al with
  | true =>
    obtain ⟨_, rfl, _⟩ := e8 ha
    rw [ha] at e1; tb_start
  | false =>
    obtain ⟨⟨a, rfl, ht⟩, _⟩ := e7 ha
    obtain ⟨l, pv, g⟩ := shape_at X ht
    unfold Gh.fs at g
    rw [ha] at e1; tb_start
theorem k_grow (W : Facts D) (X : TI T R L m G H) (Y : SOk T G H j s) : WK D (n + 1) 133 [.ref (G.sa j)] H fun v H' => H' = H ∧ v = .bool s.op := by
  refine wk_fn W.ro W.f133 rfl ?_
  unfold b_Store_can_grow
  obtain ⟨sh, sl, tb, xs, tv, ap, ao, e1, e2, e3, e4, e5, e6, e7, e8⟩ := Y.ex
  unfold sFs at e1
  refine s_ret W (v := .bool s.op) ?_ ⟨rfl, rfl⟩
  cases ha : s.al with
  | true =>
    obtain ⟨_, _, rfl⟩ := e8 ha
    rw [ha] at e1; tb_start
  | false =>
    obtain ⟨⟨a, rfl, ht⟩, _⟩ := e7 ha
    obtain ⟨l, pv, g⟩ := shape_at X ht
    unfold Gh.fs at g
    rw [ha] at e1; tb_start
end



theorem place_go (k : Nat) : ∀ (l : List (Nat × Int)) (o : Nat), (dget l k = none ∧ dget ((l.zipIdx o).map fun r => (r.1.1, V.tup [.int (r.2 : Int), .int r.1.2])) k = none) ∨
    ∃ i f, l[i]? = some (k, f) ∧ dget l k = some f ∧ dget ((l.zipIdx o).map fun r => (r.1.1, V.tup [.int (r.2 : Int), .int r.1.2])) k = some (.tup [.int ((o + i : Nat) : Int), .int f])
  | [], o => .inl ⟨rfl, rfl⟩
  | (k', f) :: l, o => by
    rw [List.zipIdx_cons, List.map_cons]
    by_cases e : k' = k
    · subst e
      exact .inr ⟨0, f, rfl, by simp, by simp⟩
    · rcases place_go k l (o + 1) with ⟨h1, h2⟩ | ⟨i, g, h1, h2, h3⟩
      · exact .inl ⟨by simp [e, h1], by rw [dget_cons, if_neg e]; exact h2⟩
      · refine .inr ⟨i + 1, g, by simpa using h1, by simp [e, h2], ?_⟩
        rw [dget_cons, if_neg e, h3]
        have : o + 1 + i = o + (i + 1) := by omega
        rw [this]
noncomputable def findV (rows : List (Nat × (Int × Int))) (k : Nat) : V := match dget rows k with
  | some r => .tup [.int r.1, .int r.2]
  | none => .none
theorem dget_map {α β : Type} (f : α → β) (l : List (Nat × α)) (k : Nat) : dget (l.map fun r => (r.1, f r.2)) k = (dget l k).map f := by
  induction l with
  | nil => rfl
  | cons x l ih =>
    obtain ⟨a, b⟩ := x
    rw [List.map_cons, dget_cons, dget_cons]
    by_cases e : a = k <;> simp [e, ih]
theorem dget_tbR (rows : List (Nat × (Int × Int))) (k : Nat) : (dget (tbR rows) k).getD .none = findV rows k := by
  unfold tbR findV
  rw [dget_map (fun r : Int × Int => V.tup [.int r.1, .int r.2])]
  cases dget rows k <;> rfl
theorem dget_idx {α : Type} {rows : List (Nat × α)} {i k : Nat} {v : α} (hn : (rows.map (·.1)).Nodup) (h : rows[i]? = some (k, v)) : dget rows k = some v := by
  induction rows generalizing i with
  | nil => simp at h
  | cons x l ih =>
    obtain ⟨a, b⟩ := x
    rw [List.map_cons, List.nodup_cons] at hn
    cases i with
    | zero =>
      simp only [List.getElem?_cons_zero, Option.some.injEq, Prod.mk.injEq] at h
      obtain ⟨rfl, rfl⟩ := h
      simp
    | succ i =>
      rw [List.getElem?_cons_succ] at h
      rw [dget_cons, if_neg (fun q => hn.1 ?_)]
      · exact ih hn.2 h
      · refine List.mem_map.mpr ⟨(k, v), List.mem_of_getElem? h, ?_⟩
        exact q.symm
theorem shR_nodup {rows : List (Nat × (Int × Int))} (h : (rows.map (·.1)).Nodup) : ((shR rows).map (·.1)).Nodup := by
  unfold shR; rw [List.map_map]; exact h
theorem place_of {rows : List (Nat × (Int × Int))} (hn : (rows.map (·.1)).Nodup) (k : Nat) : (dget rows k = none ∧ placeV (shR rows) k = .none) ∨ ∃ (i : Nat) (f v : Int), rows[i]? = some (k, (f, v)) ∧ dget rows k = some (f, v) ∧ placeV (shR rows) k = .tup [.int (i : Int), .int f] := by
  have e : dget (shR rows) k = (dget rows k).map (·.1) := by unfold shR; exact dget_map (fun r : Int × Int => r.1) rows k
  unfold placeV plOf
  rcases place_go k (shR rows) 0 with ⟨h1, h2⟩ | ⟨i, f, h1, h2, h3⟩
  · left
    rw [h2]
    rw [h1] at e
    refine ⟨?_, rfl⟩
    cases h : dget rows k with
    | none => rfl
    | some _ => rw [h] at e; cases e
  · right
    rw [h3]
    unfold shR at h1
    rw [List.getElem?_map] at h1
    obtain ⟨⟨k', f', v⟩, hr, he⟩ := Option.map_eq_some_iff.mp h1
    simp only [Prod.mk.injEq] at he
    obtain ⟨rfl, rfl⟩ := he
    exact ⟨i, f', v, hr, dget_idx hn hr, by simp⟩

section
variable {D : Amb} {n : Nat} {T R : Addr} {L : Int} {m : Nat} {G G' : Gh} {H H' : AH} {j : Nat} {s : SD}
theorem shR_len (rows : List (Nat × (Int × Int))) : (shR rows).length = rows.length := by simp [shR]
inductive FindP (T R : Addr) (L : Int) (m : Nat) (G : Gh) (H : AH) (w v : V) (H' : AH) : Prop
  | mk (ro : Addr → Role) : TI T R L m { G with ro := ro } H' → Ext isTr G H { G with ro := ro } H' → v = w → FindP T R L m G H w v H'
inductive SrowsP (H : AH) (ys : List V) (v : V) (H' : AH) : Prop
  | mk (b : Addr) : v = .ref b → H b = none → NewH H H' → H' b = some (.list ys) → SrowsP H ys v H'
theorem k_find (W : Facts D) (X : TI T R L m G H) (Y : SOk T G H j s) (k : Nat) : WK D (n + 3) 140 [.ref (G.sa j), .str k] H (FindP T R L m G H (findV s.rows k)) := by
  refine wk_fn W.ro W.f140 rfl ?_
  unfold b_Store_find
  obtain ⟨sh, sl, tb, xs, tv, ap, ao, e1, e2, e3, e4, e5, e6, e7, e8⟩ := Y.ex
  unfold sFs at e1
  cases ha : s.al with
  | true =>
    obtain ⟨rfl, _, _⟩ := e8 ha
    rw [ha] at e1
    refine s_if W (z := true) (by tb_start) ?_
    rw [if_pos rfl]
    refine s_ret W (v := findV s.rows k) ?_ ⟨G.ro, X, .refl _ _ _, rfl⟩
    rw [← dget_tbR]; tb_start
  | false =>
    obtain ⟨⟨a, rfl, ht⟩, rfl, _⟩ := e7 ha
    rw [ha] at e1
    obtain ⟨l, pv, g⟩ := shape_at X ht
    refine s_if W (z := false) (by tb_start) (s_end ?_)
    refine s_varE rfl (we_m W (a := a) (C := 45) (f := 42) (by tb_start) g rfl rfl (wes_p W (vs := [.str k]) (by tb_start) ((k_place (n := n) W X ht (by rw [SD.info, shR_len]; have := Y.len; omega) k).mono fun v H1 ⟨ro, X1, E1, hv⟩ => ?_)))
    subst hv
    have Y1 := Y.tree E1
    have f1 := ((E1.live _ (some_ne e1)).2.2 (by rw [e2]; exact id)).trans e1
    have f5 := ((E1.live _ (some_ne e5)).2.2 (by rw [e3]; exact id)).trans e5
    refine s_ret W (v := findV s.rows k) ?_ ⟨ro, X1, E1, rfl⟩
    unfold findV
    show evP H1 _ _ = _
    rcases place_of Y.nd k with ⟨h1, h2⟩ | ⟨i, f, v, h1, h2, h3⟩
    · have h2' : placeV s.info.rows k = .none := h2
      rw [h2', h1]; tb_start
    · have h3' : placeV s.info.rows k = .tup [.int (i : Int), .int f] := h3
      rw [h3', h2]
      have hi := (List.getElem?_eq_some_iff.mp h1).1
      have hl := Y.len
      have hv : (valR s.rows)[i]? = some (.int v) := by unfold valR; rw [List.getElem?_map, h1]; rfl
      have hi2 : (i : Int) < 1000000 := by omega
      have hi3 : ¬ ((i : Int) = -1) := by omega
      tb_start
theorem k_srows (W : Facts D) (X : TI T R L m G H) (Y : SOk T G H j s) : WK D (n + 2) 145 [.ref (G.sa j)] H (SrowsP H (trR s.rows)) := by
  refine wk_fn W.ro W.f145 rfl ?_
  unfold b_Store_rows
  obtain ⟨sh, sl, tb, xs, tv, ap, ao, e1, e2, e3, e4, e5, e6, e7, e8⟩ := Y.ex
  unfold sFs at e1
  have hl := Y.len
  cases ha : s.al with
  | true =>
    obtain ⟨rfl, _, _⟩ := e8 ha
    rw [ha] at e1
    refine s_if W (z := true) (by tb_start) ?_
    rw [if_pos rfl]
    refine s_retE (we_comp (src_val (we_p W (v := .ref tb) (by tb_start) ⟨(tbR s.rows).map fun p => .str p.1, seq_o e6 rfl, trivial, by simp [tbR]; omega, fun _ => true,
      fun v => (v.asStr.bind fun k => (dget s.rows k).map fun r => V.tup [.str k, .int r.1, .int r.2]).getD .none, fun v hv => ?_, fun acc hacc => ?_⟩)))
    · unfold tbR at hv
      rw [List.map_map] at hv
      obtain ⟨r, hr, rfl⟩ := List.mem_map.mp hv
      obtain ⟨i, hi⟩ := List.getElem?_of_mem hr
      have hd := dget_idx Y.nd (i := i) (k := r.1) (v := r.2) hi
      have hdt : dget (tbR s.rows) r.1 = some (.tup [.int r.2.1, .int r.2.2]) := by
        unfold tbR
        rw [dget_map (fun r : Int × Int => V.tup [.int r.1, .int r.2]), hd]; rfl
      refine ⟨_, rfl, rfl, fun _ => evP_ok W.toFactsR.rd _ ?_ ⟨rfl, rfl⟩⟩
      show _ = some (((dget s.rows r.1).map fun q => V.tup [.str r.1, .int q.1, .int q.2]).getD .none)
      rw [hd]
      show evP H (lset _ 11 (.str r.1)) _ = some (V.tup [.str r.1, .int r.2.1, .int r.2.2])
      tb_start
    · refine ⟨acc, rfl, hacc, NewH.upd hacc, ?_⟩
      rw [upd_self]
      congr 2
      rw [List.filter_eq_self.mpr (fun _ _ => rfl)]
      unfold tbR trR
      rw [List.map_map, List.map_map]
      refine List.map_congr_left fun r hr => ?_
      obtain ⟨i, hi⟩ := List.getElem?_of_mem hr
      have hd := dget_idx Y.nd (i := i) (k := r.1) (v := r.2) hi
      show ((dget s.rows r.1).map fun q => V.tup [.str r.1, .int q.1, .int q.2]).getD .none = _
      rw [hd]; rfl
  | false =>
    obtain ⟨⟨a, rfl, ht⟩, rfl, _⟩ := e7 ha
    rw [ha] at e1
    obtain ⟨l, pv, g⟩ := shape_at X ht
    refine s_if W (z := false) (by tb_start) (s_end ?_)
    refine s_retE (we_comp (src_enum W.toFactsR.enum (we_m W (a := a) (C := 45) (f := 35) (by tb_start) g rfl rfl (wes_p W rfl ((k_rows (n := n) W X.chain ht (by rw [SD.info, shR_len]; omega)).mono fun v H1 ⟨b, hv, hb, hH1⟩ => ?_)))))
    subst hv; subst hH1
    have bs := ne_of_live (some_ne e1) hb
    have bl := ne_of_live (some_ne e5) hb
    refine ⟨b, rowsV s.info.rows, rfl, upd_self _ _ _, by rw [enumV_len]; simp [rowsV, SD.info, shR]; omega, fun _ => true,
      fun v => .tup (((ndV v).asTup.getD []) ++ [((valR s.rows)[((hdV v).asInt.getD 0).toNat]?).getD .none]), fun v hv => ?_, fun acc hacc => ?_⟩
    · obtain ⟨i, hi⟩ := List.getElem?_of_mem hv
      obtain ⟨y, hy, rfl⟩ := enumV_get hi
      unfold rowsV SD.info shR at hy
      dsimp only at hy
      rw [List.map_map, List.getElem?_map] at hy
      obtain ⟨r, hr, rfl⟩ := Option.map_eq_some_iff.mp hy
      have hlt := (List.getElem?_eq_some_iff.mp hr).1
      have hv' : (valR s.rows)[i]? = some (.int r.2.2) := by unfold valR; rw [List.getElem?_map, hr]; rfl
      have hi2 : (i : Int) < 1000000 := by omega
      have hi3 : ¬ ((i : Int) = -1) := by omega
      refine ⟨_, rfl, rfl, fun _ => evP_ok W.toFactsR.rd _ ?_ ⟨rfl, rfl⟩⟩
      show _ = some (V.tup [.str r.1, .int r.2.1, ((valR s.rows)[((i : Nat) : Int).toNat]?).getD .none])
      rw [Int.toNat_natCast, hv']
      show _ = some (V.tup [.str r.1, .int r.2.1, .int r.2.2])
      tb_start
      exact i_list (upd_miss bl e5) (sget_nat hv' (by omega))
    · obtain ⟨hab, hacc'⟩ := upd_none hacc
      refine ⟨acc, rfl, hacc', (NewH.upd hb).trans (NewH.upd hacc), ?_⟩
      rw [upd_self]
      congr 2
      rw [List.filter_eq_self.mpr (fun _ _ => rfl)]
      refine List.ext_getElem? fun i => ?_
      rw [List.getElem?_map]
      unfold trR
      rw [List.getElem?_map]
      cases hr : s.rows[i]? with
      | none =>
        have : (enumV (rowsV s.info.rows))[i]? = none := by
          rw [List.getElem?_eq_none_iff] at hr ⊢
          rw [enumV_len]; simp [rowsV, SD.info, shR]; exact hr
        rw [this]; rfl
      | some r =>
        have hlt := (List.getElem?_eq_some_iff.mp hr).1
        have hv' : (valR s.rows)[i]? = some (.int r.2.2) := by unfold valR; rw [List.getElem?_map, hr]; rfl
        have hy : (rowsV s.info.rows)[i]? = some (.tup [.str r.1, .int r.2.1]) := by
          unfold rowsV SD.info shR
          dsimp only
          rw [List.map_map, List.getElem?_map, hr]; rfl
        have : (enumV (rowsV s.info.rows))[i]? = some (.tup [.int (i : Int), .tup [.str r.1, .int r.2.1]]) := by
          unfold enumV
          rw [List.getElem?_map, List.getElem?_zipIdx, hy]; simp
        rw [this]
        show some (V.tup [.str r.1, .int r.2.1, ((valR s.rows)[i]?).getD .none]) = _
        rw [hv']; rfl
end



section
variable {D : Amb} {n : Nat} {T R : Addr} {L : Int} {m : Nat} {G G' : Gh} {H H' : AH} {j : Nat} {s : SD}
theorem Role.ofSt_tree {r : Role} (h : r.isTree) : ¬ r.ofSt j := by cases r <;> first | exact id | exact h.elim
theorem TI.step (X : TI T R L m G H) {ro : Addr → Role} (hr : ∀ a, H a ≠ none → ro a = G.ro a) (hf : ∀ a, H' a = none → ro a = .free) (hk : ∀ a, H a ≠ none → ¬ (G.ro a).ofSt j → H' a = H a) (hlv : ∀ a, H a ≠ none → H' a ≠ none)
    (hj : j < G.ns → ∃ fs, H' (G.sa j) = some (.inst 190 fs) ∧ dget fs 8 = some (.int (G.sn j))) : TI T R L m { G with ro := ro } H' ∧ Ext (modS j) G H { G with ro := ro } H' := by
  refine ⟨X.move hr hf (fun a h1 h2 => hk a h1 (Role.ofSt_tree h2)) fun i hi => ?_, ⟨fun a h => ⟨hlv a h, hr a h, fun q => hk a h fun z => q (.inr z)⟩, fun _ _ h => ⟨h, rfl⟩, rfl, rfl, rfl⟩⟩
  by_cases e : i = j
  · subst e; exact hj hi
  · obtain ⟨q1, fs, q2, q3⟩ := X.st i hi
    exact ⟨fs, (hk _ (some_ne q2) (by rw [q1]; exact e)).trans q2, q3⟩
theorem tbR_succ {rows : List (Nat × (Int × Int))} {i k : Nat} {r : Int × Int} (hn : (rows.map (·.1)).Nodup) (h : rows[i]? = some (k, r)) : dset (tbR (rows.take i)) k (.tup [.int r.1, .int r.2]) = tbR (rows.take (i + 1)) := by
  rw [dset_new]
  · rw [List.take_add_one, h]
    unfold tbR
    rw [Option.toList_some, List.map_append]; rfl
  · intro q
    unfold tbR at q
    rw [List.map_map] at q
    have h2 : rows.map (·.1) = (rows.take i).map (·.1) ++ (rows.drop i).map (·.1) := by rw [← List.map_append, List.take_append_drop]
    rw [h2, List.nodup_append] at hn
    refine hn.2.2 k q k ?_ rfl
    refine List.mem_map.mpr ⟨(k, r), ?_, rfl⟩
    refine List.mem_of_getElem? (i := 0) ?_
    rw [List.getElem?_drop]; simpa using h

inductive SP (T R : Addr) (L : Int) (m c : Nat) (G : Gh) (H : AH) (j : Nat) (s' : SD) (H' : AH) : Prop
  | mk (G' : Gh) (m' : Nat) : TI T R L m' G' H' → Ext (modS j) G H G' H' → m ≤ m' → m' ≤ m + c → SOk T G' H' j s' → SP T R L m c G H j s' H'

inductive AloneP (T R : Addr) (L : Int) (m : Nat) (G : Gh) (H : AH) (j : Nat) (s : SD) (H' : AH) : Prop
  | mk (ro : Addr → Role) : TI T R L m { G with ro := ro } H' → Ext (modS j) G H { G with ro := ro } H' → SOk T { G with ro := ro } H' j s → AloneP T R L m G H j s H'
theorem k_alone (W : Facts D) (X : TI T R L m G H) (Y : SOk T G H j s) : WK D (n + 3) 152 [.ref (G.sa j)] H fun _ H' => AloneP T R L m G H j { s with al := true } H' := by
  refine wk_fn W.ro W.f152 rfl ?_
  unfold b_Store_go_alone
  obtain ⟨sh, sl, tb, xs, tv, ap, ao, e1, e2, e3, e4, e5, e6, e7, e8⟩ := Y.ex
  have hl := Y.len
  unfold sFs at e1
  cases ha : s.al with
  | true =>
    rw [ha] at e1
    refine s_if W (z := false) (by tb_start) (s_end (ws_nil ⟨G.ro, X, .refl _ _ _, ?_⟩))
    have : ({ s with al := true } : SD) = s := by obtain ⟨a, b, c, d⟩ := s; cases ha; rfl
    rw [this]; exact Y
  | false =>
    obtain ⟨⟨a, rfl, ht⟩, rfl, rfl, rfl, rfl⟩ := e7 ha
    rw [ha] at e1
    obtain ⟨l, pv, g⟩ := shape_at X ht
    refine s_if W (z := true) (by tb_start) ?_
    rw [if_pos rfl]
    refine ws_cons (w1_for_list (we_m W (a := G.sa j) (C := 190) (f := 145) (by tb_start) e1 rfl rfl (wes_p W rfl ((k_srows (n := n) W X Y).mono fun v H1 ⟨b, hv, hb, N, hH1⟩ => ?_))))
    subst hv
    have f1 := (N _ (some_ne e1)).trans e1
    have f6 := (N _ (some_ne e6)).trans e6
    have bs := ne_of_live (some_ne e1) hb
    have btb : tb ≠ b := ne_of_live (some_ne e6) hb
    have hln : (trR s.rows).length = s.rows.length := by simp [trR]
    have stb : G.sa j ≠ tb := fun q => by rw [← q, e2] at e4; cases e4
    have tbs := Ne.symm stb
    refine ⟨b, trR s.rows, fun x ρ H' => ρ 7 = some (.ref (G.sa j)) ∧ H' = upd H1 tb (.sd (tbR (s.rows.take x))), rfl, hH1, ⟨fun x ρ H' hJ => ?_, fun x ρ H' v hx hJ => ?_, fun ρ H' hJ => ?_⟩, by tb_start, ?_⟩
    · obtain ⟨_, rfl⟩ := hJ
      unfold listItems; rw [upd_ne (Ne.symm btb), hH1]
    · obtain ⟨h7, rfl⟩ := hJ
      unfold trR at hx
      rw [List.getElem?_map] at hx
      obtain ⟨⟨k, r⟩, hr, rfl⟩ := Option.map_eq_some_iff.mp hx
      have hlt := (List.getElem?_eq_some_iff.mp hr).1
      refine ⟨_, rfl, ?_⟩
      have hpl : (tbR (s.rows.take x)).length < 1000000 := by unfold tbR; simp; omega
      refine s_itemE W (we_p W (v := .tup [.int r.1, .int r.2]) (by tb_start) ⟨.ref tb, .str k, tb, .sd (tbR (s.rows.take (x + 1))), ?_, ?_, ?_, ws_nil ⟨?_, ?_⟩⟩)
      · tb_start
      · tb_start
      · simp [putV, putO, hpl, tbR_succ Y.nd hr]
      · tb_start
      · rw [upd_upd]
    · obtain ⟨h7, rfl⟩ := hJ
      rw [hln, List.take_length]
      have ga : H1 a = some (.inst 45 (G.fs s.info l pv)) := (N _ (some_ne g)).trans g
      have sa : G.sa j ≠ a := fun q => by rw [q, g] at e1; cases e1
      have as := Ne.symm sa
      have atb : a ≠ tb := fun q => by rw [q, e6] at g; cases g
      have tba := Ne.symm atb
      unfold Gh.fs at ga
      refine s_attr W (v := G.protoV s.p) (a := G.sa j) (by tb_start) (by tb_start) ((upd_ne stb).trans f1) rfl (len_ok rfl) ?_
      refine s_attr W (v := .bool s.op) (a := G.sa j) (by tb_start) (by tb_start) (upd_self _ _ _) rfl (len_ok rfl) ?_
      rw [upd_upd]
      refine s_attrE W (we_list (wes_nil ⟨by simp, fun c hc => ?_⟩))
      obtain ⟨cs, hc⟩ := upd_none hc
      obtain ⟨ct, hc⟩ := upd_none hc
      have sc := Ne.symm cs; have tc := Ne.symm ct
      have hc0 := N.none hc
      refine ⟨G.sa j, 190, _, by tb_start, (upd_ne sc).trans (upd_self _ _ _), rfl, len_ok rfl, ?_⟩
      rw [upd3]
      refine s_attr W (v := .bool true) (a := G.sa j) (by tb_start) (by tb_start) (upd_self _ _ _) rfl (len_ok rfl) (s_end (ws_nil ?_))
      rw [upd_upd]
      have ef : fput (fput (fput (fput [(27, V.ref T), (8, V.int (G.sn j)), (19, V.ref a), (28, V.ref sl), (29, V.ref tb), (30, V.bool false), (31, V.none), (32, V.bool true)] 31 (G.protoV s.p)) 32 (V.bool s.op)) 28 (V.ref c)) 30 (V.bool true) = sFs T (G.sn j) (.ref a) c tb true (G.protoV s.p) s.op := by simp [fput, sFs]
      rw [ef]
      have app : ∀ z, z ≠ G.sa j → z ≠ c → z ≠ tb → H z ≠ none → upd (upd (upd H1 tb (.sd (tbR s.rows))) c (.list [])) (G.sa j) (.inst 190 (sFs T (G.sn j) (.ref a) c tb true (G.protoV s.p) s.op)) z = H z := fun z h1 h2 h3 h4 => by
        rw [upd_ne h1, upd_ne h2, upd_ne h3]; exact N z h4
      have aps : upd (upd (upd H1 tb (.sd (tbR s.rows))) c (.list [])) (G.sa j) (.inst 190 (sFs T (G.sn j) (.ref a) c tb true (G.protoV s.p) s.op)) (G.sa j) = some (.inst 190 (sFs T (G.sn j) (.ref a) c tb true (G.protoV s.p) s.op)) := upd_self _ _ _
      have apc : upd (upd (upd H1 tb (.sd (tbR s.rows))) c (.list [])) (G.sa j) (.inst 190 (sFs T (G.sn j) (.ref a) c tb true (G.protoV s.p) s.op)) c = some (.list []) := by rw [upd_ne cs, upd_self]
      have apt : upd (upd (upd H1 tb (.sd (tbR s.rows))) c (.list [])) (G.sa j) (.inst 190 (sFs T (G.sn j) (.ref a) c tb true (G.protoV s.p) s.op)) tb = some (.sd (tbR s.rows)) := by rw [upd_ne tbs, upd_ne tc, upd_self]
      generalize hF : upd (upd (upd H1 tb (.sd (tbR s.rows))) c (.list [])) (G.sa j) (.inst 190 (sFs T (G.sn j) (.ref a) c tb true (G.protoV s.p) s.op)) = F at app aps apc apt ⊢
      have ctc : ∀ z, H z ≠ none → z ≠ c := fun z hz => ne_of_live hz hc0
      have key := X.step (j := j) (ro := fun z => if z = c then .slots j else G.ro z) (H' := F) (fun z hz => if_neg (ctc z hz)) (fun z hz => ?_) (fun z hz hr => app z (fun q => hr (by rw [q, e2]; rfl)) (ctc z hz) (fun q => hr (by rw [q, e4]; rfl)) hz) (fun z hz => ?_) (fun _ => ⟨_, aps, by simp [sFs]⟩)
      · refine ⟨_, key.1, key.2, ⟨⟨.ref a, c, tb, [], tbR s.rows, G.protoV s.p, s.op, aps, (if_neg sc).trans e2, if_pos rfl, (if_neg tc).trans e4, apc, apt, (fun q => Bool.noConfusion q), fun _ => ⟨rfl, rfl, rfl⟩⟩, Y.pb, Y.nd, Y.kb, Y.len⟩⟩
      · have hzc : z ≠ c := fun q => by rw [q, apc] at hz; cases hz
        rw [if_neg hzc]
        rw [← hF] at hz
        obtain ⟨_, hz⟩ := upd_none hz
        obtain ⟨_, hz⟩ := upd_none hz
        obtain ⟨_, hz⟩ := upd_none hz
        exact X.fr z (N.none hz)
      · by_cases q1 : z = G.sa j
        · rw [q1, aps]; simp
        · by_cases q2 : z = tb
          · rw [q2, apt]; simp
          · rw [app z q1 (ctc z hz) q2 hz]; exact hz
    · funext z
      by_cases q : z = tb
      · subst q; rw [upd_self, f6]; rfl
      · rw [upd_ne q]
end



section
variable {D : Amb} {n : Nat} {T R : Addr} {L : Int} {m : Nat} {G G' : Gh} {H H' : AH} {j : Nat} {s : SD}
theorem TI.upd1 (X : TI T R L m G H) {x : Addr} {o : O} (hx : (G.ro x).ofSt j) (hl : H x ≠ none) (hs : x = G.sa j → ∃ fs, o = .inst 190 fs ∧ dget fs 8 = some (.int (G.sn j))) : TI T R L m G (upd H x o) ∧ Ext (modS j) G H G (upd H x o) := by
  refine X.step (j := j) (ro := G.ro) (fun _ _ => rfl) (fun a ha => X.fr a (upd_none ha).2) (fun a ha hr => upd_ne fun q => hr (by rw [q]; exact hx)) (fun a ha => ?_) fun hj => ?_
  · by_cases q : a = x
    · rw [q, upd_self]; simp
    · rw [upd_ne q]; exact ha
  · by_cases q : G.sa j = x
    · obtain ⟨fs, h1, h2⟩ := hs q.symm
      exact ⟨fs, by rw [q, upd_self, h1], h2⟩
    · obtain ⟨q1, fs, q2, q3⟩ := X.st j hj
      exact ⟨fs, (upd_ne q).trans q2, q3⟩
theorem isTr_modS (j : Nat) : ∀ r, isTr r → modS j r := fun _ h => .inl h
theorem free_not {b : Addr} (X : TI T R L m G H) (hb : H b = none) : ¬ isTr (G.ro b) := by rw [X.fr b hb]; exact id

structure Sha (T : Addr) (G : Gh) (H : AH) (j : Nat) (s : SD) (a sl tb : Addr) : Prop where
  e1 : H (G.sa j) = some (.inst 190 [(27, .ref T), (8, .int (G.sn j)), (19, .ref a), (28, .ref sl), (29, .ref tb), (30, .bool false), (31, .none), (32, .bool true)])
  e2 : G.ro (G.sa j) = .store j
  e3 : G.ro sl = .slots j
  e4 : G.ro tb = .table j
  e5 : H sl = some (.list (valR s.rows))
  e6 : H tb = some (.sd [])
  ht : G.tr s.info = some a
  al : s.al = false
structure Alo (T : Addr) (G : Gh) (H : AH) (j : Nat) (s : SD) (sh : V) (sl tb : Addr) (xs : List V) : Prop where
  e1 : H (G.sa j) = some (.inst 190 [(27, .ref T), (8, .int (G.sn j)), (19, sh), (28, .ref sl), (29, .ref tb), (30, .bool true), (31, G.protoV s.p), (32, .bool s.op)])
  e2 : G.ro (G.sa j) = .store j
  e3 : G.ro sl = .slots j
  e4 : G.ro tb = .table j
  e5 : H sl = some (.list xs)
  e6 : H tb = some (.sd (tbR s.rows))
  al : s.al = true
theorem SOk.sha (Y : SOk T G H j s) (ha : s.al = false) : ∃ a sl tb, Sha T G H j s a sl tb := by
  obtain ⟨sh, sl, tb, xs, tv, ap, ao, e1, e2, e3, e4, e5, e6, e7, e8⟩ := Y.ex
  obtain ⟨⟨a, rfl, ht⟩, rfl, rfl, rfl, rfl⟩ := e7 ha
  rw [ha] at e1
  exact ⟨a, sl, tb, e1, e2, e3, e4, e5, e6, ht, ha⟩
theorem SOk.alo (Y : SOk T G H j s) (ha : s.al = true) : ∃ sh sl tb xs, Alo T G H j s sh sl tb xs := by
  obtain ⟨sh, sl, tb, xs, tv, ap, ao, e1, e2, e3, e4, e5, e6, e7, e8⟩ := Y.ex
  obtain ⟨rfl, rfl, rfl⟩ := e8 ha
  rw [ha] at e1
  exact ⟨sh, sl, tb, xs, e1, e2, e3, e4, e5, e6, ha⟩
theorem Sha.ok {a sl tb : Addr} (Z : Sha T G H j s a sl tb) (pb : s.p ≤ G.ns) (nd : (s.rows.map (·.1)).Nodup) (kb : ∀ r ∈ s.rows, r.1 < 95) (len : s.rows.length < 1000) : SOk T G H j s :=
  ⟨⟨.ref a, sl, tb, _, _, _, _, by rw [Z.al]; exact Z.e1, Z.e2, Z.e3, Z.e4, Z.e5, Z.e6, fun _ => ⟨⟨a, rfl, Z.ht⟩, rfl, rfl, rfl, rfl⟩, fun q => by rw [Z.al] at q; cases q⟩, pb, nd, kb, len⟩
theorem Alo.ok {sh : V} {sl tb : Addr} {xs : List V} (Z : Alo T G H j s sh sl tb xs) (pb : s.p ≤ G.ns) (nd : (s.rows.map (·.1)).Nodup) (kb : ∀ r ∈ s.rows, r.1 < 95) (len : s.rows.length < 1000) : SOk T G H j s :=
  ⟨⟨sh, sl, tb, _, _, _, _, by rw [Z.al]; exact Z.e1, Z.e2, Z.e3, Z.e4, Z.e5, Z.e6, fun q => (by rw [Z.al] at q; cases q), fun _ => ⟨rfl, rfl, rfl⟩⟩, pb, nd, kb, len⟩
theorem Sha.tree {a sl tb : Addr} (Z : Sha T G H j s a sl tb) (E : Ext isTr G H G' H') : Sha T G' H' j s a sl tb := by
  obtain ⟨_, a2, a3⟩ := E.live _ (some_ne Z.e1)
  obtain ⟨_, b2, b3⟩ := E.live _ (some_ne Z.e5)
  obtain ⟨_, c2, c3⟩ := E.live _ (some_ne Z.e6)
  exact ⟨by rw [E.sa, E.sn]; exact (a3 (by rw [Z.e2]; exact id)).trans Z.e1, by rw [E.sa]; exact a2.trans Z.e2, b2.trans Z.e3, c2.trans Z.e4, (b3 (by rw [Z.e3]; exact id)).trans Z.e5, (c3 (by rw [Z.e4]; exact id)).trans Z.e6, (E.tr _ _ Z.ht).1, Z.al⟩
theorem Sha.ne {a sl tb : Addr} (Z : Sha T G H j s a sl tb) : sl ≠ G.sa j ∧ tb ≠ G.sa j ∧ tb ≠ sl :=
  ⟨fun q => (by have := Z.e3; rw [q, Z.e2] at this; cases this), fun q => (by have := Z.e4; rw [q, Z.e2] at this; cases this), fun q => (by have := Z.e4; rw [q, Z.e3] at this; cases this)⟩
theorem Alo.ne {sh : V} {sl tb : Addr} {xs : List V} (Z : Alo T G H j s sh sl tb xs) : sl ≠ G.sa j ∧ tb ≠ G.sa j ∧ tb ≠ sl :=
  ⟨fun q => (by have := Z.e3; rw [q, Z.e2] at this; cases this), fun q => (by have := Z.e4; rw [q, Z.e2] at this; cases this), fun q => (by have := Z.e4; rw [q, Z.e3] at this; cases this)⟩
theorem Sha.shape {a sl tb c : Addr} (Z : Sha T G H j s a sl tb) (s' : SD) (hv : valR s'.rows = valR s.rows) (ha : s'.al = false) (hc : G.tr s'.info = some c) :
    Sha T G (upd H (G.sa j) (.inst 190 [(27, .ref T), (8, .int (G.sn j)), (19, .ref c), (28, .ref sl), (29, .ref tb), (30, .bool false), (31, .none), (32, .bool true)])) j s' c sl tb :=
  ⟨upd_self _ _ _, Z.e2, Z.e3, Z.e4, by rw [upd_ne Z.ne.1, hv]; exact Z.e5, by rw [upd_ne Z.ne.2.1]; exact Z.e6, hc, ha⟩

theorem k_close (W : Facts D) (X : TI T R L m G H) (Y : SOk T G H j s) (hm : m < 900000) : WK D (n + 4) 180 [.ref (G.sa j)] H fun v H' => SP T R L m 1 G H j { s with op := false } H' := by
  refine wk_fn W.ro W.f180 rfl ?_
  unfold b_Store_close
  rcases Bool.eq_false_or_eq_true s.al with ha | ha
  · obtain ⟨sh, sl, tb, xs, Z⟩ := Y.alo ha
    have e1 := Z.e1
    refine s_if W (z := true) (by tb_start) ?_
    rw [if_pos rfl]
    refine s_attr W (v := .bool false) (a := G.sa j) (by tb_start) (by tb_start) e1 rfl (len_ok rfl) (s_end (ws_nil ?_))
    have key := X.upd1 (j := j) (x := G.sa j) (o := .inst 190 (fput [(27, .ref T), (8, .int (G.sn j)), (19, sh), (28, .ref sl), (29, .ref tb), (30, .bool true), (31, G.protoV s.p), (32, .bool s.op)] 32 (.bool false))) (by rw [Z.e2]; rfl) (some_ne e1) fun _ => ⟨_, rfl, by simp [fput]⟩
    have Z' : Alo T G (upd H (G.sa j) (.inst 190 (fput [(27, .ref T), (8, .int (G.sn j)), (19, sh), (28, .ref sl), (29, .ref tb), (30, .bool true), (31, G.protoV s.p), (32, .bool s.op)] 32 (.bool false)))) j { s with op := false } sh sl tb xs :=
      ⟨by rw [upd_self]; simp [fput], Z.e2, Z.e3, Z.e4, by rw [upd_ne Z.ne.1]; exact Z.e5, by rw [upd_ne Z.ne.2.1]; exact Z.e6, ha⟩
    exact ⟨G, m, key.1, key.2, Nat.le_refl _, by omega, Z'.ok Y.pb Y.nd Y.kb Y.len⟩
  · obtain ⟨a, sl, tb, Z⟩ := Y.sha ha
    have e1 := Z.e1
    have hT := X.t
    refine s_if W (z := false) (by tb_start) ?_
    rw [if_neg (by decide)]
    refine s_attrE W (we_m W (a := T) (C := 101) (f := 91) (by tb_start) hT rfl rfl (wes_p W (vs := [.ref a]) (by tb_start) ((k_shut (n := n) W X Z.ht hm).mono fun v H1 ⟨G1, m1, c, hv, X1, E1, g1, g2, g3⟩ => ?_)))
    subst hv
    have Z1 := Z.tree E1
    have es := E1.sa
    rw [← es]
    have f1 := Z1.e1
    refine ⟨G1.sa j, 190, _, by tb_start, f1, rfl, by simp, s_end (ws_nil ?_)⟩
    have Z2 := Z1.shape (c := c) { s with op := false } rfl ha g3
    have key := X1.upd1 (j := j) (x := G1.sa j) (o := .inst 190 [(27, .ref T), (8, .int (G1.sn j)), (19, .ref c), (28, .ref sl), (29, .ref tb), (30, .bool false), (31, .none), (32, .bool true)]) (by rw [Z1.e2]; rfl) (some_ne f1) fun _ => ⟨_, rfl, by simp⟩
    have ef : fput [(27, V.ref T), (8, V.int (G1.sn j)), (19, V.ref a), (28, V.ref sl), (29, V.ref tb), (30, V.bool false), (31, V.none), (32, V.bool true)] 19 (V.ref c) = [(27, .ref T), (8, .int (G1.sn j)), (19, .ref c), (28, .ref sl), (29, .ref tb), (30, .bool false), (31, .none), (32, .bool true)] := by simp [fput]
    rw [ef]
    exact ⟨G1, m1, key.1, (E1.mono (isTr_modS j)).trans key.2, g1, g2, Z2.ok (by rw [E1.ns]; exact Y.pb) Y.nd Y.kb Y.len⟩
end



section
variable {D : Amb} {n : Nat} {T R : Addr} {L : Int} {m : Nat} {G G' : Gh} {H H' : AH} {j : Nat} {s : SD}

theorem sFs_put (num : Int) (sh sh' ap : V) (sl tb : Addr) (al ao : Bool) : fput [(27, V.ref T), (8, V.int num), (19, sh), (28, V.ref sl), (29, V.ref tb), (30, V.bool al), (31, ap), (32, V.bool ao)] 19 sh' = [(27, V.ref T), (8, V.int num), (19, sh'), (28, V.ref sl), (29, V.ref tb), (30, V.bool al), (31, ap), (32, V.bool ao)] := by simp [fput]
theorem Sha.finish (X : TI T R L m G H) {a sl tb c : Addr} (Z : Sha T G H j s a sl tb) (s' : SD) (hv : valR s'.rows = valR s.rows) (ha : s'.al = false) (hc : G.tr s'.info = some c) (pb : s'.p ≤ G.ns) (nd : (s'.rows.map (·.1)).Nodup) (kb : ∀ r ∈ s'.rows, r.1 < 95) (len : s'.rows.length < 1000) :
    TI T R L m G (upd H (G.sa j) (.inst 190 (fput [(27, V.ref T), (8, V.int (G.sn j)), (19, V.ref a), (28, V.ref sl), (29, V.ref tb), (30, V.bool false), (31, V.none), (32, V.bool true)] 19 (V.ref c)))) ∧
    Ext (modS j) G H G (upd H (G.sa j) (.inst 190 (fput [(27, V.ref T), (8, V.int (G.sn j)), (19, V.ref a), (28, V.ref sl), (29, V.ref tb), (30, V.bool false), (31, V.none), (32, V.bool true)] 19 (V.ref c)))) ∧
    SOk T G (upd H (G.sa j) (.inst 190 (fput [(27, V.ref T), (8, V.int (G.sn j)), (19, V.ref a), (28, V.ref sl), (29, V.ref tb), (30, V.bool false), (31, V.none), (32, V.bool true)] 19 (V.ref c)))) j s' := by
  rw [sFs_put]
  have key := X.upd1 (j := j) (x := G.sa j) (o := .inst 190 [(27, .ref T), (8, .int (G.sn j)), (19, .ref c), (28, .ref sl), (29, .ref tb), (30, .bool false), (31, .none), (32, .bool true)]) (by rw [Z.e2]; rfl) (some_ne Z.e1) fun _ => ⟨_, rfl, by simp⟩
  exact ⟨key.1, key.2, (Z.shape s' hv ha hc).ok pb nd kb len⟩

theorem k_setproto (W : Facts D) (X : TI T R L m G H) (Y : SOk T G H j s) {q : Nat} (hq : q ≤ G.ns) (hm : m + 1000 < 800000) : WK D (n + 5) 187 [.ref (G.sa j), G.protoV q] H fun v H' => SP T R L m (s.rows.length + 2) G H j { s with p := q } H' := by
  refine wk_fn W.ro W.f187 rfl ?_
  unfold b_Store_set_proto
  have hl := Y.len
  rcases Bool.eq_false_or_eq_true s.al with ha | ha
  · obtain ⟨sh, sl, tb, xs, Z⟩ := Y.alo ha
    have e1 := Z.e1
    refine s_if W (z := true) (by tb_start) ?_
    rw [if_pos rfl]
    refine s_attr W (v := G.protoV q) (a := G.sa j) (by tb_start) (by tb_start) e1 rfl (len_ok rfl) (s_end (ws_nil ?_))
    have key := X.upd1 (j := j) (x := G.sa j) (o := .inst 190 (fput [(27, .ref T), (8, .int (G.sn j)), (19, sh), (28, .ref sl), (29, .ref tb), (30, .bool true), (31, G.protoV s.p), (32, .bool s.op)] 31 (G.protoV q))) (by rw [Z.e2]; rfl) (some_ne e1) fun _ => ⟨_, rfl, by simp [fput]⟩
    have Z' : Alo T G (upd H (G.sa j) (.inst 190 (fput [(27, .ref T), (8, .int (G.sn j)), (19, sh), (28, .ref sl), (29, .ref tb), (30, .bool true), (31, G.protoV s.p), (32, .bool s.op)] 31 (G.protoV q)))) j { s with p := q } sh sl tb xs :=
      ⟨by rw [upd_self]; simp [fput], Z.e2, Z.e3, Z.e4, by rw [upd_ne Z.ne.1]; exact Z.e5, by rw [upd_ne Z.ne.2.1]; exact Z.e6, ha⟩
    exact ⟨G, m, key.1, key.2, Nat.le_refl _, by omega, Z'.ok hq Y.nd Y.kb Y.len⟩
  · obtain ⟨a, sl, tb, Z⟩ := Y.sha ha
    have e1 := Z.e1
    have hT := X.t
    obtain ⟨l, pv, g⟩ := shape_at X Z.ht
    refine s_if W (z := false) (by tb_start) ?_
    rw [if_neg (by decide)]
    refine s_attrE W (we_m W (a := T) (C := 101) (f := 98) (by tb_start) hT rfl rfl (wes_cons (we_m W (a := a) (C := 45) (f := 35) (by tb_start) g rfl rfl (wes_p W rfl ((k_rows (n := n + 3) W X.chain Z.ht (by rw [SD.info, shR_len]; omega)).mono fun v H1 ⟨b, hv, hb, hH1⟩ => wes_p W (vs := [G.protoV q, .bool s.op]) ?_ ?_)))))
    · have ba := ne_of_live (some_ne g) hb
      have bs := ne_of_live (some_ne e1) hb
      unfold Gh.fs at g
      subst hH1; tb_start
    · subst hv
      have N : NewH H H1 := by rw [hH1]; exact NewH.upd hb
      have E1 := Ext.new (G := G) isTr N
      refine (k_built (n := n) W (X.new N) hq (b := b) (rows := shR s.rows) (by rw [hH1, upd_self]; rfl) (free_not X hb) (shR_nodup Y.nd) s.op (by rw [shR_len]; omega)).mono fun v H2 ⟨G2, m2, c, hv, X2, E2, g1, g2, g3⟩ => ?_
      subst hv
      have E := E1.trans E2
      have Z2 := Z.tree E
      rw [← E.sa]
      rw [shR_len] at g2
      obtain ⟨k1, k2, k3⟩ := Z2.finish X2 (c := c) { s with p := q } rfl ha g3 (by rw [E.ns]; exact hq) Y.nd Y.kb Y.len
      exact ⟨G2.sa j, 190, _, by rw [E.sa]; tb_start, Z2.e1, rfl, by simp, s_end (ws_nil ⟨G2, m2, k1, (E.mono (isTr_modS j)).trans k2, g1, g2, k3⟩)⟩

theorem rowsV_set (rows : List (Nat × (Int × Int))) (i k : Nat) (f v : Int) : (rowsV (shR rows)).set i (.tup [.str k, .int f]) = rowsV (shR (rows.set i (k, (f, v)))) := by
  unfold rowsV shR
  rw [List.map_set, List.map_set]
theorem valR_set {rows : List (Nat × (Int × Int))} {i k : Nat} {f f' v : Int} (h : rows[i]? = some (k, (f', v))) : valR (rows.set i (k, (f, v))) = valR rows := by
  unfold valR
  rw [List.map_set]
  refine List.ext_getElem? fun x => ?_
  rw [List.getElem?_set]
  split
  · rename_i e; subst e
    split
    · rw [List.getElem?_map, h]; rfl
    · rename_i e2; exact absurd (by rw [List.length_map]; exact (List.getElem?_eq_some_iff.mp h).1) e2
  · rfl
theorem keys_set {rows : List (Nat × (Int × Int))} {i k : Nat} {r r' : Int × Int} (h : rows[i]? = some (k, r')) : (rows.set i (k, r)).map (·.1) = rows.map (·.1) := by
  rw [List.map_set]
  refine List.ext_getElem? fun x => ?_
  rw [List.getElem?_set]
  split
  · rename_i e; subst e
    split
    · rw [List.getElem?_map, h]; rfl
    · rename_i e2; exact absurd (by rw [List.length_map]; exact (List.getElem?_eq_some_iff.mp h).1) e2
  · rfl
theorem kb_of {rows rows' : List (Nat × (Int × Int))} (h : rows'.map (·.1) = rows.map (·.1)) (kb : ∀ r ∈ rows, r.1 < 95) : ∀ r ∈ rows', r.1 < 95 := fun r hr => by
  have : r.1 ∈ rows'.map (·.1) := List.mem_map.mpr ⟨r, hr, rfl⟩
  rw [h] at this
  obtain ⟨r', h1, h2⟩ := List.mem_map.mp this
  rw [← h2]; exact kb r' h1

theorem k_reflag (W : Facts D) (X : TI T R L m G H) (Y : SOk T G H j s) (ha : s.al = false) {i k : Nat} {f f0 v : Int} (hi : s.rows[i]? = some (k, (f0, v))) (hm : m + 1000 < 800000) :
    WK D (n + 5) 166 [.ref (G.sa j), .int (i : Int), .int f] H fun _ H' => SP T R L m (s.rows.length + 2) G H j { s with rows := s.rows.set i (k, (f, v)) } H' := by
  refine wk_fn W.ro W.f166 rfl ?_
  unfold b_Store_reflag
  have hl := Y.len
  obtain ⟨a, sl, tb, Z⟩ := Y.sha ha
  have e1 := Z.e1
  have hT := X.t
  obtain ⟨l, pv, g⟩ := shape_at X Z.ht
  refine s_varE rfl (we_m W (a := a) (C := 45) (f := 35) (by tb_start) g rfl rfl (wes_p W rfl ((k_rows (n := n + 3) W X.chain Z.ht (by rw [SD.info, shR_len]; omega)).mono fun v1 H1 ⟨b, hv, hb, hH1⟩ => ?_)))
  subst hv; subst hH1
  have hlt := (List.getElem?_eq_some_iff.mp hi).1
  have hri : (rowsV s.info.rows)[i]? = some (.tup [.str k, .int f0]) := by
    unfold rowsV SD.info shR
    dsimp only
    rw [List.map_map, List.getElem?_map, hi]; rfl
  have hi2 : (i : Int) < 1000000 := by omega
  have hi3 : ¬ ((i : Int) = -1) := by omega
  have hln : (rowsV s.info.rows).length = s.rows.length := by simp [rowsV, SD.info, shR]
  have hln2 : s.rows.length < 1000000 := by omega
  refine s_itemE W (we_p W (v := .tup [.str k, .int f]) (by tb_start; exact i_list (upd_self _ _ _) (sget_nat hri (by omega)); rfl) ⟨.ref b, .int i, b, .list ((rowsV s.info.rows).set i (.tup [.str k, .int f])), by tb_start, by tb_start, put_list (by tb_start) ⟨Int.natCast_nonneg _, by rw [hln]; exact Int.ofNat_lt.mpr hlt, by rw [hln]; exact hln2⟩, ?_⟩)
  rw [upd_upd]
  have er : (rowsV s.info.rows).set i (.tup [.str k, .int f]) = rowsV (shR (s.rows.set i (k, (f, v)))) := rowsV_set s.rows i k f v
  rw [er]
  have ba := ne_of_live (some_ne g) hb
  have bs := ne_of_live (some_ne e1) hb
  have bT := ne_of_live (some_ne hT) hb
  have hks := keys_set (r := (f, v)) hi
  have N : NewH H (upd H b (.list (rowsV (shR (s.rows.set i (k, (f, v))))))) := NewH.upd hb
  have E1 := Ext.new (G := G) isTr N
  refine s_attrE W (we_m W (a := T) (C := 101) (f := 98) (by tb_start) ((upd_ne bT).trans hT) rfl rfl (wes_p W (vs := [.ref b, G.protoV s.p, .bool s.op]) ?_ ?_))
  · unfold Gh.fs at g
    first | (tb_start; done) | (tb_start; exact ⟨rfl, rfl⟩)
  refine (k_built (n := n) W (X.new N) Y.pb (b := b) (rows := shR (s.rows.set i (k, (f, v)))) (upd_self _ _ _) (free_not X hb) (shR_nodup (by rw [hks]; exact Y.nd)) s.op (by rw [shR_len, List.length_set]; omega)).mono fun v2 H2 ⟨G2, m2, c, hv, X2, E2, g1, g2, g3⟩ => ?_
  subst hv
  have E := E1.trans E2
  have Z2 := Z.tree E
  rw [← E.sa]
  rw [shR_len, List.length_set] at g2
  obtain ⟨k1, k2, k3⟩ := Z2.finish X2 (c := c) { s with rows := s.rows.set i (k, (f, v)) } (valR_set hi) ha g3 (by rw [E.ns]; exact Y.pb) (by rw [hks]; exact Y.nd) (kb_of hks Y.kb) (by rw [List.length_set]; exact Y.len)
  exact ⟨G2.sa j, 190, _, by rw [E.sa]; tb_start, Z2.e1, rfl, by simp, ws_nil ⟨G2, m2, k1, (E.mono (isTr_modS j)).trans k2, g1, g2, k3⟩⟩
end



theorem nm_beq (a b : Nat) : (nm a == nm b) = decide (a = b) := by
  by_cases e : a = b
  · simp [e]
  · rw [beq_eq_false_iff_ne.mpr (fun q => e (nm_inj q))]; simp [e]
theorem cmp_str (H : AH) {a b : Nat} (ha : a < 95) (hb : b < 95) : cmpV H .Eq (.str a) (.str b) = some (decide (a = b)) := by
  simp [cmpV, dOf, NN, ha, hb, PyData.eqv, nm_beq]
theorem cmp_none (H : AH) {b : Nat} (hb : b < 95) : cmpV H .Eq .none (.str b) = some false := by
  simp [cmpV, dOf, NN, hb, PyData.eqv]
theorem ddel_no {α : Type} {rows : List (Nat × α)} {k : Nat} (h : dget rows k = none) : ddel rows k = rows := by
  unfold ddel
  refine List.filter_eq_self.mpr fun r hr => ?_
  simp only [decide_eq_true_eq]
  intro q
  unfold dget at h
  rw [Option.map_eq_none_iff, List.find?_eq_none] at h
  exact h r hr (by simpa using q)
theorem ddel_mp {α β : Type} (f : α → β) (l : List (Nat × α)) (k : Nat) : ddel (l.map fun r => (r.1, f r.2)) k = (ddel l k).map fun r => (r.1, f r.2) := by
  unfold ddel
  rw [List.filter_map]; rfl
theorem tbR_ddel (rows : List (Nat × (Int × Int))) (k : Nat) : ddel (tbR rows) k = tbR (ddel rows k) := ddel_mp (fun r : Int × Int => V.tup [.int r.1, .int r.2]) rows k
theorem ddel_sub {α : Type} (l : List (Nat × α)) (k : Nat) : ∀ r ∈ ddel l k, r ∈ l := fun r hr => (List.mem_filter.mp hr).1
theorem ddel_nodup {α : Type} {l : List (Nat × α)} (h : (l.map (·.1)).Nodup) (k : Nat) : ((ddel l k).map (·.1)).Nodup := by
  unfold ddel
  exact List.Nodup.sublist (List.Sublist.map _ List.filter_sublist) h
theorem ddel_len {α : Type} (l : List (Nat × α)) (k : Nat) : (ddel l k).length ≤ l.length := List.length_filter_le _ _
theorem ddel_last {α : Type} {r : List (Nat × α)} {k : Nat} {x : α} (h : ((r ++ [(k, x)]).map (·.1)).Nodup) : ddel (r ++ [(k, x)]) k = r := by
  unfold ddel
  rw [List.filter_append]
  have h1 : r.filter (fun kv => decide (kv.1 ≠ k)) = r := by
    refine List.filter_eq_self.mpr fun y hy => ?_
    rw [List.map_append, List.nodup_append] at h
    simp only [ne_eq, decide_not, Bool.not_eq_true', decide_eq_false_iff_not]
    exact h.2.2 y.1 (List.mem_map.mpr ⟨y, hy, rfl⟩) k (by simp)
  rw [h1]
  simp
noncomputable def lastIs (rows : List (Nat × (Int × Int))) (k : Nat) : Bool := match rows.getLast? with
  | some r => decide (r.1 = k)
  | none => false
noncomputable def SD.rem (s : SD) (k : Nat) : SD := ⟨s.p, ddel s.rows k, s.op, s.al || ((dget s.rows k).isSome && !(s.op && lastIs s.rows k))⟩

section
variable {D : Amb} {n : Nat} {T R : Addr} {L : Int} {m : Nat} {G G' : Gh} {H H' : AH} {j : Nat} {s : SD}
theorem Alo.tbl {sh : V} {sl tb : Addr} {xs : List V} (X : TI T R L m G H) (Z : Alo T G H j s sh sl tb xs) (s' : SD) (h1 : s'.p = s.p) (h2 : s'.op = s.op) (h3 : s'.al = true) (nd : (s'.rows.map (·.1)).Nodup) (kb : ∀ r ∈ s'.rows, r.1 < 95) (len : s'.rows.length < 1000) (pb : s.p ≤ G.ns) :
    TI T R L m G (upd H tb (.sd (tbR s'.rows))) ∧ Ext (modS j) G H G (upd H tb (.sd (tbR s'.rows))) ∧ SOk T G (upd H tb (.sd (tbR s'.rows))) j s' := by
  have key := X.upd1 (j := j) (x := tb) (o := .sd (tbR s'.rows)) (by rw [Z.e4]; rfl) (some_ne Z.e6) fun q => absurd q Z.ne.2.1
  have Z' : Alo T G (upd H tb (.sd (tbR s'.rows))) j s' sh sl tb xs := ⟨by rw [upd_ne (Ne.symm Z.ne.2.1), h1, h2]; exact Z.e1, Z.e2, Z.e3, Z.e4, by rw [upd_ne (Ne.symm Z.ne.2.2)]; exact Z.e5, upd_self _ _ _, h3⟩
  exact ⟨key.1, key.2, Z'.ok (by rw [h1]; exact pb) nd kb len⟩
theorem k_remove (W : Facts D) (X : TI T R L m G H) (Y : SOk T G H j s) {k : Nat} (hk : k < 95) : WK D (n + 4) 173 [.ref (G.sa j), .str k] H fun v H' => SP T R L m 0 G H j (s.rem k) H' := by
  refine wk_fn W.ro W.f173 rfl ?_
  unfold b_Store_remove
  have hl := Y.len
  have nd' := ddel_nodup Y.nd k
  have kb' : ∀ r ∈ ddel s.rows k, r.1 < 95 := fun r hr => Y.kb r (ddel_sub _ _ r hr)
  have ln' : (ddel s.rows k).length < 1000 := Nat.lt_of_le_of_lt (ddel_len _ _) Y.len
  rcases Bool.eq_false_or_eq_true s.al with ha | ha
  · obtain ⟨sh, sl, tb, xs, Z⟩ := Y.alo ha
    have e1 := Z.e1
    have e6 := Z.e6
    have hpl : (tbR s.rows).length < 1000000 := by unfold tbR; simp; omega
    refine s_if W (z := true) (by tb_start) ?_
    rw [if_pos rfl]
    refine s_exE (we_pop2 W.ro (we_p W (v := .ref tb) (by tb_start) ⟨tb, _, rfl, e6, we_p W (v := .str k) (by tb_start) (we_p W (v := .none) rfl ⟨k, _, rfl, e6, hpl, s_end (ws_nil ?_)⟩)⟩))
    rw [tbR_ddel]
    obtain ⟨k1, k2, k3⟩ := Z.tbl X (s.rem k) rfl rfl (by simp [SD.rem, ha]) nd' kb' ln' Y.pb
    exact ⟨G, m, k1, k2, Nat.le_refl _, Nat.le_refl _, k3⟩
  · obtain ⟨a, sl, tb, Z⟩ := Y.sha ha
    have e1 := Z.e1
    have e5 := Z.e5
    have hT := X.t
    obtain ⟨l, pv, g⟩ := shape_at X Z.ht
    have g0 := g
    unfold Gh.fs at g
    refine s_if W (z := false) (by tb_start) ?_
    rw [if_neg (by decide)]
    -- the way over the place
    have over : evB H (fun i => dget (p_Store_remove.zip [.ref (G.sa j), .str k]) i) (.cmp .Eq (.attr (.attr (.var 7) 19) 11) (.var 11)) = some false → (s.op && lastIs s.rows k) = false →
        WS D (n + 3) [.ife (.cmp .Eq (.attr (.attr (.var 7) 19) 11) (.var 11)) [.asg (.attr (.var 7) 19) (.attr (.attr (.var 7) 19) 9), .ex (.meth (.attr (.var 7) 28) 59 [])] [.ife (.cmp .IsNot (.meth (.attr (.var 7) 19) 33 [.var 11]) (.none)) [.ex (.meth (.var 7) 68 []), .ex (.meth (.attr (.var 7) 29) 59 [.var 11, .none])] []]]
          (fun i => dget (p_Store_remove.zip [.ref (G.sa j), .str k]) i) H (Then D (n + 3) [] (Ends fun v H' => SP T R L m 0 G H j (s.rem k) H')) := fun hc hlast => by
      clear g
      refine s_if W (z := false) hc ?_
      rw [if_neg (by decide)]
      refine s_ifE (wb_cmp (we_m W (a := a) (C := 45) (f := 42) (by tb_start) g0 rfl rfl (wes_p W (vs := [.str k]) (by tb_start) ((k_place (n := n + 1) W X Z.ht (by rw [SD.info, shR_len]; omega) k).mono fun v H1 ⟨ro, X1, E1, hv⟩ => we_p W (v := .none) rfl ?_))))
      have Y1 := Y.tree E1
      rcases place_of Y.nd k with ⟨h1, h2⟩ | ⟨i, f, v0, h1, h2, h3⟩
      · have h2' : placeV s.info.rows k = .none := h2
        refine ⟨false, by rw [hv, h2']; rfl, ?_⟩
        rw [if_neg (by decide)]
        refine s_end (s_end (s_end (ws_nil ⟨_, m, X1, E1.mono (isTr_modS j), Nat.le_refl _, Nat.le_refl _, ?_⟩)))
        have : s.rem k = s := by
          unfold SD.rem
          rw [ddel_no h1, h1]
          simp
        rw [this]; exact Y1
      · have h3' : placeV s.info.rows k = .tup [.int (i : Int), .int f] := h3
        refine ⟨true, by rw [hv, h3']; rfl, ?_⟩
        rw [if_pos rfl]
        have Z1 := Z.tree E1
        refine s_exE (we_m W (a := G.sa j) (C := 190) (f := 152) (by tb_start) Z1.e1 rfl rfl (wes_p W rfl ((k_alone (n := n) W X1 Y1).mono fun v2 H2 ⟨ro2, X2, E2, Y2⟩ => ?_)))
        obtain ⟨sh2, sl2, tb2, xs2, Z2⟩ := Y2.alo rfl
        have d1 := Z2.e1
        have d6 := Z2.e6
        have hpl : (tbR s.rows).length < 1000000 := by unfold tbR; simp; omega
        refine s_exE (we_pop2 W.ro (we_p W (v := .ref tb2) (by tb_start) ⟨tb2, _, rfl, d6, we_p W (v := .str k) (by tb_start) (we_p W (v := .none) rfl ⟨k, _, rfl, d6, hpl, s_end (s_end (s_end (ws_nil ?_)))⟩)⟩))
        rw [tbR_ddel]
        obtain ⟨k1, k2, k3⟩ := Z2.tbl X2 (s.rem k) rfl rfl (by unfold SD.rem; rw [h2, hlast, ha]; rfl) nd' kb' ln' Y.pb
        exact ⟨_, m, k1, ((E1.mono (isTr_modS j)).trans E2).trans k2, Nat.le_refl _, Nat.le_refl _, k3⟩
    clear g0
    rcases X.chain.back_cases Z.ht with ⟨ho, hkv, b', hbv, hb'⟩ | ⟨ho, hrows, hkv, hbv⟩ | ⟨ho, r, kk, ff, b', hrows, hkv, hfl, hbv, hb'⟩
    · have ho : s.op = false := ho
      rw [hkv] at g
      refine over ?_ (by rw [ho]; rfl)
      have := cmp_none H hk
      tb_start
    · have hrows : shR s.rows = [] := hrows
      rw [hkv] at g
      have hr0 : s.rows = [] := by unfold shR at hrows; simpa using hrows
      refine over ?_ (by rw [hr0]; simp [lastIs])
      have := cmp_none H hk
      tb_start
    · have ho : s.op = true := ho
      have hrows : shR s.rows = r ++ [(kk, ff)] := hrows
      rw [hkv, hbv] at g
      rcases List.eq_nil_or_concat s.rows with h0 | ⟨r0, ⟨k0, f0, v0⟩, h0⟩
      · rw [h0] at hrows; simp [shR] at hrows
      · rw [List.concat_eq_append] at h0
        have hr' : shR r0 ++ [(k0, f0)] = r ++ [(kk, ff)] := by rw [← hrows, h0]; simp [shR]
        obtain ⟨q1, q2⟩ := List.append_inj' hr' rfl
        simp only [List.cons.injEq, Prod.mk.injEq, and_true] at q2
        obtain ⟨rfl, rfl⟩ := q2
        have hkk : k0 < 95 := Y.kb (k0, f0, v0) (by rw [h0]; simp)
        have hlast : lastIs s.rows k = decide (k0 = k) := by unfold lastIs; rw [h0]; simp
        have hcc := cmp_str H hkk hk
        by_cases e : k0 = k
        · have hcc := hcc.trans (congrArg some (decide_eq_true e))
          subst e
          refine s_if W (z := true) (by tb_start) ?_
          rw [if_pos rfl]
          have as : G.sa j ≠ a := fun q => by rw [q, g] at e1; cases e1
          have hv1 : valR s.rows = valR r0 ++ [.int v0] := by rw [h0]; simp [valR]
          have hvl : (valR s.rows).length < 1000000 := by unfold valR; simp; omega
          refine s_attr W (v := .ref b') (a := G.sa j) (by tb_start) (by tb_start) e1 rfl (len_ok rfl) ?_
          refine s_exE (we_pop W.ro (we_p W (v := .ref sl) (by tb_start) ⟨sl, valR s.rows, .int v0, rfl, (upd_ne Z.ne.1).trans e5, hvl, by rw [hv1]; simp, s_end (s_end (ws_nil ?_))⟩))
          have hdl : (valR s.rows).dropLast = valR r0 := by rw [hv1]; simp
          rw [hdl, sFs_put]
          have hdd : ddel s.rows k0 = r0 := by rw [h0]; exact ddel_last (by rw [← h0]; exact Y.nd)
          have hrem : s.rem k0 = ⟨s.p, r0, true, false⟩ := by
            unfold SD.rem
            rw [hdd, ha, ho, hlast]
            simp
          rw [hrem]
          have key := X.upd1 (j := j) (x := G.sa j) (o := .inst 190 [(27, V.ref T), (8, V.int (G.sn j)), (19, V.ref b'), (28, V.ref sl), (29, V.ref tb), (30, V.bool false), (31, V.none), (32, V.bool true)]) (by rw [Z.e2]; rfl) (some_ne e1) fun _ => ⟨_, rfl, by simp⟩
          have key2 := key.1.upd1 (j := j) (x := sl) (o := .list (valR r0)) (by rw [Z.e3]; rfl) (some_ne ((upd_ne Z.ne.1).trans e5)) fun q => absurd q Z.ne.1
          have Z' : Sha T G (upd (upd H (G.sa j) (.inst 190 [(27, V.ref T), (8, V.int (G.sn j)), (19, V.ref b'), (28, V.ref sl), (29, V.ref tb), (30, V.bool false), (31, V.none), (32, V.bool true)])) sl (.list (valR r0))) j ⟨s.p, r0, true, false⟩ b' sl tb :=
            ⟨(upd_ne (Ne.symm Z.ne.1)).trans (upd_self _ _ _), Z.e2, Z.e3, Z.e4, upd_self _ _ _, (upd_ne Z.ne.2.2).trans ((upd_ne Z.ne.2.1).trans Z.e6), by show G.tr ⟨s.p, shR r0, true⟩ = some b'; rw [q1]; exact hb', rfl⟩
          have nd0 : (r0.map (·.1)).Nodup := by rw [← hdd]; exact nd'
          exact ⟨G, m, key2.1, key.2.trans key2.2, Nat.le_refl _, Nat.le_refl _, Z'.ok Y.pb nd0 (fun r hr => Y.kb r (by rw [h0]; simp [hr])) (by rw [h0] at hl; simp at hl; show r0.length < 1000; omega)⟩
        · have hcc := hcc.trans (congrArg some (decide_eq_false e))
          refine over (by tb_start) (by rw [hlast]; simp [e])
end



theorem any_get {α : Type} (rows : List (Nat × α)) (k : Nat) : rows.any (fun kv => decide (kv.1 = k)) = (dget rows k).isSome := by
  induction rows with
  | nil => rfl
  | cons x l ih =>
    obtain ⟨a, b⟩ := x
    rw [List.any_cons, dget_cons, ih]
    by_cases e : a = k <;> simp [e]
theorem dset_mp {α β : Type} (f : α → β) (l : List (Nat × α)) (k : Nat) (v : α) : dset (l.map fun r => (r.1, f r.2)) k (f v) = (dset l k v).map fun r => (r.1, f r.2) := by
  unfold dset
  rw [any_get, any_get, dget_map]
  cases h : (dget l k).isSome with
  | true =>
    rw [if_pos (by rw [Option.isSome_map, h]), if_pos rfl, List.map_map, List.map_map]
    refine List.map_congr_left fun r _ => ?_
    simp only [Function.comp_apply]
    split <;> rfl
  | false =>
    rw [if_neg (by rw [Option.isSome_map, h]; decide), if_neg (by decide), List.map_append]; rfl
theorem tbR_dset (rows : List (Nat × (Int × Int))) (k : Nat) (r : Int × Int) : dset (tbR rows) k (.tup [.int r.1, .int r.2]) = tbR (dset rows k r) := dset_mp (fun r : Int × Int => V.tup [.int r.1, .int r.2]) rows k r
theorem dget_none_keys {α : Type} {rows : List (Nat × α)} {k : Nat} (h : dget rows k = none) : k ∉ rows.map (·.1) := by
  intro q
  obtain ⟨r, hr, e⟩ := List.mem_map.mp q
  have : rows.any (fun kv => decide (kv.1 = k)) = true := List.any_eq_true.mpr ⟨r, hr, by simpa using e⟩
  rw [any_get, h] at this; cases this
theorem dset_keys {α : Type} (rows : List (Nat × α)) (k : Nat) (v : α) : (dset rows k v).map (·.1) = if (dget rows k).isSome then rows.map (·.1) else rows.map (·.1) ++ [k] := by
  unfold dset
  rw [any_get]
  split
  · rw [List.map_map]
    refine List.map_congr_left fun r _ => ?_
    simp only [Function.comp_apply]
    split <;> rfl
  · rw [List.map_append]; rfl
theorem dset_nodup {α : Type} {rows : List (Nat × α)} (h : (rows.map (·.1)).Nodup) (k : Nat) (v : α) : ((dset rows k v).map (·.1)).Nodup := by
  rw [dset_keys]
  split
  · exact h
  · rename_i e
    rw [List.nodup_append]
    refine ⟨h, by simp, fun x hx y hy => ?_⟩
    simp at hy; subst hy
    exact fun q => dget_none_keys (by simpa using e) (by rw [← q]; exact hx)
theorem dset_kb {rows : List (Nat × (Int × Int))} (kb : ∀ r ∈ rows, r.1 < 95) {k : Nat} (hk : k < 95) (v : Int × Int) : ∀ r ∈ dset rows k v, r.1 < 95 := fun r hr => by
  have : r.1 ∈ (dset rows k v).map (·.1) := List.mem_map.mpr ⟨r, hr, rfl⟩
  rw [dset_keys] at this
  have old : r.1 ∈ rows.map (·.1) → r.1 < 95 := fun q => by
    obtain ⟨r', h1, h2⟩ := List.mem_map.mp q
    rw [← h2]; exact kb r' h1
  split at this
  · exact old this
  · rcases List.mem_append.mp this with q | q
    · exact old q
    · simp at q; rw [q]; exact hk
theorem dset_set {rows : List (Nat × (Int × Int))} {i k : Nat} {r r0 : Int × Int} (hn : (rows.map (·.1)).Nodup) (h : rows[i]? = some (k, r0)) : dset rows k r = rows.set i (k, r) := by
  induction rows generalizing i with
  | nil => simp at h
  | cons x l ih =>
    obtain ⟨a, b⟩ := x
    rw [List.map_cons, List.nodup_cons] at hn
    cases i with
    | zero =>
      simp only [List.getElem?_cons_zero, Option.some.injEq, Prod.mk.injEq] at h
      obtain ⟨rfl, rfl⟩ := h
      unfold dset
      rw [if_pos (by simp)]
      simp only [List.map_cons, if_true, List.set_cons_zero, List.cons.injEq, true_and]
      refine (List.map_congr_left fun y hy => ?_).trans (List.map_id _)
      exact if_neg fun q => hn.1 (List.mem_map.mpr ⟨y, hy, q⟩)
    | succ i =>
      rw [List.getElem?_cons_succ] at h
      have hak : a ≠ k := fun q => hn.1 (List.mem_map.mpr ⟨(k, r0), List.mem_of_getElem? h, q.symm⟩)
      have := ih hn.2 h
      rw [List.set_cons_succ, ← this]
      unfold dset
      rw [any_get, any_get, dget_cons, if_neg hak, dget_idx hn.2 h]
      simp [hak]
noncomputable def SD.put (L : Int) (s : SD) (k : Nat) (f v : Int) : SD := ⟨s.p, dset s.rows k (f, v), s.op, s.al || ((dget s.rows k).isNone && (decide (L ≤ s.rows.length) || !s.op))⟩

section
variable {D : Amb} {n : Nat} {T R : Addr} {L : Int} {m : Nat} {G G' : Gh} {H H' : AH} {j : Nat} {s : SD}
theorem k_put (W : Facts D) (X : TI T R L m G H) (Y : SOk T G H j s) {k : Nat} (hk : k < 95) (f v : Int) (hs : s.rows.length < 900) (hm : m + 1000 < 800000) : WK D (n + 6) 159 [.ref (G.sa j), .str k, .int f, .int v] H fun _ H' => SP T R L m (s.rows.length + 2) G H j (s.put L k f v) H' := by
  refine wk_fn W.ro W.f159 rfl ?_
  unfold b_Store_put
  have nd' := dset_nodup Y.nd k (f, v)
  have kb' := dset_kb Y.kb hk (f, v)
  have ln' : (dset s.rows k (f, v)).length < 1000 := Nat.lt_of_le_of_lt (dset_length _ _ _) (by omega)
  have hpl : (tbR s.rows).length < 1000000 := by unfold tbR; simp; omega
  rcases Bool.eq_false_or_eq_true s.al with ha | ha
  · obtain ⟨sh, sl, tb, xs, Z⟩ := Y.alo ha
    have e1 := Z.e1
    have e6 := Z.e6
    refine s_var W (v := .none) rfl (by tb_start) ?_
    refine s_if W (z := false) (by tb_start) (s_end ?_)
    refine s_if W (z := true) (by tb_start) ?_
    rw [if_pos rfl]
    refine s_itemE W (we_p W (v := .tup [.int f, .int v]) (by tb_start) ⟨.ref tb, .str k, tb, .sd (dset (tbR s.rows) k (.tup [.int f, .int v])), by tb_start, by tb_start, by simp [putV, putO, e6, hpl], s_end (ws_nil ?_)⟩)
    have e := tbR_dset s.rows k (f, v)
    dsimp only at e
    rw [e]
    obtain ⟨k1, k2, k3⟩ := Z.tbl X (s.put L k f v) rfl rfl (by simp [SD.put, ha]) nd' kb' ln' Y.pb
    exact ⟨G, m, k1, k2, Nat.le_refl _, by omega, k3⟩
  · obtain ⟨a, sl, tb, Z⟩ := Y.sha ha
    have e1 := Z.e1
    obtain ⟨l, pv, g⟩ := shape_at X Z.ht
    refine s_varE rfl (we_ife (wb_p W (b := false) (by tb_start) ?_))
    rw [if_neg (by decide)]
    refine we_m W (a := a) (C := 45) (f := 42) (by tb_start) g rfl rfl (wes_p W (vs := [.str k]) (by tb_start) ((k_place (n := n + 3) W X Z.ht (by rw [SD.info, shR_len]; omega) k).mono fun v1 H1 ⟨ro, X1, E1, hv⟩ => ?_))
    have Y1 := Y.tree E1
    have Z1 := Z.tree E1
    have d1 : H1 (G.sa j) = _ := Z1.e1
    have d5 := Z1.e5
    obtain ⟨l1, pv1, g1⟩ := shape_at X1 Z1.ht
    have hT1 := X1.t
    have E1m := E1.mono (isTr_modS j)
    have d1' : H1 (G.sa j) = some (.inst 190 [(27, .ref T), (8, .int (G.sn j)), (19, .ref a), (28, .ref sl), (29, .ref tb), (30, .bool false), (31, .none), (32, .bool true)]) := d1
    clear d1
    rcases place_of Y.nd k with ⟨h1, h2⟩ | ⟨i, f0, v0, h1, h2, h3⟩
    · have h2' : placeV s.info.rows k = .none := h2
      rw [h2'] at hv
      subst hv
      have hsz : (s.info.rows.length : Int) = (s.rows.length : Int) := by rw [SD.info, shR_len]
      have g1' := g1
      unfold Gh.fs at g1'
      have hcond : evB H1 (lset (fun i => dget (p_Store_put.zip [.ref (G.sa j), .str k, .int f, .int v]) i) 33 .none) (.bop .And [.cmp .Is (.var 33) (.none), .not (.attr (.var 7) 30), .bop .Or [.cmp .GtE (.attr (.attr (.var 7) 19) 13) (.attr (.attr (.var 7) 27) 22), .not (.attr (.attr (.var 7) 19) 14)]]) = some (decide (L ≤ s.rows.length) || !s.op) := by
        exact b_and (and_T (by tb_start) (and_T (by tb_start) (b_and1 (b_or2 (b_cmp (x := .int s.info.rows.length) (y := .int L) (by tb_start) (by tb_start) (by rw [hsz]; rfl)) (b_not (b_attr (z := s.info.op) (by tb_start)) rfl)))))
      cases hc : (decide (L ≤ s.rows.length) || !s.op) with
      | true =>
        rw [hc] at hcond
        refine s_if W hcond ?_
        rw [if_pos rfl]
        refine s_exE (we_m W (a := G.sa j) (C := 190) (f := 152) (by tb_start) d1' rfl rfl (wes_p W rfl ((k_alone (n := n + 2) W X1 Y1).mono fun v2 H2 ⟨ro2, X2, E2, Y2⟩ => s_end ?_)))
        obtain ⟨sh2, sl2, tb2, xs2, Z2⟩ := Y2.alo rfl
        have c1 : H2 (G.sa j) = some (.inst 190 [(27, .ref T), (8, .int (G.sn j)), (19, sh2), (28, .ref sl2), (29, .ref tb2), (30, .bool true), (31, G.protoV s.p), (32, .bool s.op)]) := Z2.e1
        have c6 : H2 tb2 = some (.sd (tbR s.rows)) := Z2.e6
        refine s_if W (z := true) (by tb_start) ?_
        rw [if_pos rfl]
        refine s_itemE W (we_p W (v := .tup [.int f, .int v]) (by tb_start) ⟨.ref tb2, .str k, tb2, .sd (dset (tbR s.rows) k (.tup [.int f, .int v])), by tb_start, by tb_start, put_sd c6 hpl, s_end (ws_nil ?_)⟩)
        have e := tbR_dset s.rows k (f, v)
        dsimp only at e
        rw [e]
        obtain ⟨k1, k2, k3⟩ := Z2.tbl X2 (s.put L k f v) rfl rfl (by unfold SD.put; rw [h1, hc, ha]; rfl) nd' kb' ln' Y.pb
        exact ⟨_, m, k1, (E1m.trans E2).trans k2, Nat.le_refl _, by omega, k3⟩
      | false =>
        rw [hc] at hcond
        have hop : s.op = true := by
          rw [Bool.or_eq_false_iff] at hc
          simpa using hc.2
        refine s_if W hcond (s_end ?_)
        refine s_if W (z := false) (by tb_start) ?_
        rw [if_neg (by decide)]
        refine s_if W (z := true) (by tb_start) ?_
        rw [if_pos rfl]
        refine s_attrE W (we_m W (a := T) (C := 101) (f := 84) (by tb_start) hT1 rfl rfl (wes_p W (vs := [.ref a, .str k, .int f]) (by tb_start) ((k_added (n := n + 2) W X1 Z1.ht hop (k := k) (f := f) (by
          have := dget_none_keys h1
          unfold SD.info shR
          rw [List.map_map]; exact this) (by omega)).mono fun v2 H2 ⟨G2, m2, c, hv, X2, E2, q1, q2, q3⟩ => ?_)))
        subst hv
        have Z2 := Z1.tree E2
        have es : G2.sa = G.sa := E2.sa
        have c1 : H2 (G2.sa j) = _ := Z2.e1
        have c5 := Z2.e5
        refine ⟨G2.sa j, 190, _, by rw [es]; tb_start, c1, rfl, len_ok rfl, ?_⟩
        rw [sFs_put]
        have hvl : (valR s.rows).length < 1000000 := by unfold valR; simp; omega
        have hval : H2 sl = some (.list (valR s.rows)) := c5
        refine s_exE (we_append W.ro (we_p W (v := .ref sl) (by rw [es] at c1 ⊢; tb_start) ⟨sl, valR s.rows, rfl, (upd_ne Z2.ne.1).trans hval, we_p W (v := .int v) (by tb_start) ⟨valR s.rows, (upd_ne Z2.ne.1).trans hval, hvl, s_end (s_end (ws_nil ?_))⟩⟩))
        have hd : dset s.rows k (f, v) = s.rows ++ [(k, (f, v))] := dset_new _ _ _ (dget_none_keys h1)
        have hput : s.put L k f v = ⟨s.p, s.rows ++ [(k, (f, v))], s.op, false⟩ := by unfold SD.put; rw [hd, h1, hc, ha]; rfl
        have key := X2.upd1 (j := j) (x := G2.sa j) (o := .inst 190 [(27, V.ref T), (8, V.int (G2.sn j)), (19, V.ref c), (28, V.ref sl), (29, V.ref tb), (30, V.bool false), (31, V.none), (32, V.bool true)]) (by rw [Z2.e2]; rfl) (some_ne c1) fun _ => ⟨_, rfl, by simp⟩
        have key2 := key.1.upd1 (j := j) (x := sl) (o := .list (valR s.rows ++ [.int v])) (by rw [Z2.e3]; rfl) (some_ne ((upd_ne Z2.ne.1).trans hval)) fun q => absurd q Z2.ne.1
        have hinfo : (⟨s.p, s.rows ++ [(k, (f, v))], s.op, false⟩ : SD).info = s.info.add k f := by
          unfold SD.info Info.add shR
          rw [List.map_append, hop]; rfl
        have Z3 : Sha T G2 (upd (upd H2 (G2.sa j) (.inst 190 [(27, V.ref T), (8, V.int (G2.sn j)), (19, V.ref c), (28, V.ref sl), (29, V.ref tb), (30, V.bool false), (31, V.none), (32, V.bool true)])) sl (.list (valR s.rows ++ [.int v]))) j ⟨s.p, s.rows ++ [(k, (f, v))], s.op, false⟩ c sl tb :=
          ⟨(upd_ne (Ne.symm Z2.ne.1)).trans (upd_self _ _ _), Z2.e2, Z2.e3, Z2.e4, by rw [upd_self]; simp [valR], (upd_ne Z2.ne.2.2).trans ((upd_ne Z2.ne.2.1).trans Z2.e6), by rw [hinfo]; exact q3, rfl⟩
        rw [hput]
        have ens : G2.ns = G.ns := E2.ns
        exact ⟨G2, m2, key2.1, ((E1m.trans (E2.mono (isTr_modS j))).trans key.2).trans key2.2, q1, by omega, Z3.ok (by rw [ens]; exact Y.pb) (by rw [← hd]; exact nd') (by rw [← hd]; exact kb') (by rw [← hd]; exact ln')⟩
    · have h3' : placeV s.info.rows k = .tup [.int (i : Int), .int f0] := h3
      rw [h3'] at hv
      subst hv
      have hlt := (List.getElem?_eq_some_iff.mp h1).1
      have hi2 : (i : Int) < 1000000 := by omega
      have hi3 : ¬ ((i : Int) = -1) := by omega
      refine s_if W (z := false) (by tb_start) (s_end ?_)
      refine s_if W (z := false) (by tb_start) ?_
      rw [if_neg (by decide)]
      refine s_if W (z := false) (by tb_start) ?_
      rw [if_neg (by decide)]
      have hvlen : (valR s.rows).length = s.rows.length := by simp [valR]
      have hvl2 : s.rows.length < 1000000 := by omega
      refine s_itemE W (we_p W (v := .int v) (by tb_start) ⟨.ref sl, .int i, sl, .list ((valR s.rows).set i (.int v)), by tb_start, by tb_start, put_list d5 (by omega), ?_⟩)
      have hset : (valR s.rows).set i (.int v) = valR (s.rows.set i (k, (f0, v))) := by unfold valR; rw [List.map_set]
      rw [hset]
      have hks := keys_set (r := (f0, v)) h1
      have key := X1.upd1 (j := j) (x := sl) (o := .list (valR (s.rows.set i (k, (f0, v))))) (by rw [Z1.e3]; rfl) (some_ne d5) fun q => absurd q Z1.ne.1
      have hshr : shR (s.rows.set i (k, (f0, v))) = shR s.rows := by
        unfold shR
        rw [List.map_set]
        refine List.ext_getElem? fun x => ?_
        rw [List.getElem?_set]
        split
        · rename_i e; subst e
          split
          · rw [List.getElem?_map, h1]; rfl
          · rename_i e2; exact absurd (by rw [List.length_map]; exact hlt) e2
        · rfl
      have Z2 : Sha T { G with ro := ro } (upd H1 sl (.list (valR (s.rows.set i (k, (f0, v)))))) j { s with rows := s.rows.set i (k, (f0, v)) } a sl tb :=
        ⟨(upd_ne (Ne.symm Z1.ne.1)).trans Z1.e1, Z1.e2, Z1.e3, Z1.e4, upd_self _ _ _, (upd_ne Z1.ne.2.2).trans Z1.e6, by show G.tr ⟨s.p, shR _, s.op⟩ = _; rw [hshr]; exact Z1.ht, ha⟩
      have Y2 := Z2.ok Y.pb (by rw [hks]; exact Y.nd) (kb_of hks Y.kb) (by rw [List.length_set]; exact Y.len)
      have hput : s.put L k f v = ⟨s.p, s.rows.set i (k, (f, v)), s.op, false⟩ := by unfold SD.put; rw [dset_set Y.nd h1, h2, ha]; rfl
      rw [hput]
      by_cases e : f = f0
      · subst e
        refine s_if W (z := false) (b_cmp (x := .int f) (y := .int f) (by tb_start) (by tb_start) (nd_self _)) (s_end (s_end (s_end (ws_nil ?_))))
        have : (⟨s.p, s.rows.set i (k, (f, v)), s.op, false⟩ : SD) = { s with rows := s.rows.set i (k, (f, v)) } := by rw [← ha]
        rw [this]
        exact ⟨_, m, key.1, E1m.trans key.2, Nat.le_refl _, by omega, Y2⟩
      · refine s_if W (z := true) (b_cmp (x := .int f) (y := .int f0) (by tb_start) (by tb_start) (congrArg (fun z => some (!z)) (decide_eq_false e))) ?_
        rw [if_pos rfl]
        have hi' : ({ s with rows := s.rows.set i (k, (f0, v)) } : SD).rows[i]? = some (k, (f0, v)) := by
          show (s.rows.set i (k, (f0, v)))[i]? = _
          rw [List.getElem?_set_self hlt]
        refine s_exE (we_m W (a := G.sa j) (C := 190) (f := 166) (by tb_start) Z2.e1 rfl rfl (wes_p W (vs := [.int i, .int f]) (by tb_start) ((k_reflag (n := n) W key.1 Y2 ha hi' hm).mono fun v2 H2 ⟨G2, m2, X2, E2, q1, q2, Y3⟩ => s_end (s_end (s_end (ws_nil ?_))))))
        have : ({ ({ s with rows := s.rows.set i (k, (f0, v)) } : SD) with rows := ({ s with rows := s.rows.set i (k, (f0, v)) } : SD).rows.set i (k, (f, v)) } : SD) = ⟨s.p, s.rows.set i (k, (f, v)), s.op, false⟩ := by
          show (⟨s.p, (s.rows.set i (k, (f0, v))).set i (k, (f, v)), s.op, s.al⟩ : SD) = _
          rw [List.set_set, ha]
        rw [this] at Y3
        have q2' : m2 ≤ m + (s.rows.length + 2) := by
          have : (s.rows.set i (k, (f0, v))).length = s.rows.length := List.length_set
          dsimp only at q2
          omega
        exact ⟨G2, m2, X2, (E1m.trans key.2).trans E2, q1, q2', Y3⟩
end



noncomputable def Gh.zero (T R : Addr) : Gh := { ro := fun a => if a = T then .tree else if a = R then .roots else .free, tr := fun _ => none, nu := fun _ => 0, ns := 0, sa := fun _ => 0, sn := fun _ => 0 }
noncomputable def Gh.push (G : Gh) (a sl tb : Addr) (num : Int) : Gh :=
  { G with ro := fun z => if z = a then .store G.ns else if z = sl then .slots G.ns else if z = tb then .table G.ns else G.ro z, ns := G.ns + 1, sa := fun j => if j = G.ns then a else G.sa j, sn := fun j => if j = G.ns then num else G.sn j }
section
variable {D : Amb} {n : Nat} {T R : Addr} {L : Int} {m : Nat} {G G' : Gh} {H H' : AH} {j : Nat} {s : SD}
inductive TreeP (L : Int) (H : AH) (v : V) (H' : AH) : Prop
  | mk (T R : Addr) : v = .ref T → T ≠ R → H T = none → H R = none → H' = upd (upd H R (.nd [])) T (.inst 101 [(22, .int L), (23, .int 0), (24, .ref R)]) → TreeP L H v H'
theorem k_tree (W : Facts D) : WK D (n + 2) 101 [.int L] H (TreeP L H) := by
  refine wk_cls W.c101 fun T hT => ?_
  refine wk_fn W.ro W.f63 rfl ?_
  unfold b_ShapeTree_init
  refine s_attrU W (v := .int L) (by tb_start) (by tb_start) rfl (len_ok rfl) ?_
  refine s_attrU W (v := .int 0) (by tb_start) (by tb_start) rfl (len_ok rfl) ?_
  refine s_attrE W (we_dict0 (.nd []) rfl fun R hR => ?_)
  obtain ⟨RT, hR⟩ := upd_none hR
  have TR := Ne.symm RT
  refine ⟨T, 101, _, by tb_start, (upd_ne TR).trans (upd_self _ _ _), rfl, len_ok rfl, ?_⟩
  rw [upd3]
  exact ws_nil ⟨rfl, T, R, rfl, TR, hT, hR, by simp [fput]⟩
theorem TI.zero (hTR : T ≠ R) (hT : H' T = some (.inst 101 [(22, .int L), (23, .int 0), (24, .ref R)])) (hR : H' R = some (.nd [])) : TI T R L 0 (Gh.zero T R) H' := by
  refine ⟨hT, if_pos rfl, ⟨[], hR, (if_neg (Ne.symm hTR)).trans (if_pos rfl), Nat.le_refl _, fun p hp => rfl, fun z hz => absurd rfl hz⟩, fun _ _ h => (nomatch h), fun _ _ h => (nomatch h), fun _ _ _ h => (nomatch h), fun _ _ h => (nomatch h), fun _ _ h => (nomatch h), fun _ _ _ _ h => (nomatch h), fun j hj => absurd hj (Nat.not_lt_zero _), fun i _ hi => absurd hi (Nat.not_lt_zero _), fun j hj => absurd hj (Nat.not_lt_zero _), fun a ha => ?_⟩
  show (if a = T then _ else if a = R then _ else _) = _
  rw [if_neg (fun q => by rw [q, hT] at ha; cases ha), if_neg (fun q => by rw [q, hR] at ha; cases ha)]
theorem TI.bump (X : TI T R L m G H) : TI T R L (m + 1) G (upd H T (.inst 101 [(22, .int L), (23, .int ((m : Int) + 1)), (24, .ref R)])) := by
  have app : ∀ z, z ≠ T → upd H T (.inst 101 [(22, .int L), (23, .int ((m : Int) + 1)), (24, .ref R)]) z = H z := fun z h => upd_ne h
  obtain ⟨rk, g1, g2, g3, g4, g5⟩ := X.rt
  have hRT : R ≠ T := fun q => by rw [q, X.t] at g1; cases g1
  refine ⟨by rw [upd_self]; simp, X.rT, ⟨rk, (app R hRT).trans g1, g2, by omega, g4, g5⟩, fun i a h => ?_, X.pb, X.bk, X.nd, fun i a h => ?_, X.nui, fun j hj => ?_, X.sni, fun j hj => ?_, fun a ha => X.fr a (upd_none ha).2⟩
  · refine (X.sh i a h).keep (by omega) (fun _ _ => rfl) (fun b hb hr => app b fun q => ?_) (fun _ _ => rfl) fun _ _ _ => rfl
    obtain ⟨l, kvs, pv, h1, h2, _⟩ := (X.sh i a h).ex
    rcases hr with hr | hr | hr
    · rw [← hr, q, X.rT] at h2; cases h2
    · rw [q, X.rT] at hr; cases hr
    · rw [q, X.rT] at hr; cases hr
  · have := X.nu i a h; omega
  · have := X.sn j hj; omega
  · obtain ⟨q1, fs, q2, q3⟩ := X.st j hj
    exact ⟨q1, fs, (app _ fun q => by rw [q, X.rT] at q1; cases q1).trans q2, q3⟩

theorem push_protoV {a sl tb : Addr} {num : Int} {p : Nat} (hp : p ≤ G.ns) : (G.push a sl tb num).protoV p = G.protoV p := by
  unfold Gh.protoV Gh.push
  by_cases h : p = 0
  · rw [if_pos h, if_pos h]
  · rw [if_neg h, if_neg h]
    show V.ref (if p - 1 = G.ns then a else G.sa (p - 1)) = _
    rw [if_neg (by omega)]
theorem push_pnum {a sl tb : Addr} {num : Int} {p : Nat} (hp : p ≤ G.ns) : (G.push a sl tb num).pnum p = G.pnum p := by
  unfold Gh.pnum Gh.push
  by_cases h : p = 0
  · rw [if_pos h, if_pos h]
  · rw [if_neg h, if_neg h]
    show (if p - 1 = G.ns then num else G.sn (p - 1)) = _
    rw [if_neg (by omega)]
theorem TI.push (X : TI T R L m G H) {a sl tb : Addr} {num : Int} {o : O} {fs : List (Nat × V)} (hfa : G.ro a = .free) (hla : H a ≠ none) (hsl : H sl = none) (htb : H tb = none) (h1 : 1 ≤ num) (h2 : num ≤ m) (h3 : ∀ j, j < G.ns → G.sn j < num)
    (ho : o = .inst 190 fs) (h8 : dget fs 8 = some (.int num)) : TI T R L m (G.push a sl tb num) (upd (upd (upd H sl (.list [])) tb (.sd [])) a o) := by
  have app : ∀ z, H z ≠ none → z ≠ a → upd (upd (upd H sl (.list [])) tb (.sd [])) a o z = H z := fun z hz hza => by
    rw [upd_ne hza, upd_ne (ne_of_live hz htb), upd_ne (ne_of_live hz hsl)]
  have ro : ∀ z, H z ≠ none → z ≠ a → (G.push a sl tb num).ro z = G.ro z := fun z hz hza => by
    show (if z = a then _ else if z = sl then _ else if z = tb then _ else G.ro z) = _
    rw [if_neg hza, if_neg (ne_of_live hz hsl), if_neg (ne_of_live hz htb)]
  have nfr : ∀ z, G.ro z ≠ .free → z ≠ a := fun z hz q => hz (by rw [q]; exact hfa)
  obtain ⟨rk, g1, g2, g3, g4, g5⟩ := X.rt
  have hT := X.t
  have Ta := nfr T (by rw [X.rT]; exact fun q => nomatch q)
  have Ra := nfr R (by rw [g2]; exact fun q => nomatch q)
  have pn : (G.push a sl tb num).pnum (G.ns + 1) = num := by
    unfold Gh.pnum Gh.push
    rw [if_neg (by omega)]
    exact if_pos (by omega)
  have hrn : dget rk num = none := by
    cases e : dget rk num with
    | none => rfl
    | some x =>
      obtain ⟨p, hp, hz⟩ := g5 num (by rw [e]; exact fun q => nomatch q)
      unfold Gh.pnum at hz
      split at hz
      · omega
      · have := h3 (p - 1) (by omega); omega
  refine ⟨(app T (some_ne hT) Ta).trans hT, (ro T (some_ne hT) Ta).trans X.rT, ⟨rk, (app R (some_ne g1) Ra).trans g1, (ro R (some_ne g1) Ra).trans g2, g3, fun p hp => ?_, fun z hz => ?_⟩, fun i b h => ?_, fun i b h => ?_, X.bk, X.nd, X.nu, X.nui, fun i hi => ?_, fun i k hi hk e => ?_, fun i hi => ?_, fun z hz => ?_⟩
  · by_cases e : p = G.ns + 1
    · subst e
      rw [pn, hrn]
      show none = Option.map V.ref (G.tr _)
      cases ht : G.tr ⟨G.ns + 1, [], true⟩ with
      | none => rfl
      | some b => have := X.pb _ b ht; dsimp only at this; omega
    · have hp' : p ≤ G.ns := by have : p ≤ G.ns + 1 := hp; omega
      rw [push_pnum hp']; exact g4 p hp'
  · obtain ⟨p, hp, e⟩ := g5 z hz
    exact ⟨p, Nat.le_succ_of_le hp, by rw [push_pnum hp]; exact e⟩
  · have hsh := X.sh i b h
    obtain ⟨l, kvs, pv, q1, q2, q3, q4, q5, q6, q7⟩ := hsh.ex
    have ef : ∀ l pv, (G.push a sl tb num).fs i l pv = G.fs i l pv := fun l pv => by
      unfold Gh.fs
      rw [push_protoV (X.pb i b h)]; rfl
    have ba := nfr b (by rw [q2]; exact fun q => nomatch q)
    have la := nfr l (by rw [q3]; exact fun q => nomatch q)
    refine ⟨l, kvs, pv, by rw [ef]; exact (app b (some_ne q1) ba).trans q1, (ro b (some_ne q1) ba).trans q2, (ro l (some_ne q4) la).trans q3, (app l (some_ne q4) la).trans q4, q5, q6, ?_⟩
    rcases q7 with q7 | ⟨d, d1, d2, d3⟩
    · exact .inl q7
    · have da := nfr d (by rw [d2]; exact fun q => nomatch q)
      exact .inr ⟨d, d1, (ro d (some_ne d3) da).trans d2, (app d (some_ne d3) da).trans d3⟩
  · exact Nat.le_succ_of_le (X.pb i b h)
  · show 1 ≤ (if i = G.ns then num else G.sn i) ∧ (if i = G.ns then num else G.sn i) ≤ _
    have hi : i < G.ns + 1 := hi
    split
    · exact ⟨h1, h2⟩
    · exact X.sn i (by omega)
  · have hi : i < G.ns + 1 := hi
    have hk : k < G.ns + 1 := hk
    have e : (if i = G.ns then num else G.sn i) = (if k = G.ns then num else G.sn k) := e
    split at e
    · split at e
      · omega
      · have := h3 k (by omega); omega
    · split at e
      · have := h3 i (by omega); omega
      · exact X.sni i k (by omega) (by omega) e
  · have hi : i < G.ns + 1 := hi
    by_cases e : i = G.ns
    · subst e
      have e1 : (G.push a sl tb num).sa G.ns = a := if_pos rfl
      have e2 : (G.push a sl tb num).sn G.ns = num := if_pos rfl
      rw [e1, e2]
      exact ⟨if_pos rfl, fs, by rw [upd_self, ho], h8⟩
    · have e1 : (G.push a sl tb num).sa i = G.sa i := if_neg e
      have e2 : (G.push a sl tb num).sn i = G.sn i := if_neg e
      rw [e1, e2]
      obtain ⟨q1, fs', q2, q3⟩ := X.st i (by omega)
      have ia := nfr (G.sa i) (by rw [q1]; exact fun q => nomatch q)
      exact ⟨(ro _ (some_ne q2) ia).trans q1, fs', (app _ (some_ne q2) ia).trans q2, q3⟩
  · obtain ⟨za, hz⟩ := upd_none hz
    obtain ⟨zt, hz⟩ := upd_none hz
    obtain ⟨zs, hz⟩ := upd_none hz
    show (if z = a then _ else if z = sl then _ else if z = tb then _ else G.ro z) = _
    rw [if_neg za, if_neg zs, if_neg zt]; exact X.fr z hz
theorem SOk.push (Y : SOk T G H j s) (hj : j < G.ns) {a sl tb : Addr} {num : Int} {o : O} (hfa : G.ro a = .free) (hsl : H sl = none) (htb : H tb = none) : SOk T (G.push a sl tb num) (upd (upd (upd H sl (.list [])) tb (.sd [])) a o) j s := by
  have app : ∀ z, H z ≠ none → z ≠ a → upd (upd (upd H sl (.list [])) tb (.sd [])) a o z = H z := fun z hz hza => by
    rw [upd_ne hza, upd_ne (ne_of_live hz htb), upd_ne (ne_of_live hz hsl)]
  have ro : ∀ z, H z ≠ none → z ≠ a → (G.push a sl tb num).ro z = G.ro z := fun z hz hza => by
    show (if z = a then _ else if z = sl then _ else if z = tb then _ else G.ro z) = _
    rw [if_neg hza, if_neg (ne_of_live hz hsl), if_neg (ne_of_live hz htb)]
  have nfr : ∀ z, G.ro z ≠ .free → z ≠ a := fun z hz q => hz (by rw [q]; exact hfa)
  obtain ⟨sh, sl', tb', xs, tv, ap, ao, e1, e2, e3, e4, e5, e6, e7, e8⟩ := Y.ex
  have s1 : (G.push a sl tb num).sa j = G.sa j := if_neg (by omega)
  have s2 : (G.push a sl tb num).sn j = G.sn j := if_neg (by omega)
  have n1 := nfr (G.sa j) (by rw [e2]; exact fun q => nomatch q)
  have n2 := nfr sl' (by rw [e3]; exact fun q => nomatch q)
  have n3 := nfr tb' (by rw [e4]; exact fun q => nomatch q)
  exact ⟨⟨sh, sl', tb', xs, tv, ap, ao, by rw [s1, s2]; exact (app _ (some_ne e1) n1).trans e1, by rw [s1]; exact (ro _ (some_ne e1) n1).trans e2, (ro _ (some_ne e5) n2).trans e3, (ro _ (some_ne e6) n3).trans e4, (app _ (some_ne e5) n2).trans e5, (app _ (some_ne e6) n3).trans e6, e7,
    fun q => ⟨(e8 q).1, by rw [push_protoV Y.pb]; exact (e8 q).2.1, (e8 q).2.2⟩⟩, Nat.le_succ_of_le Y.pb, Y.nd, Y.kb, Y.len⟩
end



section
variable {D : Amb} {n : Nat} {T R : Addr} {L : Int} {m : Nat} {G G' : Gh} {H H' : AH} {j : Nat} {s : SD}
noncomputable def Out (G : Gh) (H : AH) (G' : Gh) (H' : AH) : Prop := ∀ z, H z ≠ none → H' z ≠ none ∧ G'.ro z = G.ro z ∧ (G.ro z = .free → H' z = H z)
theorem Out.refl (G : Gh) (H : AH) : Out G H G H := fun _ h => ⟨h, rfl, fun _ => rfl⟩
theorem Out.trans {G'' : Gh} {H'' : AH} (x : Out G H G' H') (y : Out G' H' G'' H'') : Out G H G'' H'' := fun z h => by
  obtain ⟨a, b, c⟩ := x z h
  obtain ⟨d, e, f⟩ := y z a
  exact ⟨d, e.trans b, fun q => (f (b.trans q)).trans (c q)⟩
theorem Ext.out {M : Role → Prop} (E : Ext M G H G' H') (h : ¬ M .free) : Out G H G' H' := fun z hz => by
  obtain ⟨a, b, c⟩ := E.live z hz
  exact ⟨a, b, fun q => c (by rw [q]; exact h)⟩
theorem modS_free (j : Nat) : ¬ modS j .free := fun q => q.elim id id
theorem Out.new (N : NewH H H') : Out G H G H' := fun z hz => ⟨by rw [N z hz]; exact hz, rfl, fun _ => N z hz⟩

inductive MadeP (T R : Addr) (L : Int) (m : Nat) (G : Gh) (H : AH) (p : Nat) (v : V) (H' : AH) : Prop
  | mk (G' : Gh) (m' : Nat) : TI T R L m' G' H' → v = .ref (G'.sa G.ns) → G'.ns = G.ns + 1 → m ≤ m' → m' ≤ m + 2 →
    SOk T G' H' G.ns ⟨p, [], true, false⟩ → (∀ i s, i < G.ns → SOk T G H i s → SOk T G' H' i s) → (∀ i, i < G.ns → G'.sa i = G.sa i) → Out G H G' H' → MadeP T R L m G H p v H'
theorem k_store (W : Facts D) (X : TI T R L m G H) {p : Nat} (hp : p ≤ G.ns) (hm : m < 800000) : WK D (n + 5) 190 [.ref T, G.protoV p] H (MadeP T R L m G H p) := by
  refine wk_cls W.c190 fun a ha => ?_
  refine wk_fn W.ro W.f119 rfl ?_
  unfold b_Store_init
  have hT := X.t
  have Ta := ne_of_live (some_ne hT) ha
  have aT := Ne.symm Ta
  refine s_attrU W (v := .ref T) (by tb_start) (by tb_start) rfl (len_ok rfl) ?_
  refine s_attrE W (we_m W (a := T) (C := 101) (f := 70) (by tb_start) ((upd_ne Ta).trans hT) rfl rfl (wes_p W rfl ((k_next (n := n + 2) W ((upd_ne Ta).trans hT)).mono fun v1 H1 ⟨hv, hH1⟩ => ?_)))
  subst hv; subst hH1
  refine ⟨a, 190, _, by tb_start, (upd_ne aT).trans (upd_self _ _ _), rfl, len_ok rfl, ?_⟩
  rw [upd3]
  have haT : upd H T (.inst 101 [(22, .int L), (23, .int ((m : Int) + 1)), (24, .ref R)]) a = none := (upd_ne aT).trans ha
  have N3 := NewH.upd (o := .inst 190 (fput (fput [] 27 (.ref T)) 8 (.int ((m : Int) + 1)))) haT
  have X3 := X.bump.new N3
  refine s_attrE W (we_m W (a := T) (C := 101) (f := 77) (by tb_start) X3.t rfl rfl (wes_p W (vs := [G.protoV p]) (by tb_start) ((k_root (n := n) W X3 hp (by omega)).mono fun v2 H4 ⟨G1, m1, c, hv, X4, E1, g1, g2, g3⟩ => ?_)))
  subst hv
  have hfree : G.ro a = .free := X.fr a ha
  have ha4 : H4 a = some (.inst 190 (fput (fput [] 27 (.ref T)) 8 (.int ((m : Int) + 1)))) := ((E1.live a (by rw [upd_self]; simp)).2.2 (by rw [hfree]; exact id)).trans (upd_self _ _ _)
  refine ⟨a, 190, _, by tb_start, ha4, rfl, len_ok rfl, ?_⟩
  refine s_attrE W (we_list (wes_nil ⟨by simp, fun sl hsl => ?_⟩))
  obtain ⟨sla, hsl⟩ := upd_none hsl
  refine ⟨a, 190, _, by tb_start, (upd_ne (Ne.symm sla)).trans (upd_self _ _ _), rfl, len_ok rfl, ?_⟩
  rw [upd3]
  refine s_attrE W (we_dict0 (.sd []) rfl fun tb htb => ?_)
  obtain ⟨tba, htb⟩ := upd_none htb
  obtain ⟨tbs, htb⟩ := upd_none htb
  refine ⟨a, 190, _, by tb_start, (upd_ne (Ne.symm tba)).trans (upd_self _ _ _), rfl, len_ok rfl, ?_⟩
  rw [upd3]
  refine s_attrU W (v := .bool false) (by tb_start) (by tb_start) rfl (len_ok rfl) ?_
  refine s_attrU W (v := .none) (by tb_start) (by tb_start) rfl (len_ok rfl) ?_
  refine s_attr W (v := .bool true) (a := a) (by tb_start) (by tb_start) (upd_self _ _ _) rfl (len_ok rfl) (ws_nil ⟨rfl, ?_⟩)
  rw [upd_upd]
  have ef : fput (fput (fput (fput (fput (fput (fput (fput [] 27 (V.ref T)) 8 (V.int ((m : Int) + 1))) 19 (V.ref c)) 28 (V.ref sl)) 29 (V.ref tb)) 30 (V.bool false)) 31 V.none) 32 (V.bool true) = [(27, .ref T), (8, .int ((m : Int) + 1)), (19, .ref c), (28, .ref sl), (29, .ref tb), (30, .bool false), (31, .none), (32, .bool true)] := by simp [fput]
  rw [ef]
  have hro1 : G1.ro a = .free := ((E1.live a (by rw [upd_self]; simp)).2.1).trans hfree
  have ens : G1.ns = G.ns := E1.ns
  have esn : G1.sn = G.sn := E1.sn
  have Xp := X4.push (a := a) (sl := sl) (tb := tb) (num := (m : Int) + 1) (o := .inst 190 [(27, .ref T), (8, .int ((m : Int) + 1)), (19, .ref c), (28, .ref sl), (29, .ref tb), (30, .bool false), (31, .none), (32, .bool true)]) hro1 (some_ne ha4) hsl htb (by omega) (by omega) (fun k hk => by
    rw [esn]; have := X.sn k (by rw [← ens]; exact hk); omega) rfl (by simp)
  have sa1 : (G1.push a sl tb ((m : Int) + 1)).sa G.ns = a := by show (if G.ns = G1.ns then a else _) = a; rw [if_pos ens.symm]
  have sn1 : (G1.push a sl tb ((m : Int) + 1)).sn G.ns = (m : Int) + 1 := by show (if G.ns = G1.ns then _ else _) = _; rw [if_pos ens.symm]
  have Z : Sha T (G1.push a sl tb ((m : Int) + 1)) (upd (upd (upd H4 sl (.list [])) tb (.sd [])) a (.inst 190 [(27, .ref T), (8, .int ((m : Int) + 1)), (19, .ref c), (28, .ref sl), (29, .ref tb), (30, .bool false), (31, .none), (32, .bool true)])) G.ns ⟨p, [], true, false⟩ c sl tb := by
    refine ⟨by rw [sa1, sn1, upd_self], ?_, ?_, ?_, ?_, ?_, g3, rfl⟩
    · rw [sa1, ← ens]; exact if_pos rfl
    · rw [← ens]; exact (if_neg sla).trans (if_pos rfl)
    · rw [← ens]; exact (if_neg tba).trans ((if_neg tbs).trans (if_pos rfl))
    · rw [upd_ne sla, upd_ne (Ne.symm tbs), upd_self]; rfl
    · rw [upd_ne tba, upd_self]
  have Nb : Out G H G1 H4 := fun z hz => by
    have za := ne_of_live hz ha
    by_cases zT : z = T
    · subst zT
      obtain ⟨q1, q2, q3⟩ := E1.live z (by rw [upd_ne za, upd_self]; simp)
      exact ⟨q1, q2, fun q => by rw [X.rT] at q; cases q⟩
    · have e0 : upd (upd H T (.inst 101 [(22, .int L), (23, .int ((m : Int) + 1)), (24, .ref R)])) a (.inst 190 (fput (fput [] 27 (.ref T)) 8 (.int ((m : Int) + 1)))) z = H z := by rw [upd_ne za, upd_ne zT]
      obtain ⟨q1, q2, q3⟩ := E1.live z (by rw [e0]; exact hz)
      exact ⟨q1, q2, fun q => (q3 (by rw [q]; exact id)).trans e0⟩
  refine ⟨_, m1, Xp, by rw [sa1], by show G1.ns + 1 = _; rw [ens], by omega, by omega, Z.ok (by show p ≤ G1.ns + 1; omega) List.nodup_nil (fun r hr => nomatch hr) (by simp), fun i s hi Y => ?_, fun i hi => ?_, fun z hz0 => ?_⟩
  · have Y3 : SOk T G (upd (upd H T (.inst 101 [(22, .int L), (23, .int ((m : Int) + 1)), (24, .ref R)])) a (.inst 190 (fput (fput [] 27 (.ref T)) 8 (.int ((m : Int) + 1))))) i s := by
      refine Y.tree ⟨fun z hz => ?_, fun _ _ h => ⟨h, rfl⟩, rfl, rfl, rfl⟩
      have za := ne_of_live hz ha
      by_cases zT : z = T
      · subst zT; exact ⟨by rw [upd_ne za, upd_self]; simp, rfl, fun q => absurd (by rw [X.rT]; trivial) q⟩
      · exact ⟨by rw [upd_ne za, upd_ne zT]; exact hz, rfl, fun _ => by rw [upd_ne za, upd_ne zT]⟩
    exact (Y3.tree E1).push (by rw [ens]; exact hi) hro1 hsl htb
  · show (if i = G1.ns then a else G1.sa i) = _
    rw [if_neg (by omega), E1.sa]
  · have za := ne_of_live hz0 ha
    obtain ⟨q1, q2, q3⟩ := Nb z hz0
    have e : upd (upd (upd H4 sl (.list [])) tb (.sd [])) a (.inst 190 [(27, .ref T), (8, .int ((m : Int) + 1)), (19, .ref c), (28, .ref sl), (29, .ref tb), (30, .bool false), (31, .none), (32, .bool true)]) z = H4 z := by
      rw [upd_ne za, upd_ne (ne_of_live q1 htb), upd_ne (ne_of_live q1 hsl)]
    refine ⟨by rw [e]; exact q1, ?_, fun q => e.trans (q3 q)⟩
    show (if z = a then _ else if z = sl then _ else if z = tb then _ else G1.ro z) = _
    rw [if_neg za, if_neg (ne_of_live q1 hsl), if_neg (ne_of_live q1 htb)]
    exact q2
end



/-! the law's own functions -/
structure BoxOk (B bl : Addr) (H : AH) : Prop where
  ex : ∃ (xs : List Int) (t : Int), H B = some (.list [.ref bl, .int t]) ∧ H bl = some (.list (intVs xs)) ∧ xs.length ≤ 100
  ne : B ≠ bl
theorem BoxOk.keep {B bl : Addr} {H H' : AH} (X : BoxOk B bl H) (h1 : H' B = H B) (h2 : H' bl = H bl) : BoxOk B bl H' := by
  obtain ⟨xs, t, a, b, c⟩ := X.ex
  exact ⟨⟨xs, t, h1.trans a, h2.trans b, c⟩, X.ne⟩
noncomputable def ownFs (rw : Addr) (p : Nat) (op al : Bool) (L : Int) : List (Nat × V) := [(26, .ref rw), (45, .int p), (54, .bool op), (55, .bool al), (22, .int L)]

section
variable {D : Amb} {n : Nat} {H H' : AH}
inductive TakeP (B bl : Addr) (lim : Int) (H : AH) (v : V) (H' : AH) : Prop
  | mk (bx : BoxOk B bl H') (st : ∀ z, z ≠ B → z ≠ bl → H' z = H z) (z : Int) : v = .int z → 0 ≤ z → z < lim → TakeP B bl lim H v H'
theorem k_take (W : Facts D) {B bl : Addr} (X : BoxOk B bl H) {lim : Int} (hl : 0 < lim) : WK D (n + 1) 201 [.ref B, .int lim] H (TakeP B bl lim H) := by
  refine wk_fn W.ro W.f201 rfl ?_
  unfold b_law_take
  obtain ⟨xs, t, h1, h2, h3⟩ := X.ex
  have hne := X.ne
  have hen := Ne.symm hne
  cases xs with
  | cons x xs =>
    have hlen : (intVs (x :: xs)).length < 1000000 := by simp [intVs] at h3 ⊢; omega
    have hpos : (0 : Int) < ((intVs (x :: xs)).length : Int) := Int.natCast_pos.mpr (Nat.zero_lt_succ _)
    refine s_if W (z := true) (b_cmp (e_len (es_cons (e_item (by tb_start) e_int (i_list h1 rfl)) es_nil) h2 hlen) e_int (congrArg some (decide_eq_true hpos))) ?_
    rw [if_pos rfl]
    refine s_retE (we_bin (we_popAt0 W.ro (we_p W (v := .ref bl) (by tb_start) ⟨bl, .int x, intVs xs, rfl, h2, by simp [intVs] at h3 ⊢; omega, we_p W (v := .int lim) (by tb_start) ⟨.int (x % lim), i_mod hl, ?_⟩⟩)))
    refine ⟨⟨⟨xs, t, (upd_ne hne).trans h1, upd_self _ _ _, by simp at h3; omega⟩, hne⟩, fun z z1 z2 => upd_ne z2, x % lim, rfl, Int.emod_nonneg _ (by omega), Int.emod_lt_of_pos _ hl⟩
  | nil =>
    have hb : Builtin.Int.intBits 4093 ≤ 64 := by decide +kernel
    refine s_if W (z := false) (b_cmp (e_len (es_cons (e_item (by tb_start) e_int (i_list h1 rfl)) es_nil) h2 (show 0 < 1000000 by decide)) e_int rfl) (s_end ?_)
    refine s_itemE W (we_p W (v := .int ((t * 4093 + 12289) % 1000003)) (e_bin (e_bin (e_bin (e_item (by tb_start) e_int (i_list h1 rfl)) e_int (i_mul hb)) e_int rfl) e_int (i_mod (by decide))) ⟨.ref B, .int 1, B, .list [.ref bl, .int ((t * 4093 + 12289) % 1000003)], by tb_start, e_int, put_list1 h1, ?_⟩)
    refine s_ret W (v := .int ((t * 4093 + 12289) % 1000003 / 8 % lim)) (e_bin (e_bin (e_item (by tb_start) e_int (i_list (upd_self _ _ _) rfl)) e_int (i_div (by decide))) (by tb_start) (i_mod hl)) ?_
    exact ⟨⟨⟨[], _, upd_self _ _ _, (upd_ne hen).trans h2, by simp⟩, hne⟩, fun z z1 z2 => upd_ne z1, _, rfl, Int.emod_nonneg _ (by omega), Int.emod_lt_of_pos _ hl⟩

theorem trR_len (rows : List (Nat × (Int × Int))) : (trR rows).length = rows.length := by simp [trR]
theorem trR_get {rows : List (Nat × (Int × Int))} {i : Nat} {x : V} (h : (trR rows)[i]? = some x) : ∃ k f v, rows[i]? = some (k, (f, v)) ∧ x = .tup [.str k, .int f, .int v] := by
  unfold trR at h
  rw [List.getElem?_map] at h
  obtain ⟨⟨k, f, v⟩, hr, rfl⟩ := Option.map_eq_some_iff.mp h
  exact ⟨k, f, v, hr, rfl⟩
theorem k_lawput (W : Facts D) {o rw : Addr} {rows : List (Nat × (Int × Int))} {p : Nat} {op al : Bool} {L : Int} (h1 : H o = some (.sd (ownFs rw p op al L))) (h2 : H rw = some (.list (trR rows))) (nd : (rows.map (·.1)).Nodup) (kb : ∀ r ∈ rows, r.1 < 95) (len : rows.length < 900)
    {k : Nat} (hk : k < 95) (f v : Int) : WK D (n + 1) 208 [.ref o, .str k, .int f, .int v] H fun _ H' => H' = upd H rw (.list (trR (dset rows k (f, v)))) := by
  refine wk_fn W.ro W.f208 rfl ?_
  unfold b_law_put
  have hro : rw ≠ o := fun q => by rw [q, h1] at h2; cases h2
  have hor := Ne.symm hro
  unfold ownFs at h1
  have hln := trR_len rows
  refine ws_cons (w1_for_enum W.toFactsR.enum (we_p W (v := .ref rw) (by tb_start) ⟨rw, trR rows, fun x ρ H' => ρ 36 = some (.ref o) ∧ ρ 11 = some (.str k) ∧ ρ 12 = some (.int f) ∧ ρ 34 = some (.int v) ∧ H' = H ∧ ∀ i r, i < x → rows[i]? = some r → r.1 ≠ k, rfl, h2, ⟨fun x ρ H' hJ => ?_, fun x ρ H' y hx hJ => ?_, fun ρ H' hJ => ?_⟩, by tb_start, by tb_start, by tb_start, by tb_start, rfl, fun i r hi => absurd hi (Nat.not_lt_zero _)⟩))
  · obtain ⟨_, _, _, _, rfl, _⟩ := hJ
    show Option.map enumV (listItems rw H') = _
    unfold listItems; rw [h2]; rfl
  · obtain ⟨r1, r2, r3, r4, rfl, hold⟩ := hJ
    obtain ⟨y', hy, rfl⟩ := enumV_get hx
    obtain ⟨kk, ff, vv, hr, rfl⟩ := trR_get hy
    have hlt := (List.getElem?_eq_some_iff.mp hr).1
    have hkk : kk < 95 := kb _ (List.mem_of_getElem? hr)
    have hc := cmp_str H' hkk hk
    refine ⟨_, rfl, ?_⟩
    have hcond : evB H' (lsets ρ [37, 21] [.int (x : Int), .tup [.str kk, .int ff, .int vv]]) (.cmp .Eq (.item (.var 21) (.int 0)) (.var 11)) = some (decide (kk = k)) := by
      tb_start
    refine s_if W hcond ?_
    by_cases e : kk = k
    · subst e
      rw [if_pos (by simp)]
      have hlen2 : (trR rows).length < 1000000 := by omega
      have hxl : x < (trR rows).length := by omega
      refine s_itemE W (we_p W (v := .tup [.str kk, .int f, .int v]) (by tb_start) ⟨.ref rw, .int x, rw, .list ((trR rows).set x (.tup [.str kk, .int f, .int v])), by tb_start, by tb_start, by simp [putV, putO, h2, hxl, hlen2], ?_⟩)
      have : (trR rows).set x (.tup [.str kk, .int f, .int v]) = trR (dset rows kk (f, v)) := by
        rw [dset_set nd hr]
        unfold trR
        rw [List.map_set]
      rw [this]
      exact ws_cons (w1_retN rfl)
    · rw [if_neg (by simp [e])]
      refine s_end (ws_nil ⟨by tb_start, by tb_start, by tb_start, by tb_start, rfl, fun i r hi hir => ?_⟩)
      by_cases q : i = x
      · subst q; rw [hr] at hir; cases hir; exact e
      · exact hold i r (by omega) hir
  · obtain ⟨r1, r2, r3, r4, rfl, hold⟩ := hJ
    rw [enumV_len, hln] at hold
    have hd : dget rows k = none := by
      cases h : dget rows k with
      | none => rfl
      | some r =>
        unfold dget at h
        obtain ⟨x, hx, _⟩ := Option.map_eq_some_iff.mp h
        obtain ⟨i, hi⟩ := List.getElem?_of_mem (List.mem_of_find?_eq_some hx)
        have := List.find?_some hx
        exact absurd (by simpa using this) (hold i x (List.getElem?_eq_some_iff.mp hi).1 hi)
    refine s_exE (we_append W.ro (we_p W (v := .ref rw) (by tb_start) ⟨rw, trR rows, rfl, h2, we_p W (v := .tup [.str k, .int f, .int v]) (by tb_start) ⟨trR rows, h2, by omega, ws_nil ?_⟩⟩))
    have : trR rows ++ [V.tup [.str k, .int f, .int v]] = trR (dset rows k (f, v)) := by
      rw [dset_new _ _ _ (dget_none_keys hd)]
      simp [trR]
    rw [this]
    rfl
end



theorem dOfs_all {f : V → Option PyData} : ∀ {xs : List V}, (∀ x ∈ xs, ∃ d, f x = some d) → ∃ ds, dOfs f xs = some ds ∧ ds.length = xs.length
  | [], _ => ⟨[], rfl, rfl⟩
  | x :: xs, h => by
    obtain ⟨d, hd⟩ := h x List.mem_cons_self
    obtain ⟨ds, h1, h2⟩ := dOfs_all (f := f) (xs := xs) fun y hy => h y (List.mem_cons_of_mem _ hy)
    exact ⟨d :: ds, by unfold dOfs; rw [hd, h1], by simp [h2]⟩
theorem dOf_list {H : AH} {a : Addr} {xs : List V} {n : Nat} (e : H a = some (.list xs)) (h : ∀ x ∈ xs, ∃ d, dOf H n x = some d) : ∃ ds, dOf H (n + 1) (.ref a) = some (.list ds) ∧ ds.length = xs.length := by
  obtain ⟨ds, h1, h2⟩ := dOfs_all h
  exact ⟨ds, by unfold dOf; simp only [e, h1, Option.map_some], h2⟩
theorem eqvAll_nil (ds : List PyData) : PyData.eqvAll ds [] = ds.isEmpty := by cases ds <;> simp [PyData.eqvAll]
theorem cmp_empty {H : AH} {a b : Addr} {xs : List V} (e : H a = some (.list xs)) (e' : H b = some (.list [])) (h : ∀ x ∈ xs, ∃ d, dOf H 4 x = some d) : cmpV H .Eq (.ref a) (.ref b) = some xs.isEmpty ∧ cmpV H .NotEq (.ref a) (.ref b) = some (!xs.isEmpty) := by
  obtain ⟨ds, h1, h2⟩ := dOf_list e h
  obtain ⟨es, h3, h4⟩ := dOf_list (n := 4) e' fun x hx => nomatch hx
  have : es = [] := List.length_eq_zero_iff.mp h4
  subst this
  have h5 : ds.isEmpty = xs.isEmpty := by
    cases ds <;> cases xs <;> simp at h2 <;> rfl
  constructor
  · simp only [cmpV, h1, h3, PyData.eqv, eqvAll_nil, h5, Option.bind_some, Option.map_some]
  · simp only [cmpV, h1, h3, PyData.eqv, eqvAll_nil, h5, Option.bind_some, Option.map_some]
theorem dOf_row (H : AH) {k : Nat} (hk : k < 95) (f v : Int) : ∃ d, dOf H 4 (.tup [.str k, .int f, .int v]) = some d := ⟨_, by simp [dOf, dOfs, NN, hk]; rfl⟩

section
variable {D : Amb} {n : Nat} {H H' : AH}
noncomputable def OwnStep (o : Addr) (fs : List (Nat × V)) (H H' : AH) : Prop := H' o = some (.sd fs) ∧ ∀ z, H z ≠ none → z ≠ o → H' z = H z
theorem dset_alone (rw : Addr) (p : Nat) (op al : Bool) (L : Int) : dset (ownFs rw p op al L) 55 (.bool true) = ownFs rw p op true L := by simp [dset, ownFs]
theorem filter_row (rows : List (Nat × (Int × Int))) (k : Nat) : ((trR rows).filter (headIs k)) = trR (rows.filter fun r => decide (r.1 = k)) := by
  unfold trR
  rw [List.filter_map]; rfl
theorem filter_empty (rows : List (Nat × (Int × Int))) (k : Nat) : (rows.filter fun r => decide (r.1 = k)).isEmpty = (dget rows k).isNone := by
  induction rows with
  | nil => rfl
  | cons x l ih =>
    obtain ⟨a, b⟩ := x
    rw [List.filter_cons, dget_cons]
    by_cases e : a = k
    · simp [e]
    · simp only [e, decide_false, if_false]; exact ih
theorem trR_isEmpty (rows : List (Nat × (Int × Int))) : (trR rows).isEmpty = rows.isEmpty := by cases rows <;> rfl
theorem trR_dOf (H : AH) {rows : List (Nat × (Int × Int))} (kb : ∀ r ∈ rows, r.1 < 95) : ∀ x ∈ trR rows, ∃ d, dOf H 4 x = some d := fun x hx => by
  unfold trR at hx
  obtain ⟨r, hr, rfl⟩ := List.mem_map.mp hx
  exact dOf_row H (kb r hr) _ _
theorem k_noted (W : Facts D) {o rw : Addr} {rows : List (Nat × (Int × Int))} {p : Nat} {op al : Bool} {L : Int} (h1 : H o = some (.sd (ownFs rw p op al L))) (h2 : H rw = some (.list (trR rows))) (kb : ∀ r ∈ rows, r.1 < 95) (len : rows.length < 900)
    {k : Nat} (hk : k < 95) : WK D (n + 1) 213 [.ref o, .str k] H fun _ H' => OwnStep o (ownFs rw p op (al || ((dget rows k).isNone && (decide (L ≤ rows.length) || !op))) L) H H' := by
  refine wk_fn W.ro W.f213 rfl ?_
  unfold b_law_noted
  have hro : rw ≠ o := fun q => by rw [q, h1] at h2; cases h2
  have hor := Ne.symm hro
  have h1' := h1
  unfold ownFs at h1
  have hln := trR_len rows
  refine s_varE rfl (we_cmp (we_comp (src_val (we_p W (v := .ref rw) (by tb_start) ⟨trR rows, seq_o h2 rfl, trivial, by omega, headIs k, id, fun v hv => ?_, fun a ha => ?_⟩))))
  · unfold trR at hv
    obtain ⟨r, hr, rfl⟩ := List.mem_map.mp hv
    have hc := cmp_str H (kb r hr) hk
    refine ⟨_, rfl, evB_ok W.toFactsR.rd _ ?_ ⟨rfl, rfl⟩, fun _ => evP_ok W.toFactsR.rd _ ?_ ⟨rfl, rfl⟩⟩
    · tb_start
    · exact e_var (lset_self _ _ _)
  · rw [List.map_id, filter_row]
    refine we_list (wes_nil ⟨by simp, fun b hb => ?_⟩)
    obtain ⟨ba, hb0⟩ := upd_none hb
    have ao := ne_of_live (some_ne h1) ha
    have ar := ne_of_live (some_ne h2) ha
    have bo := ne_of_live (some_ne h1) hb0
    have br := ne_of_live (some_ne h2) hb0
    have hce := (cmp_empty (H := upd (upd H a (.list (trR (rows.filter fun r => decide (r.1 = k))))) b (.list [])) (a := a) (b := b) ((upd_ne (Ne.symm ba)).trans (upd_self _ _ _)) (upd_self _ _ _) (trR_dOf _ fun r hr => kb r (List.mem_filter.mp hr).1)).1
    rw [trR_isEmpty, filter_empty] at hce
    refine ⟨_, hce, ?_⟩
    have hN : ∀ z, H z ≠ none → upd (upd H a (.list (trR (rows.filter fun r => decide (r.1 = k))))) b (.list []) z = H z := fun z hz => by rw [upd_ne (ne_of_live hz hb0), upd_ne (ne_of_live hz ha)]
    have d1 := (hN o (some_ne h1)).trans h1
    have d2 := (hN rw (some_ne h2)).trans h2
    have d1' := (hN o (some_ne h1)).trans h1'
    generalize hF : upd (upd H a (.list (trR (rows.filter fun r => decide (r.1 = k))))) b (.list []) = F at hN d1 d2 d1' ⊢
    have hl2 : rows.length < 1000000 := by omega
    have hcond : evB F (lset (fun i => dget (p_law_noted.zip [.ref o, .str k]) i) 38 (.bool (dget rows k).isNone)) (.bop .And [.var 38, .bop .Or [.cmp .GtE (.call 84 [.item (.var 36) (.str 26)]) (.item (.var 36) (.str 22)), .not (.item (.var 36) (.str 54))]]) = some ((dget rows k).isNone && (decide (L ≤ rows.length) || !op)) := by
      exact b_and2 (b_var (lset_self _ _ _)) (b_or2 (b_cmp (e_len (es_cons (e_item (by tb_start) e_str (i_sd d1 rfl)) es_nil) d2 (by rw [hln]; exact hl2)) (e_item (by tb_start) e_str (i_sd d1 rfl)) (by rw [hln]; rfl)) (b_not (b_item (e_item (by tb_start) e_str (i_sd d1 rfl))) rfl))
    refine s_if W hcond ?_
    cases hz : ((dget rows k).isNone && (decide (L ≤ rows.length) || !op)) with
    | true =>
      rw [if_pos rfl]
      refine s_itemE W (we_p W (v := .bool true) rfl ⟨.ref o, .str 55, o, .sd (ownFs rw p op true L), by tb_start, by tb_start, ?_, s_end (ws_nil ⟨?_, fun z hz hzo => ?_⟩)⟩)
      · rw [← dset_alone rw p op al L]
        simp [putV, putO, d1', ownFs]
      · rw [upd_self, Bool.or_true]
      · rw [upd_ne hzo]; exact hN z hz
    | false =>
      rw [if_neg (by decide)]
      refine s_end (ws_nil ⟨?_, fun z hz _ => hN z hz⟩)
      rw [Bool.or_false]; exact d1'
end



theorem spots_go (k : Nat) : ∀ (rows : List (Nat × (Int × Int))) (o : Nat), (rows.map (·.1)).Nodup → (dget rows k = none ∧ ((rows.zipIdx o).filter fun r => decide (r.1.1 = k)).map (fun r => V.int (r.2 : Int)) = []) ∨
    ∃ (i : Nat) (r : Int × Int), rows[i]? = some (k, r) ∧ ((rows.zipIdx o).filter fun r => decide (r.1.1 = k)).map (fun r => V.int (r.2 : Int)) = [.int ((o + i : Nat) : Int)]
  | [], o, _ => .inl ⟨rfl, rfl⟩
  | (a, b) :: l, o, hn => by
    rw [List.map_cons, List.nodup_cons] at hn
    rw [List.zipIdx_cons, List.filter_cons]
    by_cases e : a = k
    · subst e
      have hd : dget l a = none := by
        cases h : dget l a with
        | none => rfl
        | some r =>
          refine absurd ?_ hn.1
          unfold dget at h
          obtain ⟨x, hx, _⟩ := Option.map_eq_some_iff.mp h
          have := List.find?_some hx
          exact List.mem_map.mpr ⟨x, List.mem_of_find?_eq_some hx, by simpa using this⟩
      right
      refine ⟨0, b, rfl, ?_⟩
      rw [if_pos (by simp)]
      rcases spots_go a l (o + 1) hn.2 with ⟨_, h2⟩ | ⟨i, r, h1, _⟩
      · rw [List.map_cons, h2]; rfl
      · have := dget_idx hn.2 h1; rw [hd] at this; cases this
    · rw [if_neg (by simpa using e)]
      rcases spots_go k l (o + 1) hn.2 with ⟨h1, h2⟩ | ⟨i, r, h1, h2⟩
      · exact .inl ⟨by simp [e, h1], h2⟩
      · refine .inr ⟨i + 1, r, by simpa using h1, ?_⟩
        rw [h2]
        have : o + 1 + i = o + (i + 1) := by omega
        rw [this]
theorem spots_of {rows : List (Nat × (Int × Int))} (hn : (rows.map (·.1)).Nodup) (k : Nat) :
    let res := ((enumV (trR rows)).filter fun v => headIs k (ndV v)).map hdV
    (dget rows k = none ∧ res = []) ∨ ∃ (i : Nat) (r : Int × Int), rows[i]? = some (k, r) ∧ res = [.int (i : Int)] := by
  intro res
  have hres : res = ((rows.zipIdx 0).filter fun r => decide (r.1.1 = k)).map (fun r => V.int (r.2 : Int)) := by
    show List.map _ (List.filter _ (enumV (trR rows))) = _
    unfold enumV trR
    rw [List.zipIdx_map, List.map_map, List.filter_map, List.map_map]
    rfl
  rw [hres]
  rcases spots_go k rows 0 hn with h | ⟨i, r, h1, h2⟩
  · exact .inl h
  · exact .inr ⟨i, r, h1, by rw [h2]; simp⟩
theorem lastIs_at {rows : List (Nat × (Int × Int))} {i k : Nat} {r : Int × Int} (hn : (rows.map (·.1)).Nodup) (h : rows[i]? = some (k, r)) : lastIs rows k = decide (i + 1 = rows.length) := by
  have hlt := (List.getElem?_eq_some_iff.mp h).1
  unfold lastIs
  rw [List.getLast?_eq_getElem?]
  have hl : rows.length - 1 < rows.length := by omega
  rw [List.getElem?_eq_getElem hl]
  dsimp only
  by_cases e : i + 1 = rows.length
  · have : rows.length - 1 = i := by omega
    have h3 : rows[rows.length - 1]? = some (k, r) := by rw [this]; exact h
    rw [List.getElem?_eq_getElem hl] at h3
    rw [Option.some.inj h3]; simp [e]
  · rw [decide_eq_false e, decide_eq_false]
    intro q
    have h1 : (rows.map (·.1))[i]? = some k := by rw [List.getElem?_map, h]; rfl
    have h2 : (rows.map (·.1))[rows.length - 1]? = some k := by rw [List.getElem?_map, List.getElem?_eq_getElem hl]; exact congrArg some q
    have := (List.getElem?_inj (by rw [List.length_map]; exact hlt) hn).mp (h1.trans h2.symm)
    omega
section
variable {D : Amb} {n : Nat} {H H' : AH}
theorem k_left (W : Facts D) {o rw : Addr} {rows : List (Nat × (Int × Int))} {p : Nat} {op al : Bool} {L : Int} (h1 : H o = some (.sd (ownFs rw p op al L))) (h2 : H rw = some (.list (trR rows))) (nd : (rows.map (·.1)).Nodup) (kb : ∀ r ∈ rows, r.1 < 95) (len : rows.length < 900)
    {k : Nat} (hk : k < 95) : WK D (n + 1) 218 [.ref o, .str k] H fun _ H' => OwnStep o (ownFs rw p op (al || ((dget rows k).isSome && !(op && lastIs rows k))) L) H H' := by
  refine wk_fn W.ro W.f218 rfl ?_
  unfold b_law_left
  have hro : rw ≠ o := fun q => by rw [q, h1] at h2; cases h2
  have h1' := h1
  unfold ownFs at h1
  have hln := trR_len rows
  refine ws_cons (w1_asgc (src_enum W.toFactsR.enum (we_p W (v := .ref rw) (by tb_start) ⟨rw, trR rows, rfl, h2, by rw [enumV_len, hln]; omega, (fun v => headIs k (ndV v)), hdV, fun v hv => ?_, fun a ha => ?_⟩)))
  · obtain ⟨i, hi⟩ := List.getElem?_of_mem hv
    obtain ⟨y, hy, rfl⟩ := enumV_get hi
    obtain ⟨kk, ff, vv, hr, rfl⟩ := trR_get hy
    have hc := cmp_str H (kb _ (List.mem_of_getElem? hr)) hk
    dsimp only at hc
    refine ⟨_, rfl, evB_ok W.toFactsR.rd _ ?_ ⟨rfl, rfl⟩, fun _ => evP_ok W.toFactsR.rd _ ?_ ⟨rfl, rfl⟩⟩
    · tb_start
    · show _ = some (V.int (i : Int)); tb_start
  · have ao := ne_of_live (some_ne h1) ha
    have ar := ne_of_live (some_ne h2) ha
    have hres := spots_of nd k
    dsimp only at hres
    generalize hR : (((enumV (trR rows)).filter fun v => headIs k (ndV v)).map hdV) = Rs at hres ha ⊢
    have hdo : ∀ (H : AH), ∀ x ∈ Rs, ∃ d, dOf H 4 x = some d := fun H x hx => by
      rcases hres with ⟨_, hr⟩ | ⟨i, r, _, hr⟩
      · rw [hr] at hx; cases hx
      · rw [hr] at hx; simp at hx; subst hx; exact ⟨_, rfl⟩
    refine s_ifE (wb_and (wb_cmp (we_p W (v := .ref a) (by tb_start) (we_list (wes_nil ⟨by simp, fun b hb => ?_⟩)))))
    obtain ⟨ba, hb0⟩ := upd_none hb
    have bo := ne_of_live (some_ne h1) hb0
    have br := ne_of_live (some_ne h2) hb0
    have hce := (cmp_empty (H := upd (upd H a (.list Rs)) b (.list [])) (a := a) (b := b) ((upd_ne (Ne.symm ba)).trans (upd_self _ _ _)) (upd_self _ _ _) (hdo _)).2
    refine ⟨_, hce, ?_⟩
    have hN : ∀ z, H z ≠ none → upd (upd H a (.list Rs)) b (.list []) z = H z := fun z hz => by rw [upd_ne (ne_of_live hz hb0), upd_ne (ne_of_live hz ha)]
    have d1 := (hN o (some_ne h1)).trans h1
    have d2 := (hN rw (some_ne h2)).trans h2
    have d1' := (hN o (some_ne h1)).trans h1'
    have da : upd (upd H a (.list Rs)) b (.list []) a = some (.list Rs) := (upd_ne (Ne.symm ba)).trans (upd_self _ _ _)
    generalize hF : upd (upd H a (.list Rs)) b (.list []) = F at hN d1 d2 d1' da ⊢
    have hl2 : rows.length < 1000000 := by omega
    have fin0 : ∀ z : Bool, z = ((dget rows k).isSome && !(op && lastIs rows k)) → WS D n (if z = true then [.asg (.item (.var 36) (.str 55)) (.bool true)] else []) (lset (fun i => dget (p_law_left.zip [.ref o, .str k]) i) 39 (.ref a)) F (Then D n [] (Ends fun _ H' => OwnStep o (ownFs rw p op (al || ((dget rows k).isSome && !(op && lastIs rows k))) L) H H')) := fun z hz => by
      rw [← hz]
      cases z with
      | true =>
        rw [if_pos rfl]
        refine s_itemE W (we_p W (v := .bool true) rfl ⟨.ref o, .str 55, o, .sd (ownFs rw p op true L), by tb_start, by tb_start, ?_, s_end (ws_nil ⟨?_, fun z hz hzo => ?_⟩)⟩)
        · rw [← dset_alone rw p op al L]
          simp [putV, putO, d1', ownFs]
        · rw [upd_self, Bool.or_true]
        · rw [upd_ne hzo]; exact hN z hz
      | false =>
        rw [if_neg (by decide)]
        refine s_end (ws_nil ⟨?_, fun z hz _ => hN z hz⟩)
        rw [Bool.or_false]; exact d1'
    rcases hres with ⟨hd, hr⟩ | ⟨i, r, hi, hr⟩
    · subst hr
      show WS D n (if false = true then _ else _) _ _ _
      exact fin0 false (by rw [hd]; rfl)
    · subst hr
      have hd := dget_idx nd hi
      have hlast := lastIs_at nd hi
      have hlt := (List.getElem?_eq_some_iff.mp hi).1
      have hcond : evB F (lset (fun i => dget (p_law_left.zip [.ref o, .str k]) i) 39 (.ref a)) (.bop .And [.not (.bop .And [.item (.var 36) (.str 54), .cmp .Eq (.item (.var 39) (.int 0)) (.bin .Sub (.call 84 [.item (.var 36) (.str 26)]) (.int 1))])]) = some (!(op && lastIs rows k)) := by
        rw [hlast]
        have hq : decide ((i : Int) = (rows.length : Int) - 1) = decide (i + 1 = rows.length) := decide_eq_decide.mpr (by omega)
        exact b_and1 (b_not (b_and2 (b_item (e_item (by tb_start) e_str (i_sd d1 rfl))) (b_cmp (e_item (by tb_start) e_int (i_list da rfl)) (e_bin (e_len (es_cons (e_item (by tb_start) e_str (i_sd d1 rfl)) es_nil) d2 (by rw [hln]; exact hl2)) e_int rfl) (by rw [hln]; exact congrArg some hq))) rfl)
      refine wb_p W hcond ?_
      exact fin0 _ (by rw [hd]; simp)
end



/-! all that the law holds -/
inductive LRole where
  | no | box | bl | st | ow | se | own (j : Nat) | rows (j : Nat) | told
set_option genInjectivity false in
structure LA where
  T : Addr
  R : Addr
  B : Addr
  bl : Addr
  ST : Addr
  OW : Addr
  SE : Addr
  L : Int
set_option genInjectivity false in
structure LGh where
  oa : Nat → Addr
  rw : Nat → Addr
  lo : Addr → LRole
noncomputable def refsV (k : Nat) (f : Nat → Addr) : List V := (List.range k).map fun j => V.ref (f j)
theorem refsV_len (k : Nat) (f : Nat → Addr) : (refsV k f).length = k := by simp [refsV]
theorem refsV_get {k j : Nat} (f : Nat → Addr) (h : j < k) : (refsV k f)[j]? = some (.ref (f j)) := by simp [refsV, h]
theorem refsV_of {k j : Nat} {f : Nat → Addr} {x : V} (h : (refsV k f)[j]? = some x) : j < k ∧ x = .ref (f j) := by
  have h1 := (List.getElem?_eq_some_iff.mp h).1
  rw [refsV_len] at h1
  rw [refsV_get f h1] at h
  exact ⟨h1, (Option.some.inj h).symm⟩
theorem refsV_congr {k : Nat} {f f' : Nat → Addr} (h : ∀ j, j < k → f' j = f j) : refsV k f' = refsV k f := by
  unfold refsV
  exact List.map_congr_left fun j hj => by rw [h j (List.mem_range.mp hj)]
theorem refsV_succ (k : Nat) (f : Nat → Addr) : refsV (k + 1) f = refsV k f ++ [.ref (f k)] := by simp [refsV, List.range_succ]
structure OwnOk (A : LA) (G : Gh) (g : LGh) (H : AH) (j : Nat) (s : SD) : Prop where
  lo : g.lo (g.oa j) = .own j
  lr : g.lo (g.rw j) = .rows j
  ho : H (g.oa j) = some (.sd (ownFs (g.rw j) s.p s.op s.al A.L))
  hr : H (g.rw j) = some (.list (trR s.rows))
  pb : s.p ≤ G.ns
  nd : (s.rows.map (·.1)).Nodup
  kb : ∀ r ∈ s.rows, r.1 < 95
noncomputable def toldV (b : Addr) (i : Info) : V := .tup [.ref b, .int (i.p : Int), .bool i.op]
structure SeenOk (A : LA) (c : Nat) (G : Gh) (g : LGh) (H : AH) : Prop where
  ex : ∃ kvs, H A.SE = some (.nd kvs) ∧ kvs.length ≤ c ∧ ∀ z v, (z, v) ∈ kvs → ∃ i a b, G.tr i = some a ∧ z = G.nu i ∧ v = toldV b i ∧ g.lo b = .told ∧ H b = some (.list (rowsV i.rows)) ∧ ∀ r ∈ i.rows, r.1 < 95
  lo : g.lo A.SE = .se
noncomputable def SD.fit (L : Int) (s : SD) : Prop := s.al = false → (s.rows.length : Int) ≤ L
structure LI (A : LA) (m c ln : Nat) (G : Gh) (S O : Nat → SD) (g : LGh) (H : AH) : Prop where
  X : TI A.T A.R A.L m G H
  Y : ∀ j, j < G.ns → SOk A.T G H j (S j)
  fit : ∀ j, j < G.ns → (S j).fit A.L
  fr : ∀ a, H a = none → g.lo a = .no
  lf : ∀ a, g.lo a ≠ .no → G.ro a = .free
  box : BoxOk A.B A.bl H
  boxB : g.lo A.B = .box
  boxb : g.lo A.bl = .bl
  st : H A.ST = some (.list (refsV G.ns G.sa))
  stl : g.lo A.ST = .st
  ow : H A.OW = some (.list (refsV G.ns g.oa))
  owl : g.lo A.OW = .ow
  own : ∀ j, j < G.ns → OwnOk A G g H j (O j)
  rl : ∀ j, j < G.ns → (O j).rows.length ≤ ln
  seen : SeenOk A c G g H
noncomputable def setF {α : Type} (S : Nat → α) (j : Nat) (s : α) : Nat → α := fun i => if i = j then s else S i
@[simp] theorem setF_self {α : Type} (S : Nat → α) (j : Nat) (s : α) : setF S j s j = s := if_pos rfl
theorem setF_ne {α : Type} {S : Nat → α} {i j : Nat} {s : α} (h : i ≠ j) : setF S j s i = S i := if_neg h

section
variable {A : LA} {m c ln : Nat} {G G' : Gh} {S O : Nat → SD} {g g' : LGh} {H H' : AH}
theorem OwnOk.keep {j : Nat} {s : SD} (x : OwnOk A G g H j s) (hn : G'.ns = G.ns) (ha : g'.oa j = g.oa j) (hb : g'.rw j = g.rw j) (h1 : g'.lo (g.oa j) = g.lo (g.oa j)) (h2 : g'.lo (g.rw j) = g.lo (g.rw j)) (h3 : H' (g.oa j) = H (g.oa j)) (h4 : H' (g.rw j) = H (g.rw j)) : OwnOk A G' g' H' j s :=
  ⟨by rw [ha, h1]; exact x.lo, by rw [hb, h2]; exact x.lr, by rw [ha, hb, h3]; exact x.ho, by rw [hb, h4]; exact x.hr, by rw [hn]; exact x.pb, x.nd, x.kb⟩
theorem SeenOk.keep (x : SeenOk A c G g H) (ht : ∀ i a, G.tr i = some a → G'.tr i = some a ∧ G'.nu i = G.nu i) (hl : ∀ a, H a ≠ none → g'.lo a = g.lo a) (h1 : H' A.SE = H A.SE) (h2 : ∀ b, H b ≠ none → g.lo b = .told → H' b = H b) : SeenOk A c G' g' H' := by
  obtain ⟨kvs, a1, a2, a3⟩ := x.ex
  refine ⟨⟨kvs, h1.trans a1, a2, fun z v hz => ?_⟩, (hl _ (some_ne a1)).trans x.lo⟩
  obtain ⟨i, a, b, b1, b2, b3, b4, b5, b6⟩ := a3 z v hz
  obtain ⟨t1, t2⟩ := ht i a b1
  exact ⟨i, a, b, t1, b2.trans t2.symm, b3, (hl b (some_ne b5)).trans b4, (h2 b (some_ne b5) b4).trans b5, b6⟩
theorem LI.live (I : LI A m c ln G S O g H) {z : Addr} (h : g.lo z ≠ .no) : H z ≠ none := fun q => h (I.fr z q)

theorem LI.ext {M : Role → Prop} (I : LI A m c ln G S O g H) {S' : Nat → SD} {m' : Nat} (E : Ext M G H G' H') (hM : ¬ M .free) (X' : TI A.T A.R A.L m' G' H') (Y' : ∀ j, j < G.ns → SOk A.T G' H' j (S' j)) (ft : ∀ j, j < G.ns → (S' j).fit A.L) : LI A m' c ln G' S' O g H' := by
  have K : ∀ z, g.lo z ≠ .no → H' z = H z := fun z hz => (E.live z (I.live hz)).2.2 (by rw [I.lf z hz]; exact hM)
  have ne {r : LRole} {z : Addr} (h : g.lo z = r) (hr : r ≠ .no) : g.lo z ≠ .no := by rw [h]; exact hr
  refine ⟨X', by rw [E.ns]; exact Y', by rw [E.ns]; exact ft, fun a ha => ?_, fun a ha => ?_, I.box.keep (K _ (ne I.boxB (by intro q; cases q))) (K _ (ne I.boxb (by intro q; cases q))), I.boxB, I.boxb, ?_, I.stl, ?_, I.owl, ?_, by rw [E.ns]; exact I.rl, ?_⟩
  · cases e : H a with
    | none => exact I.fr a e
    | some o => exact absurd ha (E.live a (some_ne e)).1
  · exact ((E.live a (I.live ha)).2.1).trans (I.lf a ha)
  · rw [K _ (ne I.stl (by intro q; cases q)), E.ns, E.sa]; exact I.st
  · rw [K _ (ne I.owl (by intro q; cases q)), E.ns]; exact I.ow
  · rw [E.ns]
    exact fun j hj => (I.own j hj).keep E.ns rfl rfl rfl rfl (K _ (ne (I.own j hj).lo (by intro q; cases q))) (K _ (ne (I.own j hj).lr (by intro q; cases q)))
  · exact I.seen.keep E.tr (fun _ _ => rfl) (K _ (ne I.seen.lo (by intro q; cases q))) fun b _ hb => K b (ne hb (by intro q; cases q))
inductive StoreP (A : LA) (m m1 c ln : Nat) (G : Gh) (S O : Nat → SD) (g : LGh) (H' : AH) : Prop
  | mk (G' : Gh) (m' : Nat) : m ≤ m' → m' ≤ m1 → G'.ns = G.ns → LI A m' c ln G' S O g H' → StoreP A m m1 c ln G S O g H'
theorem LI.store (I : LI A m c ln G S O g H) {j k : Nat} {s' : SD} (hp : SP A.T A.R A.L m k G H j s' H') (ft : s'.fit A.L) : StoreP A m (m + k) c ln G (setF S j s') O g H' := by
  obtain ⟨G', m', X', E, h1, h2, Y'⟩ := hp
  refine ⟨G', m', h1, h2, E.ns, I.ext E (modS_free j) X' (fun i hi => ?_) fun i hi => ?_⟩
  · by_cases e : i = j
    · subst e; rw [setF_self]; exact Y'
    · rw [setF_ne e]; exact (I.Y i hi).other E (Ne.symm e)
  · by_cases e : i = j
    · subst e; rw [setF_self]; exact ft
    · rw [setF_ne e]; exact I.fit i hi
theorem LI.tree (I : LI A m c ln G S O g H) {m' : Nat} (E : Ext isTr G H G' H') (X' : TI A.T A.R A.L m' G' H') : LI A m' c ln G' S O g H' :=
  I.ext E id X' (fun j hj => (I.Y j hj).tree E) I.fit

noncomputable def LStep (M : LRole → Prop) (g : LGh) (H H' : AH) : Prop := ∀ z, H z ≠ none → H' z ≠ none ∧ (¬ M (g.lo z) → H' z = H z)
theorem LI.lstep {M : LRole → Prop} (I : LI A m c ln G S O g H) (s : LStep M g H H') (hM : ¬ M .no) : TI A.T A.R A.L m G H' ∧ ∀ j, j < G.ns → SOk A.T G H' j (S j) := by
  have K : ∀ z, H z ≠ none → G.ro z ≠ .free → H' z = H z := fun z hz hr => (s z hz).2 (by
    cases e : g.lo z with
    | no => exact hM
    | _ => exact absurd (I.lf z (by rw [e]; exact fun q => nomatch q)) hr)
  have X' : TI A.T A.R A.L m { G with ro := G.ro } H' := I.X.move (fun _ _ => rfl) (fun a ha => I.X.fr a (by
      cases e : H a with
      | none => rfl
      | some o => exact absurd ha (s a (some_ne e)).1)) (fun a h1 h2 => K a h1 (fun q => by rw [q] at h2; exact h2)) fun j hj => by
    obtain ⟨q1, fs, q2, q3⟩ := I.X.st j hj
    exact ⟨fs, (K _ (some_ne q2) (fun q => by rw [q1] at q; cases q)).trans q2, q3⟩
  have E : Ext (fun r => r = .free) G H G H' := ⟨fun a ha => ⟨(s a ha).1, rfl, fun q => K a ha q⟩, fun _ _ h => ⟨h, rfl⟩, rfl, rfl, rfl⟩
  exact ⟨X', fun j hj => (I.Y j hj).keep E (by intro q; cases q) (by intro q; cases q) (by intro q; cases q)⟩
theorem LI.re {M : LRole → Prop} (I : LI A m c ln G S O g H) (s : LStep M g H H') (hM : ¬ M .no) {O' : Nat → SD} {c' ln' : Nat} (hlo : ∀ a, H a ≠ none → g'.lo a = g.lo a) (hfr : ∀ a, H' a = none → g'.lo a = .no) (bx : BoxOk A.B A.bl H')
    (hst : ¬ M .st) (how : ¬ M .ow) (hoa : ∀ j, j < G.ns → g'.oa j = g.oa j) (own : ∀ j, j < G.ns → OwnOk A G g' H' j (O' j)) (rl : ∀ j, j < G.ns → (O' j).rows.length ≤ ln') (seen : SeenOk A c' G g' H') : LI A m c' ln' G S O' g' H' := by
  obtain ⟨X', Y'⟩ := I.lstep s hM
  have lv {r : LRole} {z : Addr} (h : g.lo z = r) (hr : r ≠ .no) : H z ≠ none := I.live (by rw [h]; exact hr)
  have kp {r : LRole} {z : Addr} (h : g.lo z = r) (hr : r ≠ .no) : g'.lo z = r := (hlo z (lv h hr)).trans h
  refine ⟨X', Y', I.fit, hfr, fun a ha => ?_, bx, kp I.boxB (by intro q; cases q), kp I.boxb (by intro q; cases q), ?_, kp I.stl (by intro q; cases q), ?_, kp I.owl (by intro q; cases q), own, rl, seen⟩
  · cases e : H a with
    | none => exact I.X.fr a e
    | some o => exact I.lf a (by rw [← hlo a (some_ne e)]; exact ha)
  · rw [(s _ (some_ne I.st)).2 (by rw [I.stl]; exact hst)]; exact I.st
  · rw [(s _ (some_ne I.ow)).2 (by rw [I.owl]; exact how), refsV_congr hoa]; exact I.ow
theorem LI.hfr {M : LRole → Prop} (I : LI A m c ln G S O g H) (s : LStep M g H H') : ∀ a, H' a = none → g.lo a = .no := fun a ha => I.fr a (by
  cases e : H a with
  | none => rfl
  | some o => exact absurd ha (s a (some_ne e)).1)
theorem LI.seenK {M : LRole → Prop} (I : LI A m c ln G S O g H) (s : LStep M g H H') (h1 : ¬ M .se) (h2 : ¬ M .told) (hlo : ∀ a, H a ≠ none → g'.lo a = g.lo a) : SeenOk A c G g' H' :=
  I.seen.keep (fun _ _ h => ⟨h, rfl⟩) hlo ((s _ (I.live (by rw [I.seen.lo]; exact fun q => nomatch q))).2 (by rw [I.seen.lo]; exact h1)) fun b hb hl => (s b hb).2 (by rw [hl]; exact h2)
theorem LI.boxK {M : LRole → Prop} (I : LI A m c ln G S O g H) (s : LStep M g H H') (h1 : ¬ M .box) (h2 : ¬ M .bl) : BoxOk A.B A.bl H' :=
  I.box.keep ((s _ (I.live (by rw [I.boxB]; exact fun q => nomatch q))).2 (by rw [I.boxB]; exact h1)) ((s _ (I.live (by rw [I.boxb]; exact fun q => nomatch q))).2 (by rw [I.boxb]; exact h2))
theorem LI.ownK {M : LRole → Prop} (I : LI A m c ln G S O g H) (s : LStep M g H H') {j : Nat} (hj : j < G.ns) (h1 : ¬ M (.own j)) (h2 : ¬ M (.rows j)) (hlo : ∀ a, H a ≠ none → g'.lo a = g.lo a) (ha : g'.oa j = g.oa j) (hb : g'.rw j = g.rw j) : OwnOk A G g' H' j (O j) :=
  have x := I.own j hj
  x.keep rfl ha hb (hlo _ (some_ne x.ho)) (hlo _ (some_ne x.hr)) ((s _ (some_ne x.ho)).2 (by rw [x.lo]; exact h1)) ((s _ (some_ne x.hr)).2 (by rw [x.lr]; exact h2))
theorem LI.takes (I : LI A m c ln G S O g H) (bx : BoxOk A.B A.bl H') (h : ∀ z, z ≠ A.B → z ≠ A.bl → H' z = H z) : LI A m c ln G S O g H' := by
  have s : LStep (fun r => r = .box ∨ r = .bl) g H H' := fun z hz => by
    obtain ⟨xs, t, b1, b2, _⟩ := bx.ex
    by_cases e1 : z = A.B
    · exact ⟨by rw [e1, b1]; exact (by intro q; cases q), fun q => absurd (Or.inl (by rw [e1]; exact I.boxB)) q⟩
    · by_cases e2 : z = A.bl
      · exact ⟨by rw [e2, b2]; exact (by intro q; cases q), fun q => absurd (Or.inr (by rw [e2]; exact I.boxb)) q⟩
      · rw [h z e1 e2]; exact ⟨hz, fun _ => rfl⟩
  have n1 : ∀ {r : LRole}, r ≠ .box → r ≠ .bl → ¬ (r = .box ∨ r = .bl) := fun a b q => q.elim a b
  exact I.re s (n1 (by intro q; cases q) (by intro q; cases q)) (fun _ _ => rfl) (I.hfr s) bx (n1 (by intro q; cases q) (by intro q; cases q)) (n1 (by intro q; cases q) (by intro q; cases q)) (fun _ _ => rfl) (fun j hj => I.ownK s hj (n1 (by intro q; cases q) (by intro q; cases q)) (n1 (by intro q; cases q) (by intro q; cases q)) (fun _ _ => rfl) rfl rfl) I.rl (I.seenK s (n1 (by intro q; cases q) (by intro q; cases q)) (n1 (by intro q; cases q) (by intro q; cases q)) fun _ _ => rfl)
theorem LI.news (I : LI A m c ln G S O g H) (N : NewH H H') : LI A m c ln G S O g H' := by
  have s : LStep (fun _ => False) g H H' := fun z hz => by rw [N z hz]; exact ⟨hz, fun _ => rfl⟩
  exact I.re s id (fun _ _ => rfl) (I.hfr s) (I.boxK s id id) id id (fun _ _ => rfl) (fun j hj => I.ownK s hj id id (fun _ _ => rfl) rfl rfl) I.rl (I.seenK s id id fun _ _ => rfl)
theorem LI.ownS (I : LI A m c ln G S O g H) {j : Nat} (hj : j < G.ns) {q : Nat} {op al : Bool} (hq : q ≤ G.ns) (h : OwnStep (g.oa j) (ownFs (g.rw j) q op al A.L) H H') : LI A m c ln G S (setF O j ⟨q, (O j).rows, op, al⟩) g H' := by
  have x := I.own j hj
  have s : LStep (fun r => r = .own j) g H H' := fun z hz => by
    by_cases e : z = g.oa j
    · exact ⟨by rw [e, h.1]; exact (by intro q; cases q), fun q => absurd (by rw [e]; exact x.lo) q⟩
    · rw [h.2 z hz e]; exact ⟨hz, fun _ => rfl⟩
  refine I.re s (by intro q; cases q) (fun _ _ => rfl) (I.hfr s) (I.boxK s (by intro q; cases q) (by intro q; cases q)) (by intro q; cases q) (by intro q; cases q) (fun _ _ => rfl) (fun i hi => ?_) (fun i hi => ?_) (I.seenK s (by intro q; cases q) (by intro q; cases q) fun _ _ => rfl)
  · by_cases e : i = j
    · subst e
      rw [setF_self]
      exact ⟨x.lo, x.lr, h.1, (h.2 _ (some_ne x.hr) fun q => by have := x.lr; rw [q, x.lo] at this; cases this).trans x.hr, hq, x.nd, x.kb⟩
    · rw [setF_ne e]
      exact I.ownK s hi (fun q => by injection q with q; exact e q) (by intro q; cases q) (fun _ _ => rfl) rfl rfl
  · by_cases e : i = j
    · subst e; rw [setF_self]; exact I.rl _ hi
    · rw [setF_ne e]; exact I.rl _ hi
theorem LI.rowsS (I : LI A m c ln G S O g H) {j : Nat} (hj : j < G.ns) {rows : List (Nat × (Int × Int))} {ln' : Nat} (nd : (rows.map (·.1)).Nodup) (kb : ∀ r ∈ rows, r.1 < 95) (hl : rows.length ≤ ln') (hln : ln ≤ ln') :
    LI A m c ln' G S (setF O j ⟨(O j).p, rows, (O j).op, (O j).al⟩) g (upd H (g.rw j) (.list (trR rows))) := by
  have x := I.own j hj
  have s : LStep (fun r => r = .rows j) g H (upd H (g.rw j) (.list (trR rows))) := fun z hz => by
    by_cases e : z = g.rw j
    · exact ⟨by rw [e, upd_self]; exact (by intro q; cases q), fun q => absurd (by rw [e]; exact x.lr) q⟩
    · rw [upd_ne e]; exact ⟨hz, fun _ => rfl⟩
  refine I.re s (by intro q; cases q) (fun _ _ => rfl) (I.hfr s) (I.boxK s (by intro q; cases q) (by intro q; cases q)) (by intro q; cases q) (by intro q; cases q) (fun _ _ => rfl) (fun i hi => ?_) (fun i hi => ?_) (I.seenK s (by intro q; cases q) (by intro q; cases q) fun _ _ => rfl)
  · by_cases e : i = j
    · subst e
      rw [setF_self]
      exact ⟨x.lo, x.lr, (upd_ne fun q => by have := x.lr; rw [← q, x.lo] at this; cases this).trans x.ho, upd_self _ _ _, x.pb, nd, kb⟩
    · rw [setF_ne e]
      exact I.ownK s hi (by intro q; cases q) (fun q => by injection q with q; exact e q) (fun _ _ => rfl) rfl rfl
  · by_cases e : i = j
    · subst e; rw [setF_self]; exact hl
    · rw [setF_ne e]; exact Nat.le_trans (I.rl _ hi) hln
end



theorem SD.fit_put {L : Int} {s : SD} (h : s.fit L) (k : Nat) (f v : Int) : (s.put L k f v).fit L := by
  intro q
  unfold SD.put at q ⊢
  dsimp only at q ⊢
  rw [Bool.or_eq_false_iff] at q
  have h1 := h q.1
  cases e : dget s.rows k with
  | some r =>
    have := congrArg List.length (dset_keys s.rows k (f, v))
    rw [if_pos (by rw [e]; rfl), List.length_map, List.length_map] at this
    rw [this]; exact h1
  | none =>
    have h2 := q.2
    rw [e] at h2
    simp only [Option.isNone_none, Bool.true_and, Bool.or_eq_false_iff, decide_eq_false_iff_not] at h2
    have := dset_length s.rows k (f, v)
    omega
theorem SD.fit_rem {L : Int} {s : SD} (h : s.fit L) (k : Nat) : (s.rem k).fit L := by
  intro q
  unfold SD.rem at q ⊢
  dsimp only at q ⊢
  rw [Bool.or_eq_false_iff] at q
  have h1 := h q.1
  have := ddel_len s.rows k
  omega

section
variable {D : Amb} {n : Nat} {ρ : Loc} {A : LA} {m c ln : Nat} {G G' : Gh} {S O : Nat → SD} {g g' : LGh} {H H' : AH} {j : Nat}
theorem LI.same (I : LI A m c ln G S O g H) (h : ∀ j, j < G.ns → O j = S j) {ln' : Nat} (hl : ln ≤ ln') : LI A m c ln' G S S g H :=
  ⟨I.X, I.Y, I.fit, I.fr, I.lf, I.box, I.boxB, I.boxb, I.st, I.stl, I.ow, I.owl, fun j hj => by rw [← h j hj]; exact I.own j hj, fun j hj => by rw [← h j hj]; exact Nat.le_trans (I.rl j hj) hl, I.seen⟩
theorem we_st (W : Facts D) {T : Addr} {s : SD} (Y : SOk T G H j s) {e : X} {q : Nat} {es : List X} {f : Addr} {vs : List V} {Q : V → AH → Prop} (h1 : evP H ρ e = some (.ref (G.sa j))) (h3 : methB 190 q = some f)
    (h4 : ∀ num sh sl tb al ap ao, dget (sFs T num sh sl tb al ap ao) q = none) (h5 : evPs H ρ es = some vs) (h6 : WK D n f (.ref (G.sa j) :: vs) H Q) : WE D n (.meth e q es) ρ H Q := by
  obtain ⟨sh, sl, tb, xs, tv, ap, ao, e1, _⟩ := Y.ex
  exact we_m W h1 e1 h3 (h4 _ _ _ _ _ _ _) (wes_p W h5 h6)

/-! the parts of a step -/
theorem l_put (W : Facts D) (I : LI A m c ln G S O g H) (hj : j < G.ns) (hlen : (S j).rows.length ≤ ln) (hln : ln < 800) (hm : m + 1000 < 800000) {e : X} {es : List X} {k : Nat} {f v : Int} (he : evP H ρ e = some (.ref (G.sa j))) (hs : evPs H ρ es = some [.str k, .int f, .int v]) (hk : k < 95) :
    WE D (n + 6) (.meth e 69 es) ρ H fun _ H' => StoreP A m (m + (ln + 2)) c ln G (setF S j ((S j).put A.L k f v)) O g H' :=
  we_st W (I.Y j hj) he rfl (fun _ _ _ _ _ _ _ => rfl) hs ((k_put (n := n) W I.X (I.Y j hj) hk f v (by omega) hm).mono fun _ H' sp => by
    obtain ⟨G', m', a, b, d, x⟩ := I.store sp (SD.fit_put (I.fit j hj) k f v)
    exact ⟨G', m', a, by omega, d, x⟩)
theorem l_rem (W : Facts D) (I : LI A m c ln G S O g H) (hj : j < G.ns) {e : X} {es : List X} {k : Nat} (he : evP H ρ e = some (.ref (G.sa j))) (hs : evPs H ρ es = some [.str k]) (hk : k < 95) :
    WE D (n + 4) (.meth e 71 es) ρ H fun _ H' => StoreP A m m c ln G (setF S j ((S j).rem k)) O g H' :=
  we_st W (I.Y j hj) he rfl (fun _ _ _ _ _ _ _ => rfl) hs ((k_remove (n := n) W I.X (I.Y j hj) hk).mono fun _ H' sp => by
    obtain ⟨G', m', a, b, d, x⟩ := I.store sp (SD.fit_rem (I.fit j hj) k)
    exact ⟨G', m', a, b, d, x⟩)
theorem l_close (W : Facts D) (I : LI A m c ln G S O g H) (hj : j < G.ns) (hm : m < 900000) {e : X} (he : evP H ρ e = some (.ref (G.sa j))) :
    WE D (n + 4) (.meth e 72 []) ρ H fun _ H' => StoreP A m (m + 1) c ln G (setF S j { S j with op := false }) O g H' :=
  we_st W (I.Y j hj) he rfl (fun _ _ _ _ _ _ _ => rfl) rfl ((k_close (n := n) W I.X (I.Y j hj) hm).mono fun _ H' sp => by
    obtain ⟨G', m', a, b, d, x⟩ := I.store sp (I.fit j hj)
    exact ⟨G', m', a, b, d, x⟩)
theorem l_proto (W : Facts D) (I : LI A m c ln G S O g H) (hj : j < G.ns) (hlen : (S j).rows.length ≤ ln) (hm : m + 1000 < 800000) {e : X} {es : List X} {q : Nat} (hq : q ≤ G.ns) (he : evP H ρ e = some (.ref (G.sa j))) (hs : evPs H ρ es = some [G.protoV q]) :
    WE D (n + 5) (.meth e 73 es) ρ H fun _ H' => StoreP A m (m + (ln + 2)) c ln G (setF S j { S j with p := q }) O g H' :=
  we_st W (I.Y j hj) he rfl (fun _ _ _ _ _ _ _ => rfl) hs ((k_setproto (n := n) W I.X (I.Y j hj) hq hm).mono fun _ H' sp => by
    obtain ⟨G', m', a, b, d, x⟩ := I.store sp (I.fit j hj)
    exact ⟨G', m', a, by omega, d, x⟩)
theorem l_alone (W : Facts D) (I : LI A m c ln G S O g H) (hj : j < G.ns) {e : X} (he : evP H ρ e = some (.ref (G.sa j))) :
    WE D (n + 3) (.meth e 68 []) ρ H fun _ H' => StoreP A m m c ln G (setF S j { S j with al := true }) O g H' :=
  we_st W (I.Y j hj) he rfl (fun _ _ _ _ _ _ _ => rfl) rfl ((k_alone (n := n) W I.X (I.Y j hj)).mono fun _ H' ⟨ro, X1, E1, Y1⟩ => by
    obtain ⟨G', m', a, b, d, x⟩ := I.store (k := 0) ⟨_, m, X1, E1, Nat.le_refl _, Nat.le_refl _, Y1⟩ (fun q => Bool.noConfusion q)
    exact ⟨G', m', a, b, d, x⟩)
theorem l_noted (W : Facts D) (I : LI A m c ln G S O g H) (hj : j < G.ns) (hln : ln < 800) {es : List X} {k : Nat} (hs : evPs H ρ es = some [.ref (g.oa j), .str k]) (hk : k < 95) :
    WE D (n + 1) (.call 76 es) ρ H fun _ H' => LI A m c ln G S (setF O j ⟨(O j).p, (O j).rows, (O j).op, (O j).al || ((dget (O j).rows k).isNone && (decide (A.L ≤ (O j).rows.length) || !(O j).op))⟩) g H' :=
  have x := I.own j hj
  we_c W rfl (wes_p W hs ((k_noted (n := n) W x.ho x.hr x.kb (by have := I.rl j hj; omega) hk).mono fun _ H' st => I.ownS hj x.pb st))
theorem l_left (W : Facts D) (I : LI A m c ln G S O g H) (hj : j < G.ns) (hln : ln < 800) {es : List X} {k : Nat} (hs : evPs H ρ es = some [.ref (g.oa j), .str k]) (hk : k < 95) :
    WE D (n + 1) (.call 77 es) ρ H fun _ H' => LI A m c ln G S (setF O j ⟨(O j).p, (O j).rows, (O j).op, (O j).al || ((dget (O j).rows k).isSome && !((O j).op && lastIs (O j).rows k))⟩) g H' :=
  have x := I.own j hj
  we_c W rfl (wes_p W hs ((k_left (n := n) W x.ho x.hr x.nd x.kb (by have := I.rl j hj; omega) hk).mono fun _ H' st => I.ownS hj x.pb st))
theorem l_own (W : Facts D) (I : LI A m c ln G S O g H) (hj : j < G.ns) (hln : ln < 800) {es : List X} {k : Nat} {f v : Int} (hs : evPs H ρ es = some [.ref (g.oa j), .str k, .int f, .int v]) (hk : k < 95) :
    WE D (n + 1) (.call 75 es) ρ H fun _ H' => LI A m c (ln + 1) G S (setF O j ⟨(O j).p, dset (O j).rows k (f, v), (O j).op, (O j).al⟩) g H' :=
  have x := I.own j hj
  we_c W rfl (wes_p W hs ((k_lawput (n := n) W x.ho x.hr x.nd x.kb (by have := I.rl j hj; omega) hk f v).mono fun _ H' e => by
    rw [e]
    exact I.rowsS hj (dset_nodup x.nd k (f, v)) (dset_kb x.kb hk (f, v)) (Nat.le_trans (dset_length _ _ _) (Nat.succ_le_succ (I.rl j hj))) (Nat.le_succ _)))
inductive TakeL (A : LA) (m c ln : Nat) (G : Gh) (S O : Nat → SD) (g : LGh) (lim : Int) (v : V) (H' : AH) : Prop
  | mk (I : LI A m c ln G S O g H') (z : Int) : v = .int z → 0 ≤ z → z < lim → TakeL A m c ln G S O g lim v H'
theorem l_take (W : Facts D) (I : LI A m c ln G S O g H) {lim : Int} (hl : 0 < lim) {es : List X} (hs : evPs H ρ es = some [.ref A.B, .int lim]) : WE D (n + 1) (.call 74 es) ρ H (TakeL A m c ln G S O g lim) :=
  we_c W rfl (wes_p W hs ((k_take (n := n) W I.box hl).mono fun v H' ⟨a, b, z, d, e, f⟩ => ⟨I.takes a b, z, d, e, f⟩))
end



section
variable {D : Amb} {n : Nat} {ρ : Loc} {A : LA} {m c ln : Nat} {G G' : Gh} {S O : Nat → SD} {g g' : LGh} {H H' : AH} {j : Nat}
theorem LI.rowsN (I : LI A m c ln G S O g H) {j : Nat} (hj : j < G.ns) {rows : List (Nat × (Int × Int))} (nd : (rows.map (·.1)).Nodup) (kb : ∀ r ∈ rows, r.1 < 95) (hl : rows.length ≤ ln) {a : Addr} (ha : H a = none) :
    LI A m c ln G S (setF O j ⟨(O j).p, rows, (O j).op, (O j).al⟩) { g with rw := setF g.rw j a, lo := fun z => if z = a then .rows j else g.lo z } (upd (upd H a (.list (trR rows))) (g.oa j) (.sd (ownFs a (O j).p (O j).op (O j).al A.L))) := by
  have x := I.own j hj
  have hoa : g.oa j ≠ a := ne_of_live (some_ne x.ho) ha
  have hlo : ∀ z, H z ≠ none → (if z = a then LRole.rows j else g.lo z) = g.lo z := fun z hz => if_neg (ne_of_live hz ha)
  have s : LStep (fun r => r = .own j) g H (upd (upd H a (.list (trR rows))) (g.oa j) (.sd (ownFs a (O j).p (O j).op (O j).al A.L))) := fun z hz => by
    by_cases e : z = g.oa j
    · exact ⟨by rw [e, upd_self]; exact (by intro q; cases q), fun q => absurd (by rw [e]; exact x.lo) q⟩
    · rw [upd_ne e, upd_ne (ne_of_live hz ha)]; exact ⟨hz, fun _ => rfl⟩
  refine I.re (g' := { g with rw := setF g.rw j a, lo := fun z => if z = a then .rows j else g.lo z }) s (by intro q; cases q) hlo (fun z hz => ?_) (I.boxK s (by intro q; cases q) (by intro q; cases q)) (by intro q; cases q) (by intro q; cases q) (fun _ _ => rfl) (fun i hi => ?_) (fun i hi => ?_) (I.seenK s (by intro q; cases q) (by intro q; cases q) hlo)
  · have hza : z ≠ a := fun q => by rw [q, upd_ne (Ne.symm hoa), upd_self] at hz; cases hz
    exact (if_neg hza).trans (I.hfr s z hz)
  · by_cases e : i = j
    · subst e
      rw [setF_self]
      exact ⟨(hlo _ (some_ne x.ho)).trans x.lo, by show (if setF g.rw i a i = a then _ else _) = _; rw [setF_self, if_pos rfl], by show upd _ _ _ (g.oa i) = _; rw [upd_self]; show _ = some (Mine.O.sd (ownFs (setF g.rw i a i) _ _ _ _)); rw [setF_self], by show upd _ _ _ (setF g.rw i a i) = _; rw [setF_self, upd_ne (Ne.symm hoa), upd_self], x.pb, nd, kb⟩
    · rw [setF_ne e]
      exact I.ownK s hi (fun q => by injection q with q; exact e q) (by intro q; cases q) hlo rfl (setF_ne e)
  · by_cases e : i = j
    · subst e; rw [setF_self]; exact hl
    · rw [setF_ne e]; exact I.rl _ hi

inductive StepQ (A : LA) (m c ln : Nat) (G : Gh) (H' : AH) : Prop
  | mk (G' : Gh) (m' : Nat) (S' : Nat → SD) (g' : LGh) : m' ≤ m + ln + 3 → G'.ns = G.ns → LI A m' c (ln + 1) G' S' S' g' H' → StepQ A m c ln G H'
theorem setF_twice {α : Type} (S : Nat → α) (j : Nat) (s t : α) : setF (setF S j s) j t = setF S j t := by
  funext i; unfold setF; split <;> rfl
structure SLoc (A : LA) (G : Gh) (g : LGh) (j k : Nat) (f v : Int) (ρ : Loc) : Prop where
  h35 : ρ 35 = some (.ref A.B)
  h37 : ρ 37 = some (.int (j : Int))
  h40 : ρ 40 = some (.ref A.ST)
  h43 : ρ 43 = some (.ref (G.sa j))
  h36 : ρ 36 = some (.ref (g.oa j))
  h11 : ρ 11 = some (.str k)
  h12 : ρ 12 = some (.int f)
  h34 : ρ 34 = some (.int v)
theorem put_own {s : SD} (L : Int) (k : Nat) (f v : Int) : (⟨s.p, dset s.rows k (f, v), s.op, s.al || ((dget s.rows k).isNone && (decide (L ≤ s.rows.length) || !s.op))⟩ : SD) = s.put L k f v := rfl

theorem st_put (W : Facts D) (I : LI A m c ln G S S g H) (hj : j < G.ns) (hln : ln < 500) (hm : m + 2000 < 800000) {k : Nat} {f v : Int} (R : SLoc A G g j k f v ρ) (hk : k < 95) {Q : Fl → Loc → AH → Prop} (hQ : ∀ ρ' H', StepQ A m c ln G H' → Q .nxt ρ' H') :
    WS D (n + 6) [.ex (.meth (.var 43) 69 [.var 11, .var 12, .var 34]), .ex (.call 76 [.var 36, .var 11]), .ex (.call 75 [.var 36, .var 11, .var 12, .var 34])] ρ H Q := by
  obtain ⟨h35, h37, h40, h43, h36, h11, h12, h34⟩ := R
  refine s_exE ((l_put (n := n) (f := f) (v := v) W I hj (I.rl j hj) (by omega) (by omega) (by tb_start) (by tb_start) hk).mono fun _ H1 ⟨G1, m1, a1, a2, a3, I1⟩ => ?_)
  have hj1 : j < G1.ns := by omega
  refine s_exE ((l_noted (n := n + 5) (k := k) W I1 hj1 (by omega) (by tb_start) hk).mono fun _ H2 I2 => ?_)
  refine s_exE ((l_own (n := n + 5) (k := k) (f := f) (v := v) W I2 hj1 (by omega) (by tb_start) hk).mono fun _ H3 I3 => ws_nil (hQ _ _ ⟨G1, m1, _, g, by omega, a3, I3.same (fun i hi => ?_) (Nat.le_refl _)⟩))
  rw [setF_twice, setF_self]; rfl
theorem st_form4 (W : Facts D) (I : LI A m c ln G S S g H) (hj : j < G.ns) (hln : ln < 500) (hm : m + 2000 < 800000) {k : Nat} {f v : Int} (R : SLoc A G g j k f v ρ) (hk : k < 95) {Q : Fl → Loc → AH → Prop} (hQ : ∀ ρ' H', StepQ A m c ln G H' → Q .nxt ρ' H') :
    WS D (n + 6) [.ex (.call 76 [.var 36, .var 11]), .ex (.call 75 [.var 36, .var 11, .int 7, .var 34]), .ex (.meth (.var 43) 69 [.var 11, .int 7, .var 34])] ρ H Q := by
  obtain ⟨h35, h37, h40, h43, h36, h11, h12, h34⟩ := R
  have hrl := I.rl j hj
  refine s_exE ((l_noted (n := n + 5) (k := k) W I hj (by omega) (by tb_start) hk).mono fun _ H2 I2 => ?_)
  refine s_exE ((l_own (n := n + 5) (k := k) (f := 7) (v := v) W I2 hj (by omega) (by tb_start) hk).mono fun _ H3 I3 => ?_)
  refine s_exE ((l_put (n := n) (f := 7) (v := v) W I3 hj (by omega) (by omega) (by omega) (by tb_start) (by tb_start) hk).mono fun _ H1 ⟨G1, m1, a1, a2, a3, I1⟩ => ws_nil (hQ _ _ ⟨G1, m1, _, g, by omega, a3, I1.same (fun i hi => ?_) (Nat.le_refl _)⟩))
  rw [setF_twice, setF_self]; rfl
theorem StepQ.of (I : LI A m c ln G S O g H) (h : ∀ j, j < G.ns → O j = S j) : StepQ A m c ln G H := ⟨G, m, S, g, by omega, rfl, I.same h (Nat.le_succ _)⟩
theorem ddel_filter {α : Type} (rows : List (Nat × α)) (k : Nat) : ddel rows k = rows.filter fun r => decide (r.1 ≠ k) := rfl
theorem filter_rem (rows : List (Nat × (Int × Int))) (k : Nat) : ((trR rows).filter (headNo k)) = trR (ddel rows k) := by
  unfold trR
  rw [List.filter_map]; rfl
theorem cmp_strN (H : AH) {a b : Nat} (ha : a < 95) (hb : b < 95) : cmpV H .NotEq (.str a) (.str b) = some (decide (a ≠ b)) := by
  simp [cmpV, dOf, NN, ha, hb, PyData.eqv, nm_beq]
theorem st_form5 (W : Facts D) (I : LI A m c ln G S S g H) (hj : j < G.ns) (hln : ln < 500) (hm : m + 2000 < 800000) {k : Nat} {f v : Int} (R : SLoc A G g j k f v ρ) (hk : k < 95) {Q : Fl → Loc → AH → Prop} (hQ : ∀ ρ' H', StepQ A m c ln G H' → Q .nxt ρ' H') :
    WS D (n + 6) [.ex (.meth (.var 43) 71 [.var 11]), .ex (.call 77 [.var 36, .var 11]), .asg (.item (.var 36) (.str 26)) (.comp (.var 21) (.one 21) (.item (.var 36) (.str 26)) [.cmp .NotEq (.item (.var 21) (.int 0)) (.var 11)])] ρ H Q := by
  obtain ⟨h35, h37, h40, h43, h36, h11, h12, h34⟩ := R
  refine s_exE ((l_rem (n := n + 2) (k := k) W I hj (by tb_start) (by tb_start) hk).mono fun _ H1 ⟨G1, m1, a1, a2, a3, I1⟩ => ?_)
  have hj1 : j < G1.ns := by omega
  refine s_exE ((l_left (n := n + 5) (k := k) W I1 hj1 (by omega) (by tb_start) hk).mono fun _ H2 I2 => ?_)
  have x := I2.own j hj1
  have hrl := I2.rl j hj1
  have hS : setF S j ⟨(S j).p, (S j).rows, (S j).op, (S j).al || ((dget (S j).rows k).isSome && !((S j).op && lastIs (S j).rows k))⟩ j = ⟨(S j).p, (S j).rows, (S j).op, (S j).al || ((dget (S j).rows k).isSome && !((S j).op && lastIs (S j).rows k))⟩ := setF_self _ _ _
  rw [hS] at x hrl
  obtain ⟨x1, x2, x3, x4, x5, x6, x7⟩ := x
  dsimp only at x3 x4 x6 x7 hrl
  have hln2 := trR_len (S j).rows
  have x3' := x3
  unfold ownFs at x3
  refine s_itemE W (we_comp (src_val (we_p W (v := .ref (g.rw j)) (by tb_start) ⟨trR (S j).rows, seq_o x4 rfl, trivial, by omega, headNo k, id, fun v hv => ?_, fun a ha => ?_⟩)))
  · unfold trR at hv
    obtain ⟨r, hr, rfl⟩ := List.mem_map.mp hv
    have hc := cmp_strN H2 (x7 r hr) hk
    refine ⟨_, rfl, evB_ok W.toFactsR.rd _ ?_ ⟨rfl, rfl⟩, fun _ => evP_ok W.toFactsR.rd _ ?_ ⟨rfl, rfl⟩⟩
    · tb_start
    · exact e_var (lset_self _ _ _)
  · rw [List.map_id, filter_rem]
    have hoa : g.oa j ≠ a := ne_of_live (some_ne x3) ha
    have I3 := I2.rowsN hj1 (rows := ddel (S j).rows k) (ddel_nodup x6 k) (fun r hr => x7 r (ddel_sub _ _ r hr)) (Nat.le_trans (ddel_len _ _) hrl) ha
    rw [hS] at I3
    dsimp only at I3
    refine ⟨.ref (g.oa j), .str 26, g.oa j, _, by tb_start, by tb_start, ?_, ws_nil (hQ _ _ ⟨G1, m1, _, _, by omega, a3, I3.same (fun i hi => ?_) (Nat.le_succ _)⟩)⟩
    · simp [putV, putO, upd_ne hoa, x3, dset, ownFs]
    · rw [setF_twice]; rfl
end



section
variable {D : Amb} {n : Nat} {ρ : Loc} {A : LA} {m c ln : Nat} {G G' : Gh} {S O : Nat → SD} {g g' : LGh} {H H' : AH} {j : Nat}
theorem nx_then {P : AH → Prop} {Q : Fl → Loc → AH → Prop} (hQ : ∀ ρ' H', P H' → Q .nxt ρ' H') : ∀ ρ' H', P H' → Then D n [] Q .nxt ρ' H' := fun ρ' H' h => ws_nil (hQ ρ' H' h)
theorem OwnStep.set {o : Addr} {fs : List (Nat × V)} : OwnStep o fs H (upd H o (.sd fs)) := ⟨upd_self _ _ _, fun z _ h => upd_ne h⟩
theorem dset_op (rw : Addr) (p : Nat) (op al : Bool) (L : Int) (b : Bool) : dset (ownFs rw p op al L) 54 (.bool b) = ownFs rw p b al L := by simp [dset, ownFs]
theorem dset_above (rw : Addr) (p q : Nat) (op al : Bool) (L : Int) : dset (ownFs rw p op al L) 45 (.int (q : Int)) = ownFs rw q op al L := by simp [dset, ownFs]
theorem ownFs_len (rw : Addr) (p : Nat) (op al : Bool) (L : Int) : (ownFs rw p op al L).length < 1000000 := by simp [ownFs]
theorem snoc_of {α : Type} {l : List α} (h : l ≠ []) : ∃ r x, l = r ++ [x] := ⟨l.dropLast, l.getLast h, (List.dropLast_concat_getLast h).symm⟩

theorem st_form6 (W : Facts D) (I : LI A m c ln G S S g H) (hj : j < G.ns) (hln : ln < 500) (hm : m + 2000 < 800000) {k : Nat} {f v : Int} (R : SLoc A G g j k f v ρ) (hne : (S j).rows ≠ []) {Q : Fl → Loc → AH → Prop} (hQ : ∀ ρ' H', StepQ A m c ln G H' → Q .nxt ρ' H') :
    WS D (n + 6) [.ex (.call 77 [.var 36, .item (.item (.item (.var 36) (.str 26)) (.neg 1)) (.int 0)]), .asg (.var 44) (.meth (.item (.var 36) (.str 26)) 59 []), .ex (.meth (.var 43) 71 [.item (.var 44) (.int 0)])] ρ H Q := by
  obtain ⟨h35, h37, h40, h43, h36, h11, h12, h34⟩ := R
  obtain ⟨r, ⟨lk, lf, lv⟩, hr⟩ := snoc_of hne
  have y := I.own j hj
  obtain ⟨y1, y2, y3, y4, y5, y6, y7⟩ := y
  unfold ownFs at y3
  have hlk : lk < 95 := y7 (lk, (lf, lv)) (by rw [hr]; simp)
  have hgl : (trR (S j).rows).getLast? = some (.tup [.str lk, .int lf, .int lv]) := by rw [hr]; simp [trR]
  refine s_exE ((l_left (n := n + 5) (k := lk) W I hj (by omega) (es_cons (e_var h36) (es_cons (e_item (e_item (e_item (e_var h36) e_str (i_sd y3 rfl)) (e_neg (z := 1)) (i_list y4 hgl)) e_int rfl) es_nil)) hlk).mono fun _ H2 I2 => ?_)
  have x := I2.own j hj
  have hrl := I2.rl j hj
  have hS : setF S j ⟨(S j).p, (S j).rows, (S j).op, (S j).al || ((dget (S j).rows lk).isSome && !((S j).op && lastIs (S j).rows lk))⟩ j = ⟨(S j).p, (S j).rows, (S j).op, (S j).al || ((dget (S j).rows lk).isSome && !((S j).op && lastIs (S j).rows lk))⟩ := setF_self _ _ _
  rw [hS] at x hrl
  obtain ⟨x1, x2, x3, x4, x5, x6, x7⟩ := x
  dsimp only at x3 x4 x6 x7 hrl
  unfold ownFs at x3
  have hlen := trR_len (S j).rows
  have hdl : ddel (S j).rows lk = (S j).rows.dropLast := by
    rw [hr] at x6 ⊢
    rw [ddel_last x6]; simp
  refine s_varE rfl (we_pop W.ro (we_p W (v := .ref (g.rw j)) (by tb_start) ⟨g.rw j, trR (S j).rows, .tup [.str lk, .int lf, .int lv], rfl, x4, by omega, hgl, ?_⟩))
  have e1 : (trR (S j).rows).dropLast = trR (ddel (S j).rows lk) := by rw [hdl]; unfold trR; rw [List.map_dropLast]
  rw [e1]
  have I3 := I2.rowsS hj (rows := ddel (S j).rows lk) (ln' := ln) (ddel_nodup x6 lk) (fun r hr => x7 r (ddel_sub _ _ r hr)) (Nat.le_trans (ddel_len _ _) hrl) (Nat.le_refl _)
  rw [hS] at I3
  dsimp only at I3
  refine s_exE ((l_rem (n := n + 2) (k := lk) W I3 hj (by tb_start) (by tb_start) hlk).mono fun _ H1 ⟨G1, m1, a1, a2, a3, I1⟩ => ws_nil (hQ _ _ ⟨G1, m1, _, _, by omega, a3, I1.same (fun i hi => ?_) (Nat.le_succ _)⟩))
  rw [setF_twice]; rfl
theorem st_form7 (W : Facts D) (I : LI A m c ln G S S g H) (hj : j < G.ns) (hln : ln < 500) (hm : m + 2000 < 800000) {k : Nat} {f v : Int} (R : SLoc A G g j k f v ρ) {Q : Fl → Loc → AH → Prop} (hQ : ∀ ρ' H', StepQ A m c ln G H' → Q .nxt ρ' H') :
    WS D (n + 6) [.ex (.meth (.var 43) 72 []), .asg (.item (.var 36) (.str 54)) (.bool false)] ρ H Q := by
  obtain ⟨h35, h37, h40, h43, h36, h11, h12, h34⟩ := R
  refine s_exE ((l_close (n := n + 2) W I hj (by omega) (by tb_start)).mono fun _ H1 ⟨G1, m1, a1, a2, a3, I1⟩ => ?_)
  have hj1 : j < G1.ns := by omega
  have x := I1.own j hj1
  refine s_itemE W (we_p W (v := .bool false) rfl ⟨.ref (g.oa j), .str 54, g.oa j, .sd (ownFs (g.rw j) (S j).p false (S j).al A.L), by tb_start, by tb_start, ?_, ws_nil (hQ _ _ ⟨G1, m1, _, _, by omega, a3, (I1.ownS hj1 (q := (S j).p) (op := false) (al := (S j).al) x.pb .set).same (fun i hi => rfl) (Nat.le_succ _)⟩)⟩)
  simp [putV, putO, x.ho, dset_op, ownFs_len]
theorem st_form9 (W : Facts D) (I : LI A m c ln G S S g H) (hj : j < G.ns) (hln : ln < 500) (hm : m + 2000 < 800000) {k : Nat} {f v : Int} (R : SLoc A G g j k f v ρ) {Q : Fl → Loc → AH → Prop} (hQ : ∀ ρ' H', StepQ A m c ln G H' → Q .nxt ρ' H') :
    WS D (n + 6) [.ex (.meth (.var 43) 68 []), .asg (.item (.var 36) (.str 55)) (.bool true)] ρ H Q := by
  obtain ⟨h35, h37, h40, h43, h36, h11, h12, h34⟩ := R
  refine s_exE ((l_alone (n := n + 3) W I hj (by tb_start)).mono fun _ H1 ⟨G1, m1, a1, a2, a3, I1⟩ => ?_)
  have hj1 : j < G1.ns := by omega
  have x := I1.own j hj1
  refine s_itemE W (we_p W (v := .bool true) rfl ⟨.ref (g.oa j), .str 55, g.oa j, .sd (ownFs (g.rw j) (S j).p (S j).op true A.L), by tb_start, by tb_start, ?_, ws_nil (hQ _ _ ⟨G1, m1, _, _, by omega, a3, (I1.ownS hj1 (q := (S j).p) (op := (S j).op) (al := true) x.pb .set).same (fun i hi => rfl) (Nat.le_succ _)⟩)⟩)
  simp [putV, putO, x.ho, dset_alone, ownFs_len]
theorem sget_refs {k q : Nat} (fa : Nat → Addr) (h : q < k) (hk : k < 1000000) : sget (refsV k fa) (q : Int) = some (.ref (fa q)) := by
  unfold sget
  rw [if_neg (by omega), if_pos (by omega), Int.toNat_natCast, refsV_get fa h]
theorem draw_proto (I : LI A m c ln G S O g H) {i q : Nat} (hq : q ≤ G.ns) (hns : G.ns < 1000) (h40 : ρ 40 = some (.ref A.ST)) (h45 : ρ 45 = some (.int (q : Int))) :
    evP H ρ (.ife (.cmp .Gt (.var 45) (.int 0)) (.item (.var 40) (.bin .Sub (.var 45) (.int 1))) (.none)) = some (G.protoV q) := by
  have hst := I.st
  unfold Gh.protoV
  by_cases e : q = 0
  · subst e
    tb_start
  · have h1 : (0 : Int) < (q : Int) := by omega
    have h2 : (q : Int) - 1 = ((q - 1 : Nat) : Int) := by omega
    rw [if_neg e]
    exact e_ifT (b_cmp (e_var h45) e_int (congrArg some (decide_eq_true h1))) (e_item (e_var h40) (e_bin (e_var h45) e_int (congrArg (fun z => some (V.int z)) h2)) (i_list hst (sget_refs G.sa (show q - 1 < G.ns by omega) (by omega))))
theorem st_form8 (W : Facts D) (I : LI A m c ln G S S g H) (hj : j < G.ns) (hns : G.ns < 1000) (hln : ln < 500) (hm : m + 2000 < 800000) {k : Nat} {f v : Int} (R : SLoc A G g j k f v ρ) {Q : Fl → Loc → AH → Prop} (hQ : ∀ ρ' H', StepQ A m c ln G H' → Q .nxt ρ' H') :
    WS D (n + 6) [.asg (.var 45) (.call 74 [.var 35, .bin .Add (.var 37) (.int 1)]), .ex (.meth (.var 43) 73 [.ife (.cmp .Gt (.var 45) (.int 0)) (.item (.var 40) (.bin .Sub (.var 45) (.int 1))) (.none)]), .asg (.item (.var 36) (.str 45)) (.var 45)] ρ H Q := by
  obtain ⟨h35, h37, h40, h43, h36, h11, h12, h34⟩ := R
  refine s_varE rfl ((l_take (n := n + 5) (lim := (j : Int) + 1) W I (by omega) (by tb_start)).mono fun w H1 ⟨I1, z, hw, z1, z2⟩ => ?_)
  subst hw
  obtain ⟨q, rfl⟩ := Int.eq_ofNat_of_zero_le z1
  have hq : q ≤ G.ns := by omega
  have hd := draw_proto (ρ := lset ρ 45 (.int (q : Int))) (i := 0) I1 hq hns (lset_miss rfl h40) (lset_self _ _ _)
  refine s_exE ((l_proto (n := n + 1) (q := q) W I1 hj (I1.rl j hj) (by omega) hq (by tb_start) (es_cons hd es_nil)).mono fun _ H2 ⟨G1, m1, a1, a2, a3, I2⟩ => ?_)
  have hj1 : j < G1.ns := by omega
  have x := I2.own j hj1
  refine s_itemE W (we_p W (v := .int (q : Int)) (by tb_start) ⟨.ref (g.oa j), .str 45, g.oa j, .sd (ownFs (g.rw j) q (S j).op (S j).al A.L), by tb_start, by tb_start, ?_, ws_nil (hQ _ _ ⟨G1, m1, _, _, by omega, a3, (I2.ownS hj1 (q := q) (op := (S j).op) (al := (S j).al) (by omega) .set).same (fun i hi => rfl) (Nat.le_succ _)⟩)⟩)
  simp [putV, putO, x.ho, dset_above, ownFs_len]
end



section
variable {D : Amb} {n : Nat} {ρ : Loc} {A : LA} {m c ln : Nat} {G G' : Gh} {S O : Nat → SD} {g g' : LGh} {H H' : AH} {j : Nat}
theorem ev_eq {i : Nat} {z w : Int} (h : ρ i = some (.int z)) : evB H ρ (.cmp .Eq (.var i) (.int w)) = some (decide (z = w)) := by
  exact b_cmp (e_var h) e_int rfl
theorem st_chain (W : Facts D) (I : LI A m c ln G S S g H) (hj : j < G.ns) (hns : G.ns < 1000) (hln : ln < 500) (hm : m + 2000 < 800000) {k : Nat} {f v z : Int} (R : SLoc A G g j k f v ρ) (h42 : ρ 42 = some (.int z)) (hk : k < 95) {Q : Fl → Loc → AH → Prop} (hQ : ∀ ρ' H', StepQ A m c ln G H' → Q .nxt ρ' H') :
    WS D (n + 6) (b_law_step.drop 3) ρ H Q := by
  have hQ0 : ∀ {H' : AH} {ρ : Loc}, LI A m c ln G S S g H' → ∀ ρ, Q .nxt ρ H' := fun I' ρ => hQ _ _ (StepQ.of I' fun _ _ => rfl)
  have t1 := nx_then (D := D) (n := n + 6) hQ
  have t2 := nx_then (D := D) (n := n + 6) t1
  have t3 := nx_then (D := D) (n := n + 6) t2
  have t4 := nx_then (D := D) (n := n + 6) t3
  have t5 := nx_then (D := D) (n := n + 6) t4
  have t6 := nx_then (D := D) (n := n + 6) t5
  have t7 := nx_then (D := D) (n := n + 6) t6
  unfold b_law_step
  show WS D (n + 6) [_] ρ H Q
  refine s_if W (z := decide (z < 4)) (by tb_start) ?_
  by_cases c1 : z < 4
  · rw [if_pos (by simpa using c1)]; exact st_put W I hj hln hm R hk t1
  rw [if_neg (by simpa using c1)]
  refine s_if W (ev_eq h42) ?_
  by_cases c2 : z = 4
  · rw [if_pos (by simpa using c2)]; exact st_form4 W I hj hln hm R hk t2
  rw [if_neg (by simpa using c2)]
  refine s_if W (ev_eq h42) ?_
  by_cases c3 : z = 5
  · rw [if_pos (by simpa using c3)]; exact st_form5 W I hj hln hm R hk t3
  rw [if_neg (by simpa using c3)]
  -- behind form 6
  have rest : ∀ {H' : AH}, LI A m c ln G S S g H' → z ≠ 6 ∨ (S j).rows = [] → WS D (n + 6) [.ife (.cmp .Eq (.var 42) (.int 7)) [.ex (.meth (.var 43) 72 []), .asg (.item (.var 36) (.str 54)) (.bool false)] [.ife (.cmp .Eq (.var 42) (.int 8)) [.asg (.var 45) (.call 74 [.var 35, .bin .Add (.var 37) (.int 1)]), .ex (.meth (.var 43) 73 [.ife (.cmp .Gt (.var 45) (.int 0)) (.item (.var 40) (.bin .Sub (.var 45) (.int 1))) (.none)]), .asg (.item (.var 36) (.str 45)) (.var 45)] [.ife (.bop .And [.cmp .Eq (.var 42) (.int 9), .cmp .Eq (.var 34) (.int 0)]) [.ex (.meth (.var 43) 68 []), .asg (.item (.var 36) (.str 55)) (.bool true)] []]]] ρ H' (Then D (n + 6) [] (Then D (n + 6) [] (Then D (n + 6) [] (Then D (n + 6) [] Q)))) := fun {H'} I' _ => by
    refine s_if W (ev_eq h42) ?_
    by_cases c5 : z = 7
    · rw [if_pos (by simpa using c5)]; exact st_form7 W I' hj hln hm R t5
    rw [if_neg (by simpa using c5)]
    refine s_if W (ev_eq h42) ?_
    by_cases c6 : z = 8
    · rw [if_pos (by simpa using c6)]; exact st_form8 W I' hj hns hln hm R t6
    rw [if_neg (by simpa using c6)]
    have hz := ev_eq (H := H') (w := 9) h42
    have hv := ev_eq (H := H') (w := 0) R.h34
    by_cases c7 : z = 9 ∧ v = 0
    · refine s_if W (z := true) ?_ ?_
      · rw [decide_eq_true c7.1] at hz; rw [decide_eq_true c7.2] at hv
        exact b_and2 hz hv
      · rw [if_pos rfl]; exact st_form9 W I' hj hln hm R t7
    · refine s_if W (z := false) ?_ ?_
      · exact (b_and2 hz hv).trans (congrArg some ((Bool.decide_and _ _).symm.trans (decide_eq_false c7)))
      · rw [if_neg (by decide)]
        exact ws_nil (t7 _ _ (StepQ.of I' fun _ _ => rfl))
  refine s_ifE (wb_and (wb_p W (ev_eq h42) ?_))
  by_cases c4 : z = 6
  · rw [if_pos (by simpa using c4)]
    have x := I.own j hj
    have xo := x.ho
    unfold ownFs at xo
    refine wb_and (wb_cmp (we_p W (v := .ref (g.rw j)) (e_item (e_var R.h36) e_str (i_sd xo rfl)) (we_list (wes_nil ⟨by simp, fun b hb => ?_⟩))))
    have brw : g.rw j ≠ b := ne_of_live (some_ne x.hr) hb
    have hce := (cmp_empty (H := upd H b (.list [])) (a := g.rw j) (b := b) ((upd_ne brw).trans x.hr) (upd_self _ _ _) (trR_dOf _ x.kb)).2
    rw [trR_isEmpty] at hce
    refine ⟨_, hce, ?_⟩
    have I' := I.news (NewH.upd (o := .list []) hb)
    cases e : (S j).rows with
    | nil =>
      show WS D (n + 6) _ ρ _ _
      exact rest I' (.inr e)
    | cons r rs =>
      show WB D (n + 6) (.bop .And []) ρ _ _
      refine wb_and_nil ?_
      rw [if_pos rfl]
      exact st_form6 W I' hj hln hm R (by rw [e]; simp) t4
  · rw [if_neg (by simpa using c4)]
    rw [if_neg (by decide)]
    exact rest I (.inl c4)
theorem abc_get {H : AH} {a : Addr} {z : Int} (h : H a = some (.list [.str 0, .str 1, .str 2, .str 3, .str 4, .str 5])) (h0 : 0 ≤ z) (h1 : z < 6) : ∃ k : Nat, k < 95 ∧ itemV H (.ref a) (.int z) = some (.str k) := by
  obtain ⟨q, rfl⟩ := Int.eq_ofNat_of_zero_le h0
  have : q = 0 ∨ q = 1 ∨ q = 2 ∨ q = 3 ∨ q = 4 ∨ q = 5 := by omega
  rcases this with rfl | rfl | rfl | rfl | rfl | rfl
  · exact ⟨0, by decide, by simp [itemV, itemO, h, sget]⟩
  · exact ⟨1, by decide, by simp [itemV, itemO, h, sget]⟩
  · exact ⟨2, by decide, by simp [itemV, itemO, h, sget]⟩
  · exact ⟨3, by decide, by simp [itemV, itemO, h, sget]⟩
  · exact ⟨4, by decide, by simp [itemV, itemO, h, sget]⟩
  · exact ⟨5, by decide, by simp [itemV, itemO, h, sget]⟩
theorem k_step (W : Facts D) (I : LI A m c ln G S S g H) (hns0 : 0 < G.ns) (hns : G.ns < 1000) (hln : ln < 500) (hm : m + 2000 < 800000) : WK D (n + 7) 223 [.ref A.B, .ref A.ST, .ref A.OW] H fun _ H' => StepQ A m c ln G H' := by
  refine wk_fn W.ro W.f223 rfl ?_
  have hst := I.st
  have how := I.ow
  have hl := refsV_len G.ns G.sa
  have hl2 : G.ns < 1000000 := by omega
  have hQ : ∀ ρ' H', StepQ A m c ln G H' → Ends (fun _ H' => StepQ A m c ln G H') .nxt ρ' H' := fun _ _ h => h
  have split : b_law_step = b_law_step.take 3 ++ b_law_step.drop 3 := (List.take_append_drop 3 _).symm
  rw [split]
  have htk : b_law_step.take 3 = [.asg (.many [37, 42]) (.tup [.call 74 [.var 35, .call 84 [.var 40]], .call 74 [.var 35, .int 10]]),
    .asg (.many [43, 36]) (.tup [.item (.var 40) (.var 37), .item (.var 41) (.var 37)]),
    .asg (.many [11, 12, 34]) (.tup [.item (.list [.str 0, .str 1, .str 2, .str 3, .str 4, .str 5]) (.call 74 [.var 35, .int 6]), .call 74 [.var 35, .int 8], .call 74 [.var 35, .int 9]])] := rfl
  rw [htk]
  generalize hrest : b_law_step.drop 3 = rest
  show WS D (n + 6) (_ :: _ :: _ :: rest) _ _ _
  refine ws_cons (w1_many (we_tup (wes_cons ((l_take (n := n + 5) (lim := (G.ns : Int)) W I (by omega) (es_cons (by tb_start) (es_cons ((e_len (es_cons (by tb_start) es_nil) hst (by rw [hl]; exact hl2)).trans (by rw [hl])) es_nil))).mono fun w H1 ⟨I1, z, hw, z1, z2⟩ => ?_))))
  subst hw
  refine wes_one ((l_take (n := n + 5) (lim := 10) W I1 (by omega) (by tb_start)).mono fun w H2 ⟨I2, y, hw, y1, y2⟩ => ?_)
  subst hw
  refine ⟨by simp, _, rfl, rfl, ?_⟩
  obtain ⟨q, rfl⟩ := Int.eq_ofNat_of_zero_le z1
  have hq : q < G.ns := by omega
  have hst2 := I2.st
  have how2 := I2.ow
  have g1 := sget_refs G.sa hq hl2
  have g2 := sget_refs g.oa hq hl2
  refine ws_cons (w1_many (we_p W (v := .tup [.ref (G.sa q), .ref (g.oa q)]) (by tb_start) ⟨_, rfl, rfl, ?_⟩))
  refine ws_cons (w1_many (we_tup (wes_cons (we_item (we_list (wes_p W (vs := [.str 0, .str 1, .str 2, .str 3, .str 4, .str 5]) rfl ⟨by simp, fun a ha => ?_⟩))))))
  have I3 := I2.news (NewH.upd (o := .list [.str 0, .str 1, .str 2, .str 3, .str 4, .str 5]) ha)
  have haB : a ≠ A.B := fun e => by
    obtain ⟨xs, t, b1, _⟩ := I2.box.ex
    rw [e, b1] at ha; cases ha
  have hab : a ≠ A.bl := fun e => by
    obtain ⟨xs, t, _, b1, _⟩ := I2.box.ex
    rw [e, b1] at ha; cases ha
  refine we_c W rfl (wes_p W (vs := [.ref A.B, .int 6]) (by tb_start) ((k_take (n := n + 5) W I3.box (lim := 6) (by omega)).mono fun w H4 ⟨b4, s4, x, hw, x1, x2⟩ => ?_))
  subst hw
  have I4 := I3.takes b4 s4
  obtain ⟨k, hk, hit⟩ := abc_get (H := H4) ((s4 a haB hab).trans (upd_self _ _ _)) x1 x2
  refine ⟨_, hit, ?_⟩
  refine wes_two ((l_take (n := n + 5) (lim := 8) W I4 (by omega) (by tb_start)).mono fun w H5 ⟨I5, f, hw, f1, f2⟩ => ?_)
  subst hw
  refine (l_take (n := n + 5) (lim := 9) W I5 (by omega) (by tb_start)).mono fun w H6 ⟨I6, v, hw, v1, v2⟩ => ?_
  subst hw
  refine ⟨by simp, _, rfl, rfl, ?_⟩
  rw [← hrest]
  refine st_chain (j := q) (k := k) (f := f) (v := v) (z := y) W I6 hq hns hln hm ⟨?_, ?_, ?_, ?_, ?_, ?_, ?_, ?_⟩ ?_ hk hQ
  all_goals tb_start
end



/-! what is compared -/
noncomputable def dRow3 (r : Nat × (Int × Int)) : PyData := .tuple [.str (nm r.1), .int r.2.1, .int r.2.2]
noncomputable def dRow2 (r : Nat × Int) : PyData := .tuple [.str (nm r.1), .int r.2]
noncomputable def dTold (i : Info) : PyData := .tuple [.list (i.rows.map dRow2), .int (i.p : Int), .bool i.op]
theorem dOfs_tr (H : AH) : ∀ {rows : List (Nat × (Int × Int))}, (∀ r ∈ rows, r.1 < 95) → dOfs (dOf H 4) (trR rows) = some (rows.map dRow3)
  | [], _ => rfl
  | r :: rows, h => by
    have ih := dOfs_tr H (rows := rows) fun x hx => h x (List.mem_cons_of_mem _ hx)
    have h1 := h r List.mem_cons_self
    unfold trR at ih ⊢
    rw [List.map_cons, List.map_cons]
    unfold dOfs
    rw [ih]
    simp [dOf, dOfs, NN, h1, dRow3]
theorem dOfs_rowsV (H : AH) (n : Nat) : ∀ {rows : List (Nat × Int)}, (∀ r ∈ rows, r.1 < 95) → dOfs (dOf H (n + 2)) (rowsV rows) = some (rows.map dRow2)
  | [], _ => rfl
  | r :: rows, h => by
    have ih := dOfs_rowsV H n (rows := rows) fun x hx => h x (List.mem_cons_of_mem _ hx)
    have h1 := h r List.mem_cons_self
    unfold rowsV at ih ⊢
    rw [List.map_cons, List.map_cons]
    unfold dOfs
    rw [ih]
    simp [dOf, dOfs, NN, h1, dRow2]
theorem eqv_row3 (r r' : Nat × (Int × Int)) : PyData.eqv (dRow3 r) (dRow3 r') = decide (r = r') := by
  obtain ⟨a, b, c⟩ := r; obtain ⟨a', b', c'⟩ := r'
  simp only [dRow3, PyData.eqv, PyData.eqvAll, nm_beq]
  by_cases h1 : a = a' <;> by_cases h2 : b = b' <;> by_cases h3 : c = c' <;> simp [h1, h2, h3]
theorem eqv_row2 (r r' : Nat × Int) : PyData.eqv (dRow2 r) (dRow2 r') = decide (r = r') := by
  obtain ⟨a, b⟩ := r; obtain ⟨a', b'⟩ := r'
  simp only [dRow2, PyData.eqv, PyData.eqvAll, nm_beq]
  by_cases h1 : a = a' <;> by_cases h2 : b = b' <;> simp [h1, h2]
theorem eqvAll_map {α : Type} [DecidableEq α] {f : α → PyData} (h : ∀ x y, PyData.eqv (f x) (f y) = decide (x = y)) : ∀ xs ys : List α, PyData.eqvAll (xs.map f) (ys.map f) = decide (xs = ys)
  | [], [] => rfl
  | [], y :: ys => by simp [PyData.eqvAll]
  | x :: xs, [] => by simp [PyData.eqvAll]
  | x :: xs, y :: ys => by
    rw [List.map_cons, List.map_cons, PyData.eqvAll, h, eqvAll_map h xs ys]
    by_cases h1 : x = y <;> by_cases h2 : xs = ys <;> simp [h1, h2]
theorem eqv_told (i j : Info) : PyData.eqv (dTold i) (dTold j) = decide (i = j) := by
  obtain ⟨p, r, o⟩ := i; obtain ⟨p', r', o'⟩ := j
  simp only [dTold, PyData.eqv, PyData.eqvAll, eqvAll_map eqv_row2]
  have hp : ((p : Int) == (p' : Int)) = decide (p = p') := by
    by_cases e : p = p'
    · simp [e]
    · have e' : ¬ (p : Int) = (p' : Int) := by omega
      simp [e, e']
  rw [hp]
  by_cases h1 : p = p' <;> by_cases h2 : r = r' <;> cases o <;> cases o' <;> simp [h1, h2]
theorem cmp_tr {H : AH} {a b : Addr} {rows rows' : List (Nat × (Int × Int))} (h1 : H a = some (.list (trR rows))) (h2 : H b = some (.list (trR rows'))) (kb : ∀ r ∈ rows, r.1 < 95) (kb' : ∀ r ∈ rows', r.1 < 95) : cmpV H .NotEq (.ref a) (.ref b) = some (!decide (rows = rows')) := by
  have e1 : dOf H 5 (.ref a) = some (.list (rows.map dRow3)) := by unfold dOf; simp only [h1, dOfs_tr H kb, Option.map_some]
  have e2 : dOf H 5 (.ref b) = some (.list (rows'.map dRow3)) := by unfold dOf; simp only [h2, dOfs_tr H kb', Option.map_some]
  simp only [cmpV, Option.bind_some, Option.map_some, e1, e2, PyData.eqv, eqvAll_map eqv_row3]
theorem cmp_rowsV {H : AH} {a b : Addr} {rows rows' : List (Nat × Int)} (h1 : H a = some (.list (rowsV rows))) (h2 : H b = some (.list (rowsV rows'))) (kb : ∀ r ∈ rows, r.1 < 95) (kb' : ∀ r ∈ rows', r.1 < 95) : cmpV H .NotEq (.ref a) (.ref b) = some (!decide (rows = rows')) := by
  have e1 : dOf H 5 (.ref a) = some (.list (rows.map dRow2)) := by unfold dOf; simp only [h1, dOfs_rowsV H 2 kb, Option.map_some]
  have e2 : dOf H 5 (.ref b) = some (.list (rows'.map dRow2)) := by unfold dOf; simp only [h2, dOfs_rowsV H 2 kb', Option.map_some]
  simp only [cmpV, Option.bind_some, Option.map_some, e1, e2, PyData.eqv, eqvAll_map eqv_row2]
theorem dOf_told {H : AH} {b : Addr} {i : Info} (h : H b = some (.list (rowsV i.rows))) (kb : ∀ r ∈ i.rows, r.1 < 95) : dOf H 5 (toldV b i) = some (dTold i) := by
  have e1 : dOf H 4 (.ref b) = some (.list (i.rows.map dRow2)) := by unfold dOf; simp only [h, dOfs_rowsV H 1 kb, Option.map_some]
  have e2 : dOf H 4 (.int (i.p : Int)) = some (.int (i.p : Int)) := rfl
  have e3 : dOf H 4 (.bool i.op) = some (.bool i.op) := rfl
  unfold toldV
  rw [dOf]
  simp only [dOfs, e1, e2, e3, Option.map_some]
  rfl
theorem cmp_told {H : AH} {a b : Addr} {i j : Info} (h1 : H a = some (.list (rowsV i.rows))) (h2 : H b = some (.list (rowsV j.rows))) (kb : ∀ r ∈ i.rows, r.1 < 95) (kb' : ∀ r ∈ j.rows, r.1 < 95) :
    cmpV H .NotEq (toldV a i) (toldV b j) = some (!decide (i = j)) ∧ cmpV H .Eq (toldV a i) (toldV b j) = some (decide (i = j)) := by
  constructor
  · simp only [cmpV, Option.bind_some, Option.map_some, dOf_told h1 kb, dOf_told h2 kb', eqv_told]
  · simp only [cmpV, Option.bind_some, Option.map_some, dOf_told h1 kb, dOf_told h2 kb', eqv_told]
theorem cmp_find (H : AH) (rows : List (Nat × (Int × Int))) (k : Nat) : cmpV H .NotEq (findV rows k) (findV rows k) = some false := by
  unfold findV
  cases dget rows k with
  | none => simp [cmpV, dOf, PyData.eqv]
  | some r => simp [cmpV, dOf, dOfs, PyData.eqv, PyData.eqvAll]
theorem cmp_intN (H : AH) (a b : Int) : cmpV H .NotEq (.int a) (.int b) = some (!decide (a = b)) := by
  have : (a == b) = decide (a = b) := by by_cases e : a = b <;> simp [e]
  simp [cmpV, dOf, PyData.eqv, this]
theorem shR_kb {rows : List (Nat × (Int × Int))} (kb : ∀ r ∈ rows, r.1 < 95) : ∀ r ∈ shR rows, r.1 < 95 := fun r hr => by
  unfold shR at hr
  obtain ⟨x, hx, rfl⟩ := List.mem_map.mp hr
  exact kb x hx

section
variable {D : Amb} {n : Nat} {ρ : Loc} {A : LA} {m c ln : Nat} {G G' : Gh} {S O : Nat → SD} {g g' : LGh} {H H' : AH} {j : Nat}
theorem LI.newT (I : LI A m c ln G S O g H) {b : Addr} (hb : H b = none) (o : Mine.O) : LI A m c ln G S O { g with lo := fun z => if z = b then .told else g.lo z } (upd H b o) := by
  have s : LStep (fun _ => False) g H (upd H b o) := fun z hz => by rw [upd_ne (ne_of_live hz hb)]; exact ⟨hz, fun _ => rfl⟩
  have hlo : ∀ z, H z ≠ none → (if z = b then LRole.told else g.lo z) = g.lo z := fun z hz => if_neg (ne_of_live hz hb)
  refine I.re (g' := { g with lo := fun z => if z = b then .told else g.lo z }) s id hlo (fun z hz => ?_) (I.boxK s id id) id id (fun _ _ => rfl) (fun j hj => I.ownK s hj id id hlo rfl rfl) I.rl (I.seenK s id id hlo)
  have : z ≠ b := fun q => by rw [q, upd_self] at hz; cases hz
  exact (if_neg this).trans (I.hfr s z hz)
theorem LI.see (I : LI A m c ln G S O g H) {kvs : List (Int × V)} (hk : H A.SE = some (.nd kvs)) {i : Info} {a b : Addr} (ht : G.tr i = some a) (hl : g.lo b = .told) (hb : H b = some (.list (rowsV i.rows))) (kb : ∀ r ∈ i.rows, r.1 < 95) :
    LI A m (c + 1) ln G S O g (upd H A.SE (.nd (dset kvs (G.nu i) (toldV b i)))) := by
  have x := I.seen
  have s : LStep (fun r => r = .se) g H (upd H A.SE (.nd (dset kvs (G.nu i) (toldV b i)))) := fun z hz => by
    by_cases e : z = A.SE
    · exact ⟨by rw [e, upd_self]; exact (by intro q; cases q), fun q => absurd (by rw [e]; exact x.lo) q⟩
    · rw [upd_ne e]; exact ⟨hz, fun _ => rfl⟩
  refine I.re s (by intro q; cases q) (fun _ _ => rfl) (I.hfr s) (I.boxK s (by intro q; cases q) (by intro q; cases q)) (by intro q; cases q) (by intro q; cases q) (fun _ _ => rfl) (fun i hi => I.ownK s hi (by intro q; cases q) (by intro q; cases q) (fun _ _ => rfl) rfl rfl) I.rl ⟨⟨_, upd_self _ _ _, ?_, fun z v hz => ?_⟩, x.lo⟩
  · obtain ⟨kvs', a1, a2, _⟩ := x.ex
    rw [hk] at a1; cases a1
    have := dset_length kvs (G.nu i) (toldV b i)
    omega
  · obtain ⟨kvs', a1, a2, a3⟩ := x.ex
    rw [hk] at a1; cases a1
    have ne : ∀ b', g.lo b' = .told → b' ≠ A.SE := fun b' h q => by rw [q, x.lo] at h; cases h
    have old : (z, v) ∈ kvs → _ := fun h => a3 z v h
    have hcase : (z, v) ∈ kvs ∨ (z = G.nu i ∧ v = toldV b i) := by
      unfold dset at hz
      split at hz
      · obtain ⟨⟨z', v'⟩, h1, h2⟩ := List.mem_map.mp hz
        by_cases e : z' = G.nu i
        · simp only [e, if_true] at h2
          injection h2 with h2 h3
          exact .inr ⟨h2.symm, h3.symm⟩
        · simp only [e, if_false] at h2
          rw [← h2]; exact .inl h1
      · rcases List.mem_append.mp hz with h | h
        · exact .inl h
        · simp at h; exact .inr h
    rcases hcase with h | ⟨rfl, rfl⟩
    · obtain ⟨i', a', b', b1, b2, b3, b4, b5, b6⟩ := a3 z v h
      exact ⟨i', a', b', b1, b2, b3, b4, (upd_ne (ne b' b4)).trans b5, b6⟩
    · exact ⟨i, a, b, ht, rfl, rfl, hl, (upd_ne (ne b hl)).trans hb, kb⟩
end



section
variable {D : Amb} {n : Nat} {ρ : Loc} {A : LA} {m c ln : Nat} {G G' : Gh} {S O : Nat → SD} {g g' : LGh} {H H' : AH} {j : Nat}
structure RLoc (A : LA) (G : Gh) (g : LGh) (j : Nat) (ρ : Loc) : Prop where
  h40 : ρ 40 = some (.ref A.ST)
  h41 : ρ 41 = some (.ref A.OW)
  h46 : ρ 46 = some (.ref A.SE)
  h22 : ρ 22 = some (.int A.L)
  h43 : ρ 43 = some (.ref (G.sa j))
  h36 : ρ 36 = some (.ref (g.oa j))
theorem RLoc.set (R : RLoc A G g j ρ) {i : Nat} {v : V} (h : i ∉ [40, 41, 46, 22, 43, 36]) : RLoc A G g j (lset ρ i v) := by
  simp only [List.mem_cons, List.not_mem_nil, not_or, or_false] at h
  obtain ⟨h1, h2, h3, h4, h5, h6⟩ := h
  exact ⟨(lset_ne (Ne.symm h1)).trans R.h40, (lset_ne (Ne.symm h2)).trans R.h41, (lset_ne (Ne.symm h3)).trans R.h46, (lset_ne (Ne.symm h4)).trans R.h22, (lset_ne (Ne.symm h5)).trans R.h43, (lset_ne (Ne.symm h6)).trans R.h36⟩
theorem RLoc.sa (R : RLoc A G g j ρ) (h : G'.sa = G.sa) : RLoc A G' g j ρ := ⟨R.h40, R.h41, R.h46, R.h22, by rw [h]; exact R.h43, R.h36⟩
theorem reprId_lt (a b : Bool) : reprId a b < 95 := by cases a <;> cases b <;> decide
theorem attr_alone {T : Addr} {s : SD} (Y : SOk T G H j s) {e : X} (he : evP H ρ e = some (.ref (G.sa j))) : evP H ρ (.attr e 30) = some (.bool s.al) := by
  obtain ⟨sh, sl, tb, xs, tv, ap, ao, e1, _⟩ := Y.ex
  unfold sFs at e1
  tb_start
theorem r_first (W : Facts D) (I : LI A m c ln G S S g H) (hj : j < G.ns) (hln : ln < 500) (R : RLoc A G g j ρ) {xs : List Mine.S} {Q : Fl → Loc → AH → Prop} (h : ∀ H', LI A m c ln G S S g H' → WS D (n + 6) xs ρ H' Q) :
    WS D (n + 6) (.ife (.bop .Or [.cmp .NotEq (.meth (.var 43) 26 []) (.item (.var 36) (.str 26)), .cmp .NotEq (.call 89 [.tup [.meth (.var 43) 66 [], .attr (.var 43) 30]]) (.call 89 [.tup [.item (.var 36) (.str 54), .item (.var 36) (.str 55)]])]) [.ret (.bool false)] [] :: xs) ρ H Q := by
  obtain ⟨h40, h41, h46, h22, h43, h36⟩ := R
  have x := I.own j hj
  refine s_ifE (wb_or (wb_cmp (we_st W (I.Y j hj) (f := 145) (vs := []) (by tb_start) rfl (fun _ _ _ _ _ _ _ => rfl) rfl ((k_srows (n := n + 4) W I.X (I.Y j hj)).mono fun v H1 ⟨b, hv, hb, N, hb1⟩ => ?_))))
  subst hv
  have I1 := I.news N
  have x1 := I1.own j hj
  have xo := x1.ho
  unfold ownFs at xo
  refine we_p W (v := .ref (g.rw j)) (by tb_start) ⟨false, ?_, ?_⟩
  · rw [cmp_tr hb1 x1.hr x.kb x.kb]; simp
  · show WB D (n + 6) (.bop .Or _) ρ H1 _
    refine wb_or (wb_cmp (we_call (.builtin "repr") W.toFactsR.repr (.inl ⟨_, rfl⟩) (wes_one (we_tup (wes_cons (we_st W (I1.Y j hj) (f := 133) (vs := []) (by tb_start) rfl (fun _ _ _ _ _ _ _ => rfl) rfl ((k_grow (n := n + 5) W I1.X (I1.Y j hj)).mono fun v H2 ⟨hH, hv⟩ => ?_)))))))
    subst hv; subst hH
    refine wes_p W (vs := [.bool (S j).al]) (es_cons (attr_alone (I1.Y j hj) (e_var h43)) es_nil) ⟨by simp, wc_repr ?_⟩
    refine we_p W (v := .str (reprId (S j).op (S j).al)) (bind_of (es_cons (e_tup (es_cons (v := .bool (S j).op) (by tb_start) (es_cons (v := .bool (S j).al) (by tb_start) es_nil)) rfl) es_nil) rfl) ⟨false, ?_, ?_⟩
    · rw [cmp_strN _ (reprId_lt _ _) (reprId_lt _ _)]; simp
    · show WB D (n + 6) (.bop .Or []) ρ H2 _
      refine wb_or_nil ?_
      rw [if_neg (by decide)]
      exact s_end (h _ I1)
theorem r_above (W : Facts D) (I : LI A m c ln G S S g H) (hj : j < G.ns) (hln : ln < 500) (R : RLoc A G g j ρ) {xs : List Mine.S} {Q : Fl → Loc → AH → Prop} (h : WS D (n + 6) xs (lset ρ 45 (G.protoV (S j).p)) H Q) :
    WS D (n + 6) (.asg (.var 45) (.meth (.var 43) 45 []) :: xs) ρ H Q := by
  obtain ⟨h40, h41, h46, h22, h43, h36⟩ := R
  refine s_varE rfl (we_st W (I.Y j hj) (f := 126) (vs := []) (by tb_start) rfl (fun _ _ _ _ _ _ _ => rfl) rfl ((k_above (n := n + 5) W I.X (I.Y j hj)).mono fun v H2 ⟨hH, hv⟩ => ?_))
  subst hv; subst hH
  exact h
theorem r_num (W : Facts D) (I : LI A m c ln G S S g H) (hj : j < G.ns) (hns : G.ns < 1000) (hln : ln < 500) (R : RLoc A G g j ρ) (h45 : ρ 45 = some (G.protoV (S j).p)) {xs : List Mine.S} {Q : Fl → Loc → AH → Prop} (h : WS D (n + 6) xs ρ H Q) :
    WS D (n + 6) (.ife (.cmp .NotEq (.ife (.cmp .Is (.var 45) (.none)) (.int 0) (.attr (.var 45) 8)) (.ife (.cmp .Eq (.item (.var 36) (.str 45)) (.int 0)) (.int 0) (.attr (.item (.var 40) (.bin .Sub (.item (.var 36) (.str 45)) (.int 1))) 8))) [.ret (.bool false)] [] :: xs) ρ H Q := by
  obtain ⟨h40, h41, h46, h22, h43, h36⟩ := R
  have x := I.own j hj
  have xo := x.ho
  unfold ownFs at xo
  have hst := I.st
  have hp := x.pb
  have e1 : evP H ρ (.ife (.cmp .Is (.var 45) (.none)) (.int 0) (.attr (.var 45) 8)) = some (.int (G.pnum (S j).p)) := by
    unfold Gh.protoV at h45
    unfold Gh.pnum
    by_cases e : (S j).p = 0
    · rw [if_pos e] at h45 ⊢
      exact e_ifT (b_cmp (e_var h45) e_none rfl) e_int
    · rw [if_neg e] at h45 ⊢
      obtain ⟨_, fs, q2, q3⟩ := I.X.st ((S j).p - 1) (by omega)
      exact e_ifF (b_cmp (e_var h45) e_none rfl) (e_attr (e_var h45) q2 rfl q3)
  have e2 : evP H ρ (.ife (.cmp .Eq (.item (.var 36) (.str 45)) (.int 0)) (.int 0) (.attr (.item (.var 40) (.bin .Sub (.item (.var 36) (.str 45)) (.int 1))) 8)) = some (.int (G.pnum (S j).p)) := by
    have e3 : evP H ρ (.item (.var 36) (.str 45)) = some (.int ((S j).p : Int)) := by tb_start
    unfold Gh.pnum
    by_cases e : (S j).p = 0
    · rw [if_pos e]
      exact e_ifT (b_cmp e3 e_int (congrArg some (decide_eq_true (congrArg Nat.cast e)))) e_int
    · rw [if_neg e]
      obtain ⟨_, fs, q2, q3⟩ := I.X.st ((S j).p - 1) (by omega)
      have h1 : ((S j).p : Int) - 1 = (((S j).p - 1 : Nat) : Int) := by omega
      have h2 : ¬ ((S j).p : Int) = 0 := by omega
      exact e_ifF (b_cmp e3 e_int (congrArg some (decide_eq_false h2))) (e_attr (e_item (e_var h40) (e_bin e3 e_int (congrArg (fun z => some (V.int z)) h1)) (i_list hst (sget_refs G.sa (show (S j).p - 1 < G.ns by omega) (show G.ns < 1000000 by omega)))) q2 rfl q3)
  refine s_if W (z := false) ?_ (s_end h)
  exact b_cmp e1 e2 ((cmp_intN H _ _).trans (nd_self _))
theorem filter_one : ∀ {rows : List (Nat × (Int × Int))} (k : Nat), (rows.map (·.1)).Nodup → (dget rows k = none ∧ (rows.filter fun r => decide (r.1 = k)) = []) ∨ ∃ r, dget rows k = some r ∧ (rows.filter fun r => decide (r.1 = k)) = [(k, r)]
  | [], k, _ => .inl ⟨rfl, rfl⟩
  | (a, b) :: l, k, hn => by
    rw [List.map_cons, List.nodup_cons] at hn
    rw [List.filter_cons, dget_cons]
    rcases filter_one (rows := l) k hn.2 with ⟨h1, h2⟩ | ⟨r, h1, h2⟩
    · by_cases e : a = k
      · subst e; exact .inr ⟨b, by simp, by simp [h2]⟩
      · exact .inl ⟨by simp [e, h1], by simp [e, h2]⟩
    · by_cases e : a = k
      · subst e
        refine absurd ?_ hn.1
        have : (a, r) ∈ l := by
          have : (a, r) ∈ l.filter fun r => decide (r.1 = a) := by rw [h2]; simp
          exact (List.mem_filter.mp this).1
        exact List.mem_map.mpr ⟨_, this, rfl⟩
      · exact .inr ⟨r, by simp [e, h1], by simp [e, h2]⟩
noncomputable def dueV (rows : List (Nat × (Int × Int))) (k : Nat) : List V := match dget rows k with
  | some r => [.tup [.int r.1, .int r.2]]
  | none => []
theorem due_of {rows : List (Nat × (Int × Int))} (hn : (rows.map (·.1)).Nodup) (k : Nat) : ((trR rows).filter (headIs k)).map tlV = dueV rows k := by
  refine (congrArg (List.map _) (filter_row rows k)).trans ?_
  unfold dueV
  rcases filter_one k hn with ⟨h1, h2⟩ | ⟨r, h1, h2⟩
  · rw [h1, h2]; rfl
  · rw [h1, h2]; rfl
theorem due_find (rows : List (Nat × (Int × Int))) (k : Nat) : (dueV rows k = [] ∧ findV rows k = .none) ∨ ∃ x, dueV rows k = [x] ∧ findV rows k = x := by
  unfold dueV findV
  cases dget rows k with
  | none => exact .inl ⟨rfl, rfl⟩
  | some r => exact .inr ⟨_, rfl, rfl⟩
theorem due_dOf (H : AH) (rows : List (Nat × (Int × Int))) (k : Nat) : ∀ x ∈ dueV rows k, ∃ d, dOf H 4 x = some d := fun x hx => by
  unfold dueV at hx
  cases h : dget rows k with
  | none => rw [h] at hx; cases hx
  | some r => rw [h] at hx; simp at hx; subst hx; exact ⟨_, by simp [dOf, dOfs]; rfl⟩
theorem r_key (W : Facts D) (I : LI A m c ln G S S g H) (hj : j < G.ns) (hln : ln < 500) (R : RLoc A G g j ρ) {k : Nat} (hk : k < 95) (h11 : ρ 11 = some (.str k)) {xs : List Mine.S} {Q : Fl → Loc → AH → Prop}
    (h : ∀ G' H' a, G'.ns = G.ns → G'.sa = G.sa → LI A m c ln G' S S g H' → WS D (n + 6) xs (lset ρ 47 (.ref a)) H' Q) :
    WS D (n + 6) (.asg (.var 47) (.comp (.tup [.var 12, .var 34]) (.many [48, 12, 34]) (.item (.var 36) (.str 26)) [.cmp .Eq (.var 48) (.var 11)]) :: .ife (.cmp .NotEq (.meth (.var 43) 67 [.var 11]) (.ife (.cmp .NotEq (.var 47) (.list [])) (.item (.var 47) (.int 0)) (.none))) [.ret (.bool false)] [] :: xs) ρ H Q := by
  obtain ⟨h40, h41, h46, h22, h43, h36⟩ := R
  have x := I.own j hj
  have xo := x.ho
  have xr := x.hr
  have hlen := trR_len (S j).rows
  have hrl := I.rl j hj
  unfold ownFs at xo
  refine ws_cons (w1_asgc (src_val (we_p W (v := .ref (g.rw j)) (by tb_start) ⟨trR (S j).rows, seq_o xr rfl, ⟨_, xr⟩, by omega, headIs k, tlV, fun v hv => ?_, fun a ha => ?_⟩)))
  · unfold trR at hv
    obtain ⟨r, hr, rfl⟩ := List.mem_map.mp hv
    have hc := cmp_str H (x.kb r hr) hk
    refine ⟨_, rfl, evB_ok W.toFactsR.rd _ ?_ ⟨rfl, rfl⟩, fun _ => evP_ok W.toFactsR.rd _ ?_ ⟨rfl, rfl⟩⟩
    · tb_start
    · tb_start
  · rw [due_of x.nd]
    show WS D (n + 6) _ _ _ _
    have I1 := I.news (NewH.upd (o := .list (dueV (S j).rows k)) ha)
    refine s_ifE (wb_cmp (we_st W (I1.Y j hj) (f := 140) (vs := [.str k]) (by tb_start) rfl (fun _ _ _ _ _ _ _ => rfl) (by tb_start) ((k_find (n := n + 3) W I1.X (I1.Y j hj) k).mono fun v H2 ⟨ro, X2, E2, hv⟩ => ?_)))
    subst hv
    have I2 := I1.tree E2 X2
    have ha2 : H2 a = some (.list (dueV (S j).rows k)) := ((E2.live a (by rw [upd_self]; exact fun q => nomatch q)).2.2 (by rw [I.X.fr a ha]; exact id)).trans (upd_self _ _ _)
    refine we_ife (wb_cmp (we_p W (v := .ref a) (by tb_start) (we_list (wes_nil ⟨by simp, fun b hb => ?_⟩))))
    have hab : a ≠ b := ne_of_live (some_ne ha2) hb
    have I3 := I2.news (NewH.upd (o := .list []) hb)
    have ha3 : upd H2 b (.list []) a = some (.list (dueV (S j).rows k)) := (upd_ne hab).trans ha2
    have hce := (cmp_empty (H := upd H2 b (.list [])) (a := a) (b := b) ha3 (upd_self _ _ _) (due_dOf _ _ _)).2
    refine ⟨_, hce, ?_⟩
    have hcf := cmp_find (upd H2 b (.list [])) (S j).rows k
    rcases due_find (S j).rows k with ⟨d1, d2⟩ | ⟨y, d1, d2⟩
    · rw [d1]
      show WE D (n + 6) .none _ _ _
      refine we_p W (v := .none) rfl ⟨false, by rw [d2] at hcf ⊢; exact hcf, ?_⟩
      rw [if_neg (by decide)]
      exact s_end (h { G with ro := ro } _ _ rfl rfl I3)
    · rw [d1]
      show WE D (n + 6) (.item (.var 47) (.int 0)) _ _ _
      rw [d1] at ha3
      refine we_p W (v := y) (by tb_start) ⟨false, by rw [d2] at hcf ⊢; exact hcf, ?_⟩
      rw [if_neg (by decide)]
      exact s_end (h { G with ro := ro } _ _ rfl rfl I3)
end



section
variable {D : Amb} {n : Nat} {ρ : Loc} {A : LA} {m c ln : Nat} {G G' : Gh} {S O : Nat → SD} {g g' : LGh} {H H' : AH} {j : Nat}
theorem r_keys (W : Facts D) (I : LI A m c ln G S S g H) (hj : j < G.ns) (hln : ln < 500) (R : RLoc A G g j ρ) {xs : List Mine.S} {Q : Fl → Loc → AH → Prop}
    (h : ∀ ρ' G' H', RLoc A G' g j ρ' → G'.ns = G.ns → G'.sa = G.sa → LI A m c ln G' S S g H' → WS D (n + 6) xs ρ' H' Q) :
    WS D (n + 6) (.for_ (.one 11) (.tup [.str 0, .str 1, .str 2, .str 3, .str 4, .str 5, .str 6]) [.asg (.var 47) (.comp (.tup [.var 12, .var 34]) (.many [48, 12, 34]) (.item (.var 36) (.str 26)) [.cmp .Eq (.var 48) (.var 11)]), .ife (.cmp .NotEq (.meth (.var 43) 67 [.var 11]) (.ife (.cmp .NotEq (.var 47) (.list [])) (.item (.var 47) (.int 0)) (.none))) [.ret (.bool false)] []] :: xs) ρ H Q := by
  refine ws_cons (w1_for_tup (we_p W (v := .tup [.str 0, .str 1, .str 2, .str 3, .str 4, .str 5, .str 6]) rfl ⟨_, fun _ ρ' H' => ∃ G', RLoc A G' g j ρ' ∧ G'.ns = G.ns ∧ G'.sa = G.sa ∧ LI A m c ln G' S S g H', rfl, rfl, ⟨fun _ _ _ _ => rfl, fun i ρ' H' x hx hJ => ?_, fun ρ' H' hJ => ?_⟩, G, R, rfl, rfl, I⟩))
  · obtain ⟨G', R', q1, q2, I'⟩ := hJ
    have hk : ∃ k : Nat, k < 95 ∧ x = .str k := by
      have := List.mem_of_getElem? hx
      simp only [List.mem_cons, List.not_mem_nil, or_false] at this
      rcases this with h | h | h | h | h | h | h <;> exact ⟨_, by decide, h⟩
    obtain ⟨k, hk, rfl⟩ := hk
    refine ⟨_, rfl, ?_⟩
    refine r_key W I' (by omega) hln (R'.set (by decide)) hk (by simp [lset_app]) fun G'' H'' a e1 e2 I'' => ws_nil ?_
    exact ⟨G'', ((R'.set (by decide)).set (by decide)).sa e2, e1.trans q1, e2.trans q2, I''⟩
  · obtain ⟨G', R', q1, q2, I'⟩ := hJ
    exact h ρ' G' H' R' q1 q2 I'
theorem told_of (rows : List (Nat × (Int × Int))) : ((trR rows).filter fun _ => true).map inV = rowsV (shR rows) := by
  have : ((trR rows).filter fun _ => true) = trR rows := List.filter_eq_self.mpr fun _ _ => rfl
  rw [this]
  unfold trR rowsV shR
  rw [List.map_map, List.map_map]; rfl
theorem mem_dget {K α : Type} [DecidableEq K] {kvs : List (K × α)} {k : K} {v : α} (h : (k, v) ∈ kvs) : ∃ w, dget kvs k = some w := by
  induction kvs with
  | nil => cases h
  | cons x r ih =>
    obtain ⟨a, b⟩ := x
    rw [dget_cons]
    by_cases e : a = k
    · exact ⟨b, by simp [e]⟩
    · rcases List.mem_cons.mp h with h | h
      · injection h with h1 h2; exact absurd h1.symm e
      · obtain ⟨w, hw⟩ := ih h
        exact ⟨w, by simp [e, hw]⟩
theorem r_told (W : Facts D) (I : LI A m c ln G S S g H) (hj : j < G.ns) (hln : ln < 500) (hc : c < 5000) (R : RLoc A G g j ρ) (hal : (S j).al = false) {Q : Fl → Loc → AH → Prop}
    (h : ∀ ρ' g' H', RLoc A G g' j ρ' → g'.oa = g.oa → LI A m (c + 1) ln G S S g' H' → Q .nxt ρ' H') :
    WS D (n + 6) [.asg (.var 49) (.tup [.comp (.tup [.item (.var 21) (.int 0), .item (.var 21) (.int 1)]) (.one 21) (.item (.var 36) (.str 26)) [], .item (.var 36) (.str 45), .item (.var 36) (.str 54)]), .asg (.var 8) (.attr (.attr (.var 43) 19) 8), .ife (.bop .Or [.cmp .Gt (.call 84 [.item (.var 49) (.int 0)]) (.var 22), .cmp .NotEq (.meth (.attr (.var 43) 19) 26 []) (.item (.var 49) (.int 0)), .cmp .NotEq (.attr (.attr (.var 43) 19) 13) (.call 84 [.item (.var 49) (.int 0)])]) [.ret (.bool false)] [], .ife (.cmp .NotEq (.meth (.var 46) 58 [.var 8, .var 49]) (.var 49)) [.ret (.bool false)] [], .ife (.cmp .NotEq (.comp (.var 50) (.one 50) (.var 46) [.bop .And [.cmp .Eq (.item (.var 46) (.var 50)) (.var 49), .cmp .NotEq (.var 50) (.var 8)]]) (.list [])) [.ret (.bool false)] [], .asg (.item (.var 46) (.var 8)) (.var 49)] ρ H Q := by
  have R0 := R
  obtain ⟨h40, h41, h46, h22, h43, h36⟩ := R
  have x := I.own j hj
  have xo := x.ho
  have xr := x.hr
  have hlen := trR_len (S j).rows
  have hrl := I.rl j hj
  unfold ownFs at xo
  refine s_varE rfl (we_tup (wes_cons (we_comp (src_val (we_p W (v := .ref (g.rw j)) (by tb_start) ⟨trR (S j).rows, seq_o xr rfl, trivial, by omega, (fun _ => true), inV, fun v hv => ?_, fun b hb => ?_⟩)))))
  · unfold trR at hv
    obtain ⟨r, hr, rfl⟩ := List.mem_map.mp hv
    refine ⟨_, rfl, rfl, fun _ => evP_ok W.toFactsR.rd _ ?_ ⟨rfl, rfl⟩⟩
    tb_start
  rw [told_of]
  have hi : (S j).info = ⟨(S j).p, shR (S j).rows, (S j).op⟩ := rfl
  generalize hinf : (S j).info = i at hi
  have I1 := I.newT hb (.list (rowsV (shR (S j).rows)))
  have hbH : upd H b (.list (rowsV (shR (S j).rows))) b = some (.list (rowsV i.rows)) := by rw [upd_self, hi]
  generalize hH1 : upd H b (.list (rowsV (shR (S j).rows))) = H1 at I1 hbH
  have hgb : (if b = b then LRole.told else g.lo b) = .told := if_pos rfl
  generalize hg1 : ({ g with lo := fun z => if z = b then LRole.told else g.lo z } : LGh) = g1 at I1
  have hoa1 : g1.oa = g.oa := by rw [← hg1]
  have hb1 : g1.lo b = .told := by rw [← hg1]; exact hgb
  have x1 := I1.own j hj
  have xo1 := x1.ho
  rw [hoa1] at xo1
  unfold ownFs at xo1
  have kbi : ∀ r ∈ i.rows, r.1 < 95 := by rw [hi]; exact shR_kb x.kb
  refine wes_p W (vs := [.int (S j).p, .bool (S j).op]) (by tb_start) ⟨by simp, ?_⟩
  have htold : V.tup [.ref b, .int ((S j).p : Int), .bool (S j).op] = toldV b i := by rw [hi]; rfl
  rw [htold]
  have R1 : RLoc A G g1 j (lset ρ 49 (toldV b i)) := by
    have := R0.set (i := 49) (v := toldV b i) (by decide)
    exact ⟨this.h40, this.h41, this.h46, this.h22, this.h43, by rw [hoa1]; exact this.h36⟩
  have k49 : lset ρ 49 (toldV b i) 49 = some (toldV b i) := lset_self _ _ _
  generalize lset ρ 49 (toldV b i) = ρ1 at R1 k49
  obtain ⟨sh, sl, tb, ys, tv, ap, ao, e1, e2, e3, e4, e5, e6, e7, e8⟩ := (I1.Y j hj).ex
  obtain ⟨⟨sa, rfl, hts⟩, _⟩ := e7 hal
  rw [hinf] at hts
  obtain ⟨l, pv, hsh⟩ := shape_at I1.X hts
  have e1' := e1
  unfold sFs at e1
  have hsh' := hsh
  unfold Gh.fs at hsh
  have h43' := R1.h43
  have es : ∀ {F : AH} {ρ : Loc}, ρ 43 = some (.ref (G.sa j)) → F (G.sa j) = H1 (G.sa j) → evP F ρ (.attr (.var 43) 19) = some (.ref sa) := fun {F ρ} hr hF => by
    rw [e1] at hF
    tb_start
  refine s_var W (v := .int (G.nu i)) rfl (e_attr (es h43' rfl) hsh rfl (dget_of rfl)) ?_
  have R2 := R1.set (i := 8) (v := .int (G.nu i)) (by decide)
  have k8 : lset ρ1 8 (.int (G.nu i)) 8 = some (.int (G.nu i)) := lset_self _ _ _
  have k49 : lset ρ1 8 (.int (G.nu i)) 49 = some (toldV b i) := lset_miss rfl k49
  generalize lset ρ1 8 (.int (G.nu i)) = ρ2 at R2 k8 k49
  have hfit := I.fit j hj hal
  have hil : i.rows.length = (S j).rows.length := by rw [hi]; exact shR_len _
  have ebl : ∀ {F : AH}, F b = H1 b → evP F ρ2 (.call 84 [.item (.var 49) (.int 0)]) = some (.int (i.rows.length : Int)) := fun {F} hF => by
    rw [hbH] at hF
    have h9 : (rowsV i.rows).length < 1000000 := by simp [rowsV]; omega
    have h10 : (rowsV i.rows).length = i.rows.length := by simp [rowsV]
    exact (e_len (es_cons (e_item (e_var k49) e_int rfl) es_nil) hF h9).trans (by rw [h10])
  refine s_ifE (wb_or (wb_p W (b := false) ?_ ?_))
  · exact b_cmp (ebl rfl) (e_var R2.h22) (congrArg some (decide_eq_false (by omega)))
  show WB D (n + 6) (.bop .Or _) ρ2 H1 _
  refine wb_or (wb_cmp (we_m W (a := sa) (C := 45) (f := 35) (es R2.h43 rfl) hsh' rfl rfl (wes_p W (vs := []) rfl ((k_rows (n := n + 5) W I1.X.chain hts (by omega)).mono fun v H2 ⟨d, hv, hd, hH2⟩ => ?_))))
  subst hv
  have N2 : NewH H1 H2 := by rw [hH2]; exact NewH.upd hd
  have I2 := I1.news N2
  have hd2 : H2 d = some (.list (rowsV i.rows)) := by rw [hH2]; exact upd_self _ _ _
  have hb2 : H2 b = some (.list (rowsV i.rows)) := (N2 b (some_ne hbH)).trans hbH
  refine we_p W (v := .ref b) (by tb_start) ⟨false, (cmp_rowsV hd2 hb2 kbi kbi).trans (nd_self _), ?_⟩
  show WB D (n + 6) (.bop .Or _) ρ2 H2 _
  refine wb_or (wb_p W (b := false) ?_ ?_)
  · have q1 := ebl (F := H2) (N2 b (some_ne hbH))
    have q2 := es (F := H2) R2.h43 (N2 _ (some_ne e1))
    have q3 := (N2 sa (some_ne hsh)).trans hsh
    exact b_cmp (e_attr q2 q3 rfl (dget_of rfl)) q1 ((cmp_intN _ _ _).trans (nd_self _))
  show WB D (n + 6) (.bop .Or []) ρ2 H2 _
  refine wb_or_nil ?_
  rw [if_neg (by decide)]
  refine s_end ?_
  have h46 := R2.h46
  obtain ⟨kvs, a1, a2, a3⟩ := I2.seen.ex
  have hget : ∀ {w : V}, dget kvs (G.nu i) = some w → ∃ b', w = toldV b' i ∧ H2 b' = some (.list (rowsV i.rows)) := fun {w} hw => by
    obtain ⟨i', a', b', t1, t2, t3, t4, t5, t6⟩ := a3 _ _ (dget_mem hw)
    have : i' = i := I2.X.nui i' i a' sa t1 hts t2.symm
    subst this
    exact ⟨b', t3, t5⟩
  refine s_if W (z := false) ?_ (s_end ?_)
  · have hg : evP H2 ρ2 (.meth (.var 46) 58 [.var 8, .var 49]) = some ((dget kvs (G.nu i)).getD (toldV b i)) := by
      tb_start
    have hv49 : evP H2 ρ2 (.var 49) = some (toldV b i) := by tb_start
    refine b_cmp hg hv49 ?_
    cases hw : dget kvs (G.nu i) with
    | none =>
      show cmpV H2 .NotEq (toldV b i) (toldV b i) = _
      exact (cmp_told hb2 hb2 kbi kbi).1.trans (nd_self _)
    | some w =>
      obtain ⟨b', rfl, hb'⟩ := hget hw
      show cmpV H2 .NotEq (toldV b' i) (toldV b i) = _
      exact (cmp_told hb' hb2 kbi kbi).1.trans (nd_self _)
  have hkl : kvs.length < 5000 := by omega
  refine s_ifE (wb_cmp (we_comp (src_val (we_p W (v := .ref A.SE) (by tb_start) ⟨kvs.map fun p => .int p.1, seq_o a1 rfl, trivial, by rw [List.length_map]; omega, (fun _ => false), id, fun v hv => ?_, fun e he => ?_⟩))))
  · obtain ⟨⟨z, w⟩, hzw, rfl⟩ := List.mem_map.mp hv
    dsimp only
    obtain ⟨w', hw'⟩ := mem_dget hzw
    obtain ⟨i', a', b', t1, t2, t3, t4, t5, t6⟩ := a3 _ _ (dget_mem hw')
    refine ⟨_, rfl, evB_ok W.toFactsR.rd _ ?_ ⟨rfl, rfl⟩, fun q => Bool.noConfusion q⟩
    have q1 : evP H2 (lset ρ2 50 (.int z)) (.item (.var 46) (.var 50)) = some (toldV b' i') := by
      exact e_item (e_var (lset_miss rfl h46)) (e_var (lset_self _ _ _)) (i_nd a1 (hw'.trans (congrArg some t3)))
    have q2 : evP H2 (lset ρ2 50 (.int z)) (.var 49) = some (toldV b i) := by tb_start
    have q3 : evP H2 (lset ρ2 50 (.int z)) (.var 50) = some (.int z) := by tb_start
    have q4 : evP H2 (lset ρ2 50 (.int z)) (.var 8) = some (.int (G.nu i)) := by tb_start
    refine (b_and2 (b_cmp q1 q2 (cmp_told t5 hb2 t6 kbi).2) (b_cmp q3 q4 (cmp_intN _ _ _))).trans ?_
    by_cases e : i' = i
    · subst e
      simp [t2]
    · simp [e]
  have hnil : ((kvs.map fun p => V.int p.1).filter fun _ => false).map id = [] := by
    rw [List.map_id]; exact List.filter_eq_nil_iff.mpr fun _ _ => Bool.noConfusion
  rw [hnil]
  have I3 := I2.news (NewH.upd (o := .list []) he)
  refine we_list (wes_nil ⟨by simp, fun f hf => ?_⟩)
  have I4 := I3.news (NewH.upd (o := .list []) hf)
  have hef : e ≠ f := ne_of_live (by rw [upd_self]; exact fun q => nomatch q) hf
  have hce := (cmp_empty (H := upd (upd H2 e (.list [])) f (.list [])) (a := e) (b := f) (xs := []) ((upd_ne hef).trans (upd_self _ _ _)) (upd_self _ _ _) (by intro _ q; cases q)).2
  refine ⟨_, hce, ?_⟩
  show WS D (n + 6) [] ρ2 _ _
  refine s_end ?_
  have N4 : NewH H2 (upd (upd H2 e (.list [])) f (.list [])) := (NewH.upd he).trans (NewH.upd hf)
  have a4 := (N4 _ (some_ne a1)).trans a1
  have hb4 := (N4 _ (some_ne hb2)).trans hb2
  generalize upd (upd H2 e (.list [])) f (.list []) = H4 at I4 a4 hb4
  have hkl2 : kvs.length < 1000000 := by omega
  refine s_itemE W (we_p W (v := toldV b i) (by tb_start) ⟨.ref A.SE, .int (G.nu i), A.SE, _, by tb_start, by tb_start, put_nd a4 hkl2, ws_nil (h _ g1 _ R2 hoa1 (I4.see a4 hts hb1 hb4 kbi))⟩)
end



section
variable {D : Amb} {n : Nat} {ρ : Loc} {A : LA} {m c ln : Nat} {G G' : Gh} {S O : Nat → SD} {g g' : LGh} {H H' : AH} {j : Nat}
theorem LI.up (I : LI A m c ln G S O g H) {c' ln' : Nat} (h : c ≤ c') (h2 : ln ≤ ln') : LI A m c' ln' G S O g H :=
  ⟨I.X, I.Y, I.fit, I.fr, I.lf, I.box, I.boxB, I.boxb, I.st, I.stl, I.ow, I.owl, I.own, fun j hj => Nat.le_trans (I.rl j hj) h2, let ⟨kvs, a1, a2, a3⟩ := I.seen.ex; ⟨⟨kvs, a1, Nat.le_trans a2 h, a3⟩, I.seen.lo⟩⟩
theorem k_right (W : Facts D) (I : LI A m c ln G S S g H) (hns : G.ns < 1000) (hln : ln < 500) (hc : c + G.ns < 5000) : WK D (n + 7) 228 [.ref A.ST, .ref A.OW, .ref A.SE, .int A.L] H fun v H' => v = .bool true ∧ ∃ G' g', G'.ns = G.ns ∧ LI A m (c + G.ns) ln G' S S g' H' := by
  refine wk_fn W.ro W.f228 rfl ?_
  unfold b_law_right
  refine ws_cons (w1_for_zip W.toFactsR.zip (we_p W (v := .ref A.ST) (by tb_start) (we_p W (v := .ref A.OW) (by tb_start) ⟨A.ST, A.OW, _, _, fun x ρ' H' => (ρ' 40 = some (.ref A.ST) ∧ ρ' 41 = some (.ref A.OW) ∧ ρ' 46 = some (.ref A.SE) ∧ ρ' 22 = some (.int A.L)) ∧ ∃ G' g', LI A m (c + x) ln G' S S g' H' ∧ G'.ns = G.ns ∧ G'.sa = G.sa ∧ g'.oa = g.oa, rfl, rfl, I.st, I.ow,
    ⟨fun x ρ' H' hJ => ?_, fun x ρ' H' y hx hJ => ?_, fun ρ' H' hJ => ?_⟩, ⟨by tb_start, by tb_start, by tb_start, by tb_start⟩, G, g, I, rfl, rfl, rfl⟩)))
  · obtain ⟨_, G', g', I', q1, q2, q3⟩ := hJ
    have h1 := I'.st
    have h2 := I'.ow
    rw [q1, q2] at h1
    rw [q1, q3] at h2
    unfold zipItems listItems
    rw [h1, h2]; rfl
  · obtain ⟨⟨h40, h41, h46, h22⟩, G', g', I', q1, q2, q3⟩ := hJ
    obtain ⟨y1, y2, hy1, hy2, rfl⟩ := zipV_get hx
    obtain ⟨hlt, rfl⟩ := refsV_of hy1
    obtain ⟨_, rfl⟩ := refsV_of hy2
    refine ⟨_, rfl, ?_⟩
    have hj : x < G'.ns := by omega
    have R : RLoc A G' g' x (lsets ρ' [43, 36] [.ref (G.sa x), .ref (g.oa x)]) := by
      refine ⟨?_, ?_, ?_, ?_, ?_, ?_⟩
      all_goals first | (tb_start; done) | (rw [q2]; tb_start) | (rw [q3]; tb_start)
    generalize lsets ρ' [43, 36] [.ref (G.sa x), .ref (g.oa x)] = ρ1 at R
    refine r_first W I' hj hln R fun H1 I1 => ?_
    refine r_above W I1 hj hln R ?_
    have R2 := R.set (i := 45) (v := G'.protoV (S x).p) (by decide)
    refine r_num W I1 hj (by omega) hln R2 (lset_self _ _ _) ?_
    refine r_keys W I1 hj hln R2 fun ρ2 G2 H2 R3 e1 e2 I2 => ?_
    have hj2 : x < G2.ns := by omega
    have ha := attr_alone (ρ := ρ2) (e := .var 43) (I2.Y x hj2) (e_var R3.h43)
    refine s_if W (z := !(S x).al) (b_not (b_attr ha) rfl) ?_
    have back : ∀ {ρ4 : Loc} {g4 : LGh} {c4 : Nat} {H4 : AH}, RLoc A G2 g4 x ρ4 → g4.oa = g'.oa → c4 ≤ c + (x + 1) → LI A m c4 ln G2 S S g4 H4 → (ρ4 40 = some (.ref A.ST) ∧ ρ4 41 = some (.ref A.OW) ∧ ρ4 46 = some (.ref A.SE) ∧ ρ4 22 = some (.int A.L)) ∧ ∃ G' g', LI A m (c + (x + 1)) ln G' S S g' H4 ∧ G'.ns = G.ns ∧ G'.sa = G.sa ∧ g'.oa = g.oa :=
      fun R4 o4 hc4 I4 => ⟨⟨R4.h40, R4.h41, R4.h46, R4.h22⟩, G2, _, I4.up hc4 (Nat.le_refl _), e1.trans q1, e2.trans q2, o4.trans q3⟩
    cases hal : (S x).al with
    | true =>
      rw [if_neg (by decide)]
      exact s_end (ws_nil (back R3 rfl (by omega) I2))
    | false =>
      rw [if_pos (by decide)]
      refine r_told W I2 hj2 hln (by omega) R3 hal fun ρ4 g4 H4 R4 o4 I4 => ?_
      exact ws_nil (back R4 o4 (by omega) I4)
  · obtain ⟨_, G', g', I', q1, q2, q3⟩ := hJ
    have : (zipV (refsV G.ns G.sa) (refsV G.ns g.oa)).length = G.ns := by simp [zipV, refsV_len]
    rw [this] at I'
    exact s_ret W (v := .bool true) rfl ⟨rfl, G', g', q1, I'⟩
end



section
variable {D : Amb} {n : Nat} {ρ : Loc} {A : LA} {m c ln : Nat} {G G' : Gh} {S O : Nat → SD} {g g' : LGh} {H H' : AH} {j : Nat}
noncomputable def LGh.zero (A : LA) : LGh := { oa := fun _ => 0, rw := fun _ => 0, lo := fun z => if z = A.B then .box else if z = A.bl then .bl else if z = A.ST then .st else if z = A.OW then .ow else if z = A.SE then .se else .no }
theorem LI.zero (S : Nat → SD) (hTR : A.T ≠ A.R) (hT : H A.T = some (.inst 101 [(22, .int A.L), (23, .int 0), (24, .ref A.R)])) (hR : H A.R = some (.nd [])) (bx : BoxOk A.B A.bl H) (hST : H A.ST = some (.list [])) (hOW : H A.OW = some (.list [])) (hSE : H A.SE = some (.nd []))
    (hn : [A.T, A.R, A.B, A.bl, A.ST, A.OW, A.SE].Nodup) : LI A 0 0 0 (Gh.zero A.T A.R) S S (LGh.zero A) H := by
  simp only [List.nodup_cons, List.mem_cons, List.not_mem_nil, not_or, or_false, not_false_eq_true, and_true] at hn
  obtain ⟨⟨t1, t2, t3, t4, t5, t6⟩, ⟨r1, r2, r3, r4, r5⟩, ⟨b1, b2, b3, b4⟩, ⟨l1, l2, l3⟩, ⟨s1, s2⟩, o1, _⟩ := hn
  have neg : ∀ {j : Nat}, j < (Gh.zero A.T A.R).ns → False := fun h => Nat.not_lt_zero _ h
  have hB := bx.ex
  obtain ⟨xs, t, hB, hbl, _⟩ := hB
  refine ⟨TI.zero hTR hT hR, fun j h => (neg h).elim, fun j h => (neg h).elim, fun a ha => ?_, fun a ha => ?_, bx, if_pos rfl, ?_, hST, ?_, hOW, ?_, fun j h => (neg h).elim, fun j h => (neg h).elim, ⟨⟨[], hSE, Nat.le_refl _, fun _ _ h => nomatch h⟩, ?_⟩⟩
  · have n1 : a ≠ A.B := fun q => by rw [q, hB] at ha; cases ha
    have n2 : a ≠ A.bl := fun q => by rw [q, hbl] at ha; cases ha
    have n3 : a ≠ A.ST := fun q => by rw [q, hST] at ha; cases ha
    have n4 : a ≠ A.OW := fun q => by rw [q, hOW] at ha; cases ha
    have n5 : a ≠ A.SE := fun q => by rw [q, hSE] at ha; cases ha
    simp [LGh.zero, n1, n2, n3, n4, n5]
  · have nT : a ≠ A.T := fun q => ha (by subst q; simp [LGh.zero, t2, t3, t4, t5, t6])
    have nR : a ≠ A.R := fun q => ha (by subst q; simp [LGh.zero, r1, r2, r3, r4, r5])
    simp [Gh.zero, nT, nR]
  · simp [LGh.zero, Ne.symm b1]
  · simp [LGh.zero, Ne.symm b2, Ne.symm l1]
  · simp [LGh.zero, Ne.symm b3, Ne.symm l2, Ne.symm s1]
  · simp [LGh.zero, Ne.symm b4, Ne.symm l3, Ne.symm s2, Ne.symm o1]
theorem free_step {T R : Addr} {L : Int} (X : TI T R L m G H) (K : ∀ z, H z ≠ none → H' z ≠ none ∧ (G.ro z ≠ .free → H' z = H z)) : TI T R L m G H' ∧ ∀ j s, SOk T G H j s → SOk T G H' j s := by
  have X' : TI T R L m { G with ro := G.ro } H' := X.move (fun _ _ => rfl) (fun a ha => X.fr a (by
      cases e : H a with
      | none => rfl
      | some o => exact absurd ha (K a (some_ne e)).1)) (fun a h1 h2 => (K a h1).2 (fun q => by rw [q] at h2; exact h2)) fun j hj => by
    obtain ⟨q1, fs, q2, q3⟩ := X.st j hj
    exact ⟨fs, ((K _ (some_ne q2)).2 (fun q => by rw [q1] at q; cases q)).trans q2, q3⟩
  have E : Ext (fun r => r = .free) G H G H' := ⟨fun a ha => ⟨(K a ha).1, rfl, fun q => (K a ha).2 q⟩, fun _ _ h => ⟨h, rfl⟩, rfl, rfl, rfl⟩
  exact ⟨X', fun j s Y => Y.keep E (by intro q; cases q) (by intro q; cases q) (by intro q; cases q)⟩
noncomputable def LGh.push (g : LGh) (k : Nat) (o r : Addr) : LGh := { oa := setF g.oa k o, rw := setF g.rw k r, lo := fun z => if z = o then .own k else if z = r then .rows k else g.lo z }
theorem LI.push (I : LI A m 0 ln G S S g H) {G' : Gh} {m' q : Nat} {H1 : AH} (X' : TI A.T A.R A.L m' G' H1) (hns : G'.ns = G.ns + 1) (hY : SOk A.T G' H1 G.ns ⟨q, [], true, false⟩) (hYs : ∀ i s, i < G.ns → SOk A.T G H i s → SOk A.T G' H1 i s) (hsa : ∀ i, i < G.ns → G'.sa i = G.sa i)
    (hO : Out G H G' H1) (hq : q ≤ G.ns) {r o : Addr} (hr : H1 r = none) (ho : H1 o = none) (hro : r ≠ o) (hL : 0 ≤ A.L) :
    LI A m' 0 ln G' (setF S G.ns ⟨q, [], true, false⟩) (setF S G.ns ⟨q, [], true, false⟩) (g.push G.ns o r)
      (upd (upd (upd (upd H1 A.ST (.list (refsV G.ns G.sa ++ [.ref (G'.sa G.ns)]))) r (.list [])) o (.sd (ownFs r q true false A.L))) A.OW (.list (refsV G.ns g.oa ++ [.ref o]))) := by
  -- what the law held stands behind the call
  have lv : ∀ {z : Addr}, g.lo z ≠ .no → H1 z = H z ∧ G'.ro z = .free ∧ H1 z ≠ none := fun {z} hz => by
    obtain ⟨a, b, d⟩ := hO z (I.live hz)
    exact ⟨d (I.lf z hz), b.trans (I.lf z hz), a⟩
  have nr : ∀ {z : Addr}, g.lo z ≠ .no → z ≠ r ∧ z ≠ o := fun hz => ⟨ne_of_live (lv hz).2.2 hr, ne_of_live (lv hz).2.2 ho⟩
  have bad : ∀ {z : Addr} {a : LRole}, g.lo z = a → a ≠ .no → g.lo z ≠ .no := fun h h' => by rw [h]; exact h'
  have hST := bad I.stl (by intro q; cases q)
  have hOW := bad I.owl (by intro q; cases q)
  have hSO : A.ST ≠ A.OW := fun q => by have := I.stl; rw [q, I.owl] at this; cases this
  generalize hF : upd (upd (upd (upd H1 A.ST (.list (refsV G.ns G.sa ++ [.ref (G'.sa G.ns)]))) r (.list [])) o (.sd (ownFs r q true false A.L))) A.OW (.list (refsV G.ns g.oa ++ [.ref o])) = F
  have app : ∀ {z : Addr}, z ≠ A.ST → z ≠ A.OW → z ≠ r → z ≠ o → F z = H1 z := fun h1 h2 h3 h4 => by rw [← hF, upd_ne h2, upd_ne h4, upd_ne h3, upd_ne h1]
  have fST : F A.ST = some (.list (refsV G.ns G.sa ++ [.ref (G'.sa G.ns)])) := by rw [← hF, upd_ne hSO, upd_ne (nr hST).2, upd_ne (nr hST).1, upd_self]
  have fOW : F A.OW = some (.list (refsV G.ns g.oa ++ [.ref o])) := by rw [← hF, upd_self]
  have fr_ : F r = some (.list []) := by rw [← hF, upd_ne (Ne.symm (nr hOW).1), upd_ne hro, upd_self]
  have fo_ : F o = some (.sd (ownFs r q true false A.L)) := by rw [← hF, upd_ne (Ne.symm (nr hOW).2), upd_self]
  have K : ∀ z, H1 z ≠ none → F z ≠ none ∧ (G'.ro z ≠ .free → F z = H1 z) := fun z hz => by
    by_cases e1 : z = A.ST
    · subst e1; exact ⟨some_ne fST, fun q => absurd (lv hST).2.1 q⟩
    by_cases e2 : z = A.OW
    · subst e2; exact ⟨some_ne fOW, fun q => absurd (lv hOW).2.1 q⟩
    rw [app e1 e2 (ne_of_live hz hr) (ne_of_live hz ho)]
    exact ⟨hz, fun _ => rfl⟩
  obtain ⟨X2, Y2⟩ := free_step X' K
  have keep : ∀ {z : Addr}, g.lo z ≠ .no → z ≠ A.ST → z ≠ A.OW → F z = H z := fun hz h1 h2 => (app h1 h2 (nr hz).1 (nr hz).2).trans (lv hz).1
  have plo : ∀ {z : Addr}, g.lo z ≠ .no → (g.push G.ns o r).lo z = g.lo z := fun {z} hz => by
    show (if z = o then _ else if z = r then _ else _) = _
    rw [if_neg (nr hz).2, if_neg (nr hz).1]
  have diff : ∀ {z w : Addr} {a b : LRole}, g.lo z = a → g.lo w = b → a ≠ b → z ≠ w := fun h1 h2 h3 q => h3 (by rw [← h1, ← h2, q])
  have hbB := bad I.boxB (by intro q; cases q)
  have hbb := bad I.boxb (by intro q; cases q)
  have hse := bad I.seen.lo (by intro q; cases q)
  refine ⟨X2, fun i hi => ?_, fun i hi => ?_, fun a ha => ?_, fun a ha => ?_, I.box.keep (keep hbB (diff I.boxB I.stl (by intro q; cases q)) (diff I.boxB I.owl (by intro q; cases q))) (keep hbb (diff I.boxb I.stl (by intro q; cases q)) (diff I.boxb I.owl (by intro q; cases q))), (plo hbB).trans I.boxB, (plo hbb).trans I.boxb, ?_, (plo hST).trans I.stl, ?_, (plo hOW).trans I.owl, fun i hi => ?_, fun i hi => ?_, ?_⟩
  · by_cases e : i = G.ns
    · subst e; rw [setF_self]; exact Y2 _ _ hY
    · rw [setF_ne e]; exact Y2 _ _ (hYs _ _ (by omega) (I.Y i (by omega)))
  · by_cases e : i = G.ns
    · subst e; rw [setF_self]; exact fun _ => hL
    · rw [setF_ne e]; exact I.fit i (by omega)
  · have n1 : a ≠ o := fun q => by rw [q, fo_] at ha; cases ha
    have n2 : a ≠ r := fun q => by rw [q, fr_] at ha; cases ha
    show (if a = o then _ else if a = r then _ else _) = _
    rw [if_neg n1, if_neg n2]
    cases e : g.lo a with
    | no => rfl
    | _ => exact absurd ha (K a (lv (by rw [e]; exact fun q => nomatch q)).2.2).1
  · by_cases e1 : a = o
    · subst e1; exact X'.fr _ ho
    by_cases e2 : a = r
    · subst e2; exact X'.fr _ hr
    have : (g.push G.ns o r).lo a = g.lo a := by
      show (if a = o then _ else if a = r then _ else _) = _
      rw [if_neg e1, if_neg e2]
    rw [this] at ha
    exact (lv ha).2.1
  · rw [fST, hns, refsV_succ, refsV_congr hsa]
  · rw [fOW, hns, refsV_succ]
    have e1 : refsV G.ns (g.push G.ns o r).oa = refsV G.ns g.oa := refsV_congr fun i hi => setF_ne (by omega)
    have e2 : (g.push G.ns o r).oa G.ns = o := setF_self _ _ _
    rw [e1, e2]
  · by_cases e : i = G.ns
    · subst e
      rw [setF_self]
      have o1 : (g.push G.ns o r).oa G.ns = o := setF_self _ _ _
      have o2 : (g.push G.ns o r).rw G.ns = r := setF_self _ _ _
      refine ⟨?_, ?_, ?_, ?_, by show q ≤ G'.ns; omega, List.nodup_nil, fun _ h => nomatch h⟩
      · rw [o1]; exact if_pos rfl
      · rw [o2]; exact (if_neg hro).trans (if_pos rfl)
      · rw [o1, o2]; exact fo_
      · rw [o2]; exact fr_
    · rw [setF_ne e]
      have x := I.own i (by omega)
      have h1 := bad x.lo (by intro q; cases q)
      have h2 := bad x.lr (by intro q; cases q)
      have o1 : (g.push G.ns o r).oa i = g.oa i := setF_ne e
      have o2 : (g.push G.ns o r).rw i = g.rw i := setF_ne e
      refine ⟨?_, ?_, ?_, ?_, by have := x.pb; omega, x.nd, x.kb⟩
      · rw [o1, plo h1]; exact x.lo
      · rw [o2, plo h2]; exact x.lr
      · rw [o1, o2, keep h1 (diff x.lo I.stl (by intro q; cases q)) (diff x.lo I.owl (by intro q; cases q))]; exact x.ho
      · rw [o2, keep h2 (diff x.lr I.stl (by intro q; cases q)) (diff x.lr I.owl (by intro q; cases q))]; exact x.hr
  · by_cases e : i = G.ns
    · subst e; rw [setF_self]; exact Nat.zero_le _
    · rw [setF_ne e]; exact I.rl i (by omega)
  · obtain ⟨kvs, a1, a2, a3⟩ := I.seen.ex
    have : kvs = [] := List.length_eq_zero_iff.mp (Nat.le_zero.mp a2)
    subst this
    exact ⟨⟨[], (keep hse (diff I.seen.lo I.stl (by intro q; cases q)) (diff I.seen.lo I.owl (by intro q; cases q))).trans a1, Nat.le_refl _, fun _ _ h => nomatch h⟩, (plo hse).trans I.seen.lo⟩
end



section
variable {D : Amb} {n : Nat} {ρ : Loc} {A : LA} {m c ln : Nat} {G G' : Gh} {S O : Nat → SD} {g g' : LGh} {H H' : AH} {j : Nat}
theorem b_take (W : Facts D) {B bl : Addr} (bx : BoxOk B bl H) {lim : Int} (hl : 0 < lim) {es : List X} (hs : evPs H ρ es = some [.ref B, .int lim]) : WE D (n + 1) (.call 74 es) ρ H (TakeP B bl lim H) :=
  we_c W rfl (wes_p W hs (k_take (n := n) W bx hl))
structure MLoc (A : LA) (ρ : Loc) : Prop where
  h35 : ρ 35 = some (.ref A.B)
  h27 : ρ 27 = some (.ref A.T)
  h40 : ρ 40 = some (.ref A.ST)
  h41 : ρ 41 = some (.ref A.OW)
  h46 : ρ 46 = some (.ref A.SE)
  h22 : ρ 22 = some (.int A.L)
theorem MLoc.set (R : MLoc A ρ) {i : Nat} {v : V} (h : i ∉ [35, 27, 40, 41, 46, 22]) : MLoc A (lset ρ i v) := by
  simp only [List.mem_cons, List.not_mem_nil, not_or, or_false] at h
  obtain ⟨h1, h2, h3, h4, h5, h6⟩ := h
  exact ⟨(lset_ne (Ne.symm h1)).trans R.h35, (lset_ne (Ne.symm h2)).trans R.h27, (lset_ne (Ne.symm h3)).trans R.h40, (lset_ne (Ne.symm h4)).trans R.h41, (lset_ne (Ne.symm h5)).trans R.h46, (lset_ne (Ne.symm h6)).trans R.h22⟩
theorem m_make (W : Facts D) (I : LI A m 0 0 G S S g H) (R : MLoc A ρ) (hx : ρ 37 = some (.int (G.ns : Int))) (hns : G.ns < 100) (hm : m < 1000) (hL : 0 ≤ A.L) {xs : List Mine.S} {Q : Fl → Loc → AH → Prop}
    (h : ∀ ρ' m' G' S' g' H', MLoc A ρ' → m' ≤ m + 2 → G'.ns = G.ns + 1 → LI A m' 0 0 G' S' S' g' H' → WS D (n + 7) xs ρ' H' Q) :
    WS D (n + 7) (.asg (.var 45) (.call 74 [.var 35, .bin .Add (.var 37) (.int 1)]) :: .ex (.meth (.var 40) 56 [.call 83 [.var 27, .ife (.cmp .Gt (.var 45) (.int 0)) (.item (.var 40) (.bin .Sub (.var 45) (.int 1))) (.none)]]) :: .ex (.meth (.var 41) 56 [.dict [26, 45, 54, 55, 22] [.list [], .var 45, .bool true, .bool false, .var 22]]) :: xs) ρ H Q := by
  have h35 := R.h35
  refine s_varE rfl ((l_take (n := n + 6) (lim := (G.ns : Int) + 1) W I (by omega) (by tb_start)).mono fun w H1 ⟨I1, z, hw, z1, z2⟩ => ?_)
  subst hw
  obtain ⟨q, rfl⟩ := Int.eq_ofNat_of_zero_le z1
  have hq : q ≤ G.ns := by omega
  have R1 := R.set (i := 45) (v := .int (q : Int)) (by decide)
  have k45 : lset ρ 45 (.int (q : Int)) 45 = some (.int (q : Int)) := lset_self _ _ _
  generalize lset ρ 45 (.int (q : Int)) = ρ1 at R1 k45
  have hd := draw_proto (ρ := ρ1) (i := 0) I1 hq (by omega) R1.h40 k45
  have hst1 := I1.st
  have bad : ∀ {z : Addr} {a : LRole}, g.lo z = a → a ≠ .no → g.lo z ≠ .no := fun h h' => by rw [h]; exact h'
  have hSTl := bad I1.stl (by intro q; cases q)
  have hOWl := bad I1.owl (by intro q; cases q)
  have hSO : A.OW ≠ A.ST := fun q => by have := I1.stl; rw [← q, I1.owl] at this; cases this
  refine s_exE (we_append W.ro (we_p W (v := .ref A.ST) (e_var R1.h40) ⟨A.ST, _, rfl, hst1, we_c W rfl (wes_p W (vs := [.ref A.T, G.protoV q]) (es_cons (e_var R1.h27) (es_cons hd es_nil)) ((k_store (n := n + 2) W I1.X hq (by omega)).mono fun v H2 ⟨G', m', X', hv, hns', hm1, hm2, hY, hYs, hsa, hO⟩ => ?_))⟩))
  subst hv
  have hSTO := hO A.ST (I1.live hSTl)
  have hOWO := hO A.OW (I1.live hOWl)
  have e1 : H2 A.ST = some (.list (refsV G.ns G.sa)) := (hSTO.2.2 (I1.lf _ hSTl)).trans hst1
  have e2 : H2 A.OW = some (.list (refsV G.ns g.oa)) := (hOWO.2.2 (I1.lf _ hOWl)).trans I1.ow
  refine ⟨_, e1, by rw [refsV_len]; omega, ?_⟩
  refine s_exE (we_append W.ro (we_p W (v := .ref A.OW) (e_var R1.h41) ⟨A.OW, _, rfl, (upd_ne hSO).trans e2, we_dict (by decide) (by decide) (by decide) rfl (we_list (wes_nil ⟨by simp, fun r hr => ?_⟩))⟩))
  refine we_p W (v := .int (q : Int)) (by tb_start) (we_p W (v := .bool true) rfl (we_p W (v := .bool false) rfl (we_p W (v := .int A.L) (e_var R1.h22) fun o ho => ?_)))
  obtain ⟨or_, ho⟩ := upd_none ho
  obtain ⟨_, ho⟩ := upd_none ho
  obtain ⟨_, hr⟩ := upd_none hr
  have e3 : upd (upd (upd H2 A.ST (.list (refsV G.ns G.sa ++ [.ref (G'.sa G.ns)]))) r (.list [])) o (.sd ([26, 45, 54, 55, 22].zip [.ref r, .int (q : Int), .bool true, .bool false, .int A.L])) A.OW = some (.list (refsV G.ns g.oa)) := by
    rw [upd_ne (ne_of_live (some_ne e2) ho), upd_ne (ne_of_live (some_ne e2) hr), upd_ne hSO, e2]
  refine ⟨_, e3, by rw [refsV_len]; omega, ?_⟩
  exact h ρ1 m' G' _ _ _ R1 (by omega) hns' (I1.push X' hns' hY hYs hsa hO hq hr ho (Ne.symm or_) hL)
theorem m_turn (W : Facts D) (I : LI A m c ln G S S g H) (R : MLoc A ρ) (hns0 : 0 < G.ns) (hns : G.ns < 100) (hln : ln < 400) (hm : m < 10000) (hc : c < 1000) {xs : List Mine.S} {Q : Fl → Loc → AH → Prop}
    (h : ∀ m' G' S' g' H', m' ≤ m + ln + 3 → G'.ns = G.ns → LI A m' (c + G.ns) (ln + 1) G' S' S' g' H' → WS D (n + 7) xs ρ H' Q) :
    WS D (n + 7) (.ex (.call 78 [.var 35, .var 40, .var 41]) :: .ife (.not (.call 79 [.var 40, .var 41, .var 46, .var 22])) [.ret (.bool false)] [] :: xs) ρ H Q := by
  obtain ⟨h35, h27, h40, h41, h46, h22⟩ := R
  refine s_exE (we_c W rfl (wes_p W (vs := [.ref A.B, .ref A.ST, .ref A.OW]) (by tb_start) ((k_step (n := n) W I hns0 (by omega) (by omega) (by omega)).mono fun _ H1 ⟨G1, m1, S1, g1, q1, q2, I1⟩ => ?_)))
  refine s_ifE (wb_not (wb_of trivial (we_c W rfl (wes_p W (vs := [.ref A.ST, .ref A.OW, .ref A.SE, .int A.L]) (by tb_start) ((k_right (n := n) W I1 (by omega) (by omega) (by omega)).mono fun v H2 ⟨hv, G2, g2, r1, I2⟩ => ?_)))))
  subst hv
  refine ⟨true, rfl, ?_⟩
  show WS D (n + 7) [] ρ H2 _
  rw [q2] at I2
  exact s_end (h m1 G2 S1 g2 H2 q1 (r1.trans q2) I2)
end



section
variable {D : Amb} {n : Nat} {ρ : Loc} {H H' : AH}
theorem intVs_len (ns : List Int) : (intVs ns).length = ns.length := by simp [intVs]
theorem map_id_ints (ns : List Int) : ((intVs ns).filter fun _ => true).map id = intVs ns := by
  rw [List.map_id]; exact List.filter_eq_self.mpr fun _ _ => rfl
theorem m_head (W : Facts D) {a : Addr} {vs : List Value} {ns : List Int} (hb : D.base.IsList a vs.toArray) (hv : IntsAre vs ns) (hl : ns.length ≤ 63) (hl' : vs.length ≤ 63) (h51 : ρ 51 = some (.ref a)) {xs : List Mine.S} {Q : Fl → Loc → AH → Prop}
    (h : ∀ ρ' B bl H', ρ' 35 = some (.ref B) → BoxOk B bl H' → WS D (n + 7) xs ρ' H' Q) :
    WS D (n + 7) (.asg (.var 35) (.list [.comp (.call 88 [.var 50]) (.one 50) (.cut (.var 51) 48) [], .int 7]) :: .for_ (.one 50) (.cut (.var 51) 48) [.asg (.item (.var 35) (.int 1)) (.bin .Mod (.bin .Add (.bin .Mult (.item (.var 35) (.int 1)) (.int 31)) (.var 50)) (.int 1000003))] :: xs) ρ H Q := by
  have hlen : (ns.take 48).length ≤ 48 := by rw [List.length_take]; omega
  refine s_varE rfl (we_list (wes_cons (we_comp (src_val (we_cut (z := 48) (we_p W (v := .ref a) (by tb_start) ⟨a, vs, ns, rfl, hb, by omega, hv, fun b hb0 => ?_⟩)))))) 
  refine ⟨intVs (ns.take 48), seq_o (upd_self _ _ _) rfl, trivial, by rw [intVs_len]; omega, (fun _ => true), id, fun v hv => ?_, fun bl hbl => ?_⟩
  · unfold intVs at hv
    obtain ⟨z, hz, rfl⟩ := List.mem_map.mp hv
    exact ⟨_, rfl, rfl, fun _ => evP_ok W.toFactsR.rd _ (by tb_start) ⟨rfl, rfl⟩⟩
  rw [map_id_ints]
  refine wes_p W (vs := [.int 7]) rfl ⟨by simp, fun B hB => ?_⟩
  obtain ⟨hBbl, _⟩ := upd_none hB
  generalize hH1 : upd (upd (upd H b (.list (intVs (ns.take 48)))) bl (.list (intVs (ns.take 48)))) B (.list [.ref bl, .int 7]) = H1
  have eB : H1 B = some (.list [.ref bl, .int 7]) := by rw [← hH1, upd_self]
  have ebl : H1 bl = some (.list (intVs (ns.take 48))) := by rw [← hH1, upd_ne (Ne.symm hBbl), upd_self]
  refine ws_cons (w1_for_list (we_cut (z := 48) (we_p W (v := .ref a) (by tb_start) ⟨a, vs, ns, rfl, hb, by omega, hv, fun d hd => ⟨d, intVs (ns.take 48), fun x ρ' H' => ρ' 35 = some (.ref B) ∧ H' d = some (.list (intVs (ns.take 48))) ∧ H' bl = some (.list (intVs (ns.take 48))) ∧ ∃ t, H' B = some (.list [.ref bl, .int t]), rfl, upd_self _ _ _, ⟨fun x ρ' H' hJ => ?_, fun x ρ' H' y hx hJ => ?_, fun ρ' H' hJ => ?_⟩, by tb_start, upd_self _ _ _, ?_, ?_⟩⟩)))
  · obtain ⟨_, h2, _⟩ := hJ
    unfold listItems; rw [h2]
  · obtain ⟨h35, h2, h3, t, h4⟩ := hJ
    unfold intVs at hx
    rw [List.getElem?_map] at hx
    obtain ⟨z, hz, rfl⟩ := Option.map_eq_some_iff.mp hx
    have hb31 : Builtin.Int.intBits 31 ≤ 64 := by decide +kernel
    have hdB : d ≠ B := fun q => by rw [q, h4] at h2; injection h2 with h2; injection h2 with h2; have := congrArg List.head? h2; cases he : ns.take 48 <;> rw [he] at this <;> simp [intVs] at this
    refine ⟨_, rfl, s_itemE W (we_p W (v := .int ((t * 31 + z) % 1000003)) (e_bin (e_bin (e_bin (e_item (by tb_start) e_int (i_list h4 rfl)) e_int (i_mul hb31)) (by tb_start) rfl) e_int (i_mod (by decide))) ⟨.ref B, .int 1, B, .list [.ref bl, .int ((t * 31 + z) % 1000003)], by tb_start, by tb_start, put_list1 h4, ws_nil ⟨by simp [lset_app, h35], (upd_ne hdB).trans h2, (upd_ne (Ne.symm hBbl)).trans h3, _, upd_self _ _ _⟩⟩)⟩
  · obtain ⟨h35, h2, h3, t, h4⟩ := hJ
    exact h ρ' B bl H' h35 ⟨⟨ns.take 48, t, h4, h3, by omega⟩, hBbl⟩
  · rw [upd_ne (ne_of_live (some_ne ebl) hd)]; exact ebl
  · exact ⟨7, by rw [upd_ne (ne_of_live (some_ne eB) hd)]; exact eB⟩
end



section
variable {D : Amb} {n : Nat} {ρ : Loc} {H H' : AH}
theorem k_law (W : Facts D) {a : Addr} {vs : List Value} {ns : List Int} (hb : D.base.IsList a vs.toArray) (hv : IntsAre vs ns) (hl : ns.length ≤ 63) (hl' : vs.length ≤ 63) (h51 : ρ 51 = some (.ref a)) {Q : Fl → Loc → AH → Prop} (hQ : ∀ ρ' H', Q (.ret (.bool true)) ρ' H') :
    WS D (n + 7) b_law ρ H Q := by
  unfold b_law
  refine m_head W hb hv hl hl' h51 fun ρ1 B bl H1 h35 bx1 => ?_
  -- limit, many
  refine ws_cons (w1_many (we_tup (wes_cons (we_bin (we_p W (v := .int 2) rfl ((b_take (n := n + 6) W bx1 (lim := 5) (by decide) (by tb_start)).mono fun w H2 ⟨bx2, s2, z, hw, z1, z2⟩ => ⟨.int (2 + z), by rw [hw]; rfl, ?_⟩))))))
  refine wes_one (we_bin (we_p W (v := .int 2) rfl ((b_take (n := n + 6) W bx2 (lim := 3) (by decide) (by tb_start)).mono fun w H3 ⟨bx3, s3, y, hw, y1, y2⟩ => ⟨.int (2 + y), by rw [hw]; rfl, by simp, _, rfl, rfl, ?_⟩)))
  obtain ⟨L, hL⟩ : ∃ L : Int, L = 2 + z := ⟨_, rfl⟩
  obtain ⟨k, hk⟩ := Int.eq_ofNat_of_zero_le (show 0 ≤ 2 + y by omega)
  rw [hk, ← hL]
  have hk4 : k ≤ 4 := by omega
  have hk2 : 2 ≤ k := by omega
  have g35 : lsets ρ1 [22, 52] [.int L, .int (k : Int)] 35 = some (.ref B) := by tb_start
  have g22 : lsets ρ1 [22, 52] [.int L, .int (k : Int)] 22 = some (.int L) := by tb_start
  have g52 : lsets ρ1 [22, 52] [.int L, .int (k : Int)] 52 = some (.int (k : Int)) := by tb_start
  show WS D (n + 7) _ (lsets ρ1 [22, 52] [.int L, .int (k : Int)]) H3 Q
  generalize lsets ρ1 [22, 52] [.int L, .int (k : Int)] = ρ2 at g35 g22 g52
  -- tree, stores, owns, seen
  refine ws_cons (w1_many (we_tup (wes_cons (we_c W rfl (wes_p W (vs := [.int L]) (by tb_start) ((k_tree (n := n + 5) (L := L) W).mono fun w H4 ⟨T, R, hw, hTR, hT, hR, hH4⟩ => ?_))))))
  subst hw
  refine wes_cons (we_list (wes_nil ⟨by simp, fun ST hST => wes_cons (we_list (wes_nil ⟨by simp, fun OW hOW => wes_one (we_dict0 (.nd []) rfl fun SE hSE => ?_)⟩))⟩))
  refine ⟨by simp, _, rfl, rfl, ?_⟩
  obtain ⟨es1, hSE⟩ := upd_none hSE
  obtain ⟨es2, hSE⟩ := upd_none hSE
  obtain ⟨eo1, hOW⟩ := upd_none hOW
  obtain ⟨xs, t, b1, b2, b3⟩ := bx3.ex
  have n4 : ∀ {z : Addr}, H4 z = none → z ≠ T ∧ z ≠ R ∧ H3 z = none := fun {z} hz => by
    rw [hH4] at hz
    obtain ⟨q1, hz⟩ := upd_none hz
    obtain ⟨q2, hz⟩ := upd_none hz
    exact ⟨q1, q2, hz⟩
  obtain ⟨st1, st2, hST3⟩ := n4 hST
  obtain ⟨ow1, ow2, hOW3⟩ := n4 hOW
  obtain ⟨se1, se2, hSE3⟩ := n4 hSE
  have BT := ne_of_live (some_ne b1) hT
  have BR := ne_of_live (some_ne b1) hR
  have lT := ne_of_live (some_ne b2) hT
  have lR := ne_of_live (some_ne b2) hR
  have BS := ne_of_live (some_ne b1) hST3
  have BO := ne_of_live (some_ne b1) hOW3
  have BE := ne_of_live (some_ne b1) hSE3
  have lS := ne_of_live (some_ne b2) hST3
  have lO := ne_of_live (some_ne b2) hOW3
  have lE := ne_of_live (some_ne b2) hSE3
  have f4 : ∀ {z : Addr}, z ≠ T → z ≠ R → H4 z = H3 z := fun q1 q2 => by rw [hH4, upd_ne q1, upd_ne q2]
  have hTv : H4 T = some (.inst 101 [(22, .int L), (23, .int 0), (24, .ref R)]) := by rw [hH4, upd_self]
  have hRv : H4 R = some (.nd []) := by rw [hH4, upd_ne (Ne.symm hTR), upd_self]
  have I0 : LI ⟨T, R, B, bl, ST, OW, SE, L⟩ 0 0 0 (Gh.zero T R) (fun _ => ⟨0, [], true, false⟩) (fun _ => ⟨0, [], true, false⟩) (LGh.zero ⟨T, R, B, bl, ST, OW, SE, L⟩) (upd (upd (upd H4 ST (.list [])) OW (.list [])) SE (.nd [])) := by
    refine LI.zero _ hTR ?_ ?_ (bx3.keep ?_ ?_) ?_ ?_ ?_ ?_
    · show upd _ _ _ T = _; rw [upd_ne (Ne.symm se1), upd_ne (Ne.symm ow1), upd_ne (Ne.symm st1)]; exact hTv
    · show upd _ _ _ R = _; rw [upd_ne (Ne.symm se2), upd_ne (Ne.symm ow2), upd_ne (Ne.symm st2)]; exact hRv
    · show upd _ _ _ B = _; rw [upd_ne BE, upd_ne BO, upd_ne BS, f4 BT BR]
    · show upd _ _ _ bl = _; rw [upd_ne lE, upd_ne lO, upd_ne lS, f4 lT lR]
    · show upd _ _ _ ST = _; rw [upd_ne (Ne.symm es2), upd_ne (Ne.symm eo1), upd_self]
    · show upd _ _ _ OW = _; rw [upd_ne (Ne.symm es1), upd_self]
    · exact upd_self _ _ _
    · simp only [List.nodup_cons, List.mem_cons, List.not_mem_nil, not_or, or_false, not_false_eq_true, and_true, List.nodup_nil]
      exact ⟨⟨hTR, Ne.symm BT, Ne.symm lT, Ne.symm st1, Ne.symm ow1, Ne.symm se1⟩, ⟨Ne.symm BR, Ne.symm lR, Ne.symm st2, Ne.symm ow2, Ne.symm se2⟩, ⟨bx3.ne, BS, BO, BE⟩, ⟨lS, lO, lE⟩, ⟨Ne.symm eo1, Ne.symm es2⟩, Ne.symm es1⟩
  generalize hA : (⟨T, R, B, bl, ST, OW, SE, L⟩ : LA) = A at I0
  generalize upd (upd (upd H4 ST (.list [])) OW (.list [])) SE (.nd []) = H5 at I0
  have M : MLoc A (lsets ρ2 [27, 40, 41, 46] [.ref T, .ref ST, .ref OW, .ref SE]) := by
    rw [← hA]
    refine ⟨?_, ?_, ?_, ?_, ?_, ?_⟩
    all_goals tb_start
  have m52 : lsets ρ2 [27, 40, 41, 46] [.ref T, .ref ST, .ref OW, .ref SE] 52 = some (.int (k : Int)) := by tb_start
  generalize lsets ρ2 [27, 40, 41, 46] [.ref T, .ref ST, .ref OW, .ref SE] = ρ3 at M m52
  have hAL : A.L = 2 + z := by rw [← hA]; exact hL
  -- the stores
  refine ws_cons (w1_for_range W.toFactsR.range (we_p W (v := .int (k : Int)) (by tb_start) ⟨k, fun x ρ' H' => MLoc A ρ' ∧ ∃ m G S g, m ≤ 2 * x ∧ G.ns = x ∧ LI A m 0 0 G S S g H', rfl, by omega, ⟨fun _ _ _ _ => rfl, fun x ρ' H' v hx hJ => ?_, fun ρ' H' hJ => ?_⟩, M, 0, _, _, _, Nat.le_refl _, rfl, I0⟩))
  · obtain ⟨M', m, G, S, g, q1, q2, I⟩ := hJ
    obtain ⟨hxk, rfl⟩ := intsV_get hx
    refine ⟨_, rfl, ?_⟩
    refine m_make W I (M'.set (i := 37) (by decide)) (by rw [q2]; simp [lset_app]) (by omega) (by omega) (by omega) fun ρ4 m' G' S' g' H6 M4 p1 p2 I' => ws_nil ?_
    exact ⟨M4, m', G', S', g', by omega, by omega, I'⟩
  obtain ⟨M', m, G, S, g, q1, q2, I⟩ := hJ
  rw [intsV_len] at q1 q2
  -- the turns
  have h35' := M'.h35
  refine ws_cons (w1_for_range W.toFactsR.range (we_bin (we_p W (v := .int 6) rfl ((l_take (n := n + 6) W I (lim := 7) (by decide) (by tb_start)).mono fun w H7 ⟨I7, u, hw, u1, u2⟩ => ?_))))
  subst hw
  obtain ⟨kk, hkk⟩ := Int.eq_ofNat_of_zero_le (show 0 ≤ 6 + u by omega)
  refine ⟨.int (kk : Int), by rw [← hkk]; rfl, kk, fun x ρ' H' => MLoc A ρ' ∧ ∃ m c G S g, m ≤ 8 + 20 * x ∧ c ≤ 4 * x ∧ G.ns = k ∧ LI A m c x G S S g H', rfl, by omega, ⟨fun _ _ _ _ => rfl, fun x ρ'' H' v hx hJ => ?_, fun ρ'' H' hJ => ?_⟩, M', m, 0, G, S, g, by omega, by omega, q2, I7⟩
  · obtain ⟨M'', m, c, G, S, g, p1, p2, p3, I⟩ := hJ
    obtain ⟨hxk, rfl⟩ := intsV_get hx
    refine ⟨_, rfl, ?_⟩
    have M3 := M''.set (i := 53) (v := .int (x : Int)) (by decide)
    refine m_turn W I M3 (by omega) (by omega) (by omega) (by omega) (by omega) fun m' G' S' g' H8 r1 r2 I' => ws_nil ?_
    exact ⟨M3, m', c + G.ns, G', S', g', by omega, by omega, by omega, I'⟩
  · exact s_ret W (v := .bool true) rfl (hQ _ _)
end



/-! the law in its own frame -/
theorem foot_zero {δ : Addr → Addr} {a : Addr} : ¬ foot δ (fun _ => none) a := fun h => h.elim (fun q => q rfl) fun ⟨_, ⟨_, _, q⟩, _⟩ => nomatch q
theorem st_zero {D : Amb} {s : Shared} (hb : ∀ b o, D.base.get? b = some o → s.heap.get? b = some o) (hg : s.gens = D.gens) (ho : s.os = D.os) : St D (fun _ => False) id s (fun _ => none) :=
  ⟨hb, fun _ h => (foot_zero h).elim, fun _ _ h => (nomatch h), fun _ _ ⟨_, _, q⟩ => (nomatch q), fun _ ⟨_, _, q⟩ => (nomatch q), hg, ho, fun _ h => h.elim⟩
theorem law_runs {D : Amb} (W : Facts D) {ss : List Stmt} {name : Str} {scope : Scope} {L fa : Addr} {cd : Value} {A : Around} {s : Shared} {m : Str → Option Value} {a : Addr} {vs : List Value} {ns : List Int}
    (hT : TSs scope ss b_law) (hk : scope.kind = .function) (hnc : (scope.names.all fun y => y.2 != .cell && y.2 != .free) = true) (hroom : Room A 7) (F : Fr D.base L s.heap m) (hm : m (nm 51) = some (.ref a)) (hg : s.gens = D.gens) (ho : s.os = D.os)
    (hb : D.base.IsList a vs.toArray) (hv : IntsAre vs ns) (hl : ns.length ≤ 63) {Q : Flow → Shared → Prop} {E : Value → Shared → Prop}
    (q : ∀ s', (∀ b o, D.base.get? b = some o → s'.heap.get? b = some o) → s'.gens = D.gens → s'.os = D.os → Q (.ret (.bool true)) s') : wpAny (model D.prog D.w) A (execs ss (envOf name scope L fa cd)) Q E s := by
  have hl' : vs.length ≤ 63 := by
    have : vs.length = ns.length := by have := (ints_vrs (h := s.heap) (ψ := fun _ => False) hv).length; rw [intVs_len] at this; exact this.symm
    omega
  have nocell : ∀ x, ¬ ((envOf name scope L fa cd).kindOf x = some .cell ∨ (envOf name scope L fa cd).kindOf x = some .free) := fun x h => by
    have key : ∀ k, scope.names.lookup x = some k → (k != .cell && k != .free) = true := fun k hk => List.all_eq_true.mp hnc _ (lookup_mem' hk)
    rcases h with h | h
    · have := key _ h; simp at this
    · have := key _ h; simp at this
  have hfrL : D.base.get? L = none := by
    cases e : D.base.get? L with
    | none => rfl
    | some o => exact absurd (Heap.lt_size e) (Nat.not_lt.mpr F.above)
  have R : EnvR D (envOf name scope L fa cd) (foot id (fun _ => none)) (psi (fun _ => False) id (fun _ => none)) (fun i => if i = 51 then some (.ref a) else none) s.heap := by
    refine ⟨hk, rfl, rfl, ⟨m, F.ns, fun i v e _ => ?_⟩, fun i v e h => (nocell _ h).elim, fun x c e => (nomatch e), fun x h => (nocell _ h).elim, fun x y c e => (nomatch e), hfrL, foot_zero⟩
    by_cases h : i = 51
    · subst h
      rw [if_pos rfl] at e; cases e
      exact ⟨_, hm, .ref _⟩
    · rw [if_neg h] at e; cases e
  have S := st_zero (D := D) (s := s) F.keep hg ho
  refine wpAny_mono (k_law (n := 0) (Q := fun f _ _ => f = .ret (.bool true)) W hb hv hl hl' (if_pos rfl) (fun _ _ => rfl) ss (envOf name scope L fa cd) A _ _ s hT hroom S R) (fun f s' ⟨fl, ρ', H', δ', S', P', R', FR, hq⟩ => ?_) fun _ _ z => z.elim
  subst hq
  cases FR with
  | ret c =>
    cases c
    exact q s' S'.base S'.gens S'.os
theorem sm_of {p : Program} {loose : List Str} {mean : ExcName → Option Value} {mg mb : Str → Option Value} {h : Heap} (T : Top p loose mean mg mb h) (hi : importsNone p = true) : ∃ o, h.get? sysModules = some o := by
  obtain ⟨mm, ⟨o, es, ep, ho, _⟩, _⟩ := (T.seer hi).mods
  exact ⟨o, ho⟩
theorem room_top (env : Env) : Room (callerA.deeper env) 7 := ⟨⟨by show 1 + claimMargin + 1 + 2 * 7 + 10 ≤ 900; decide +kernel, rfl⟩, by show 4 + 3 + 20 * 7 + 200 ≤ 9000; decide, rfl⟩

set_option maxHeartbeats 8000000
local macro_rules | `(tactic| o_law) => `(tactic| refine holds_law (by kernel_rfl) fun said => ?_)
set_option synthInstance.maxSize 1 in
open_top hd for PySem.Challenge.rw_nt0348_01
theorem ck28 (P : Params) : chkFn (hd.heap_1 P) 28 p_Shape_init b_Shape_init = true := by kernel_rfl
theorem cb28 (P : Params) : ∀ vals : List Value, vals.length = 4 → bindArgs (fdOf (hd.heap_1 P) 28) ⟨vals, []⟩ = pure ((p_Shape_init.map nm).zip vals) := all4 fun _ _ _ _ => by kernel_rfl
theorem ck35 (P : Params) : chkFn (hd.heap_1 P) 35 p_Shape_rows b_Shape_rows = true := by kernel_rfl
theorem cb35 (P : Params) : ∀ vals : List Value, vals.length = 1 → bindArgs (fdOf (hd.heap_1 P) 35) ⟨vals, []⟩ = pure ((p_Shape_rows.map nm).zip vals) := all1 fun _ => by kernel_rfl
theorem ck42 (P : Params) : chkFn (hd.heap_1 P) 42 p_Shape_place b_Shape_place = true := by kernel_rfl
theorem cb42 (P : Params) : ∀ vals : List Value, vals.length = 2 → bindArgs (fdOf (hd.heap_1 P) 42) ⟨vals, []⟩ = pure ((p_Shape_place.map nm).zip vals) := all2 fun _ _ => by kernel_rfl
theorem ck63 (P : Params) : chkFn (hd.heap_1 P) 63 p_ShapeTree_init b_ShapeTree_init = true := by kernel_rfl
theorem cb63 (P : Params) : ∀ vals : List Value, vals.length = 2 → bindArgs (fdOf (hd.heap_1 P) 63) ⟨vals, []⟩ = pure ((p_ShapeTree_init.map nm).zip vals) := all2 fun _ _ => by kernel_rfl
theorem ck70 (P : Params) : chkFn (hd.heap_1 P) 70 p_ShapeTree_next_number b_ShapeTree_next_number = true := by kernel_rfl
theorem cb70 (P : Params) : ∀ vals : List Value, vals.length = 1 → bindArgs (fdOf (hd.heap_1 P) 70) ⟨vals, []⟩ = pure ((p_ShapeTree_next_number.map nm).zip vals) := all1 fun _ => by kernel_rfl
theorem ck77 (P : Params) : chkFn (hd.heap_1 P) 77 p_ShapeTree_root b_ShapeTree_root = true := by kernel_rfl
theorem cb77 (P : Params) : ∀ vals : List Value, vals.length = 2 → bindArgs (fdOf (hd.heap_1 P) 77) ⟨vals, []⟩ = pure ((p_ShapeTree_root.map nm).zip vals) := all2 fun _ _ => by kernel_rfl
theorem ck84 (P : Params) : chkFn (hd.heap_1 P) 84 p_ShapeTree_added b_ShapeTree_added = true := by kernel_rfl
theorem cb84 (P : Params) : ∀ vals : List Value, vals.length = 4 → bindArgs (fdOf (hd.heap_1 P) 84) ⟨vals, []⟩ = pure ((p_ShapeTree_added.map nm).zip vals) := all4 fun _ _ _ _ => by kernel_rfl
theorem ck91 (P : Params) : chkFn (hd.heap_1 P) 91 p_ShapeTree_shut b_ShapeTree_shut = true := by kernel_rfl
theorem cb91 (P : Params) : ∀ vals : List Value, vals.length = 2 → bindArgs (fdOf (hd.heap_1 P) 91) ⟨vals, []⟩ = pure ((p_ShapeTree_shut.map nm).zip vals) := all2 fun _ _ => by kernel_rfl
theorem ck98 (P : Params) : chkFn (hd.heap_1 P) 98 p_ShapeTree_built b_ShapeTree_built = true := by kernel_rfl
theorem cb98 (P : Params) : ∀ vals : List Value, vals.length = 4 → bindArgs (fdOf (hd.heap_1 P) 98) ⟨vals, []⟩ = pure ((p_ShapeTree_built.map nm).zip vals) := all4 fun _ _ _ _ => by kernel_rfl
theorem ck119 (P : Params) : chkFn (hd.heap_1 P) 119 p_Store_init b_Store_init = true := by kernel_rfl
theorem cb119 (P : Params) : ∀ vals : List Value, vals.length = 3 → bindArgs (fdOf (hd.heap_1 P) 119) ⟨vals, []⟩ = pure ((p_Store_init.map nm).zip vals) := all3 fun _ _ _ => by kernel_rfl
theorem ck126 (P : Params) : chkFn (hd.heap_1 P) 126 p_Store_above b_Store_above = true := by kernel_rfl
theorem cb126 (P : Params) : ∀ vals : List Value, vals.length = 1 → bindArgs (fdOf (hd.heap_1 P) 126) ⟨vals, []⟩ = pure ((p_Store_above.map nm).zip vals) := all1 fun _ => by kernel_rfl
theorem ck133 (P : Params) : chkFn (hd.heap_1 P) 133 p_Store_can_grow b_Store_can_grow = true := by kernel_rfl
theorem cb133 (P : Params) : ∀ vals : List Value, vals.length = 1 → bindArgs (fdOf (hd.heap_1 P) 133) ⟨vals, []⟩ = pure ((p_Store_can_grow.map nm).zip vals) := all1 fun _ => by kernel_rfl
theorem ck140 (P : Params) : chkFn (hd.heap_1 P) 140 p_Store_find b_Store_find = true := by kernel_rfl
theorem cb140 (P : Params) : ∀ vals : List Value, vals.length = 2 → bindArgs (fdOf (hd.heap_1 P) 140) ⟨vals, []⟩ = pure ((p_Store_find.map nm).zip vals) := all2 fun _ _ => by kernel_rfl
theorem ck145 (P : Params) : chkFn (hd.heap_1 P) 145 p_Store_rows b_Store_rows = true := by kernel_rfl
theorem cb145 (P : Params) : ∀ vals : List Value, vals.length = 1 → bindArgs (fdOf (hd.heap_1 P) 145) ⟨vals, []⟩ = pure ((p_Store_rows.map nm).zip vals) := all1 fun _ => by kernel_rfl
theorem ck152 (P : Params) : chkFn (hd.heap_1 P) 152 p_Store_go_alone b_Store_go_alone = true := by kernel_rfl
theorem cb152 (P : Params) : ∀ vals : List Value, vals.length = 1 → bindArgs (fdOf (hd.heap_1 P) 152) ⟨vals, []⟩ = pure ((p_Store_go_alone.map nm).zip vals) := all1 fun _ => by kernel_rfl
theorem ck159 (P : Params) : chkFn (hd.heap_1 P) 159 p_Store_put b_Store_put = true := by kernel_rfl
theorem cb159 (P : Params) : ∀ vals : List Value, vals.length = 4 → bindArgs (fdOf (hd.heap_1 P) 159) ⟨vals, []⟩ = pure ((p_Store_put.map nm).zip vals) := all4 fun _ _ _ _ => by kernel_rfl
theorem ck166 (P : Params) : chkFn (hd.heap_1 P) 166 p_Store_reflag b_Store_reflag = true := by kernel_rfl
theorem cb166 (P : Params) : ∀ vals : List Value, vals.length = 3 → bindArgs (fdOf (hd.heap_1 P) 166) ⟨vals, []⟩ = pure ((p_Store_reflag.map nm).zip vals) := all3 fun _ _ _ => by kernel_rfl
theorem ck173 (P : Params) : chkFn (hd.heap_1 P) 173 p_Store_remove b_Store_remove = true := by kernel_rfl
theorem cb173 (P : Params) : ∀ vals : List Value, vals.length = 2 → bindArgs (fdOf (hd.heap_1 P) 173) ⟨vals, []⟩ = pure ((p_Store_remove.map nm).zip vals) := all2 fun _ _ => by kernel_rfl
theorem ck180 (P : Params) : chkFn (hd.heap_1 P) 180 p_Store_close b_Store_close = true := by kernel_rfl
theorem cb180 (P : Params) : ∀ vals : List Value, vals.length = 1 → bindArgs (fdOf (hd.heap_1 P) 180) ⟨vals, []⟩ = pure ((p_Store_close.map nm).zip vals) := all1 fun _ => by kernel_rfl
theorem ck187 (P : Params) : chkFn (hd.heap_1 P) 187 p_Store_set_proto b_Store_set_proto = true := by kernel_rfl
theorem cb187 (P : Params) : ∀ vals : List Value, vals.length = 2 → bindArgs (fdOf (hd.heap_1 P) 187) ⟨vals, []⟩ = pure ((p_Store_set_proto.map nm).zip vals) := all2 fun _ _ => by kernel_rfl
theorem ck201 (P : Params) : chkFn (hd.heap_1 P) 201 p_law_take b_law_take = true := by kernel_rfl
theorem cb201 (P : Params) : ∀ vals : List Value, vals.length = 2 → bindArgs (fdOf (hd.heap_1 P) 201) ⟨vals, []⟩ = pure ((p_law_take.map nm).zip vals) := all2 fun _ _ => by kernel_rfl
theorem ck208 (P : Params) : chkFn (hd.heap_1 P) 208 p_law_put b_law_put = true := by kernel_rfl
theorem cb208 (P : Params) : ∀ vals : List Value, vals.length = 4 → bindArgs (fdOf (hd.heap_1 P) 208) ⟨vals, []⟩ = pure ((p_law_put.map nm).zip vals) := all4 fun _ _ _ _ => by kernel_rfl
theorem ck213 (P : Params) : chkFn (hd.heap_1 P) 213 p_law_noted b_law_noted = true := by kernel_rfl
theorem cb213 (P : Params) : ∀ vals : List Value, vals.length = 2 → bindArgs (fdOf (hd.heap_1 P) 213) ⟨vals, []⟩ = pure ((p_law_noted.map nm).zip vals) := all2 fun _ _ => by kernel_rfl
theorem ck218 (P : Params) : chkFn (hd.heap_1 P) 218 p_law_left b_law_left = true := by kernel_rfl
theorem cb218 (P : Params) : ∀ vals : List Value, vals.length = 2 → bindArgs (fdOf (hd.heap_1 P) 218) ⟨vals, []⟩ = pure ((p_law_left.map nm).zip vals) := all2 fun _ _ => by kernel_rfl
theorem ck223 (P : Params) : chkFn (hd.heap_1 P) 223 p_law_step b_law_step = true := by kernel_rfl
theorem cb223 (P : Params) : ∀ vals : List Value, vals.length = 3 → bindArgs (fdOf (hd.heap_1 P) 223) ⟨vals, []⟩ = pure ((p_law_step.map nm).zip vals) := all3 fun _ _ _ => by kernel_rfl
theorem ck228 (P : Params) : chkFn (hd.heap_1 P) 228 p_law_right b_law_right = true := by kernel_rfl
theorem cb228 (P : Params) : ∀ vals : List Value, vals.length = 4 → bindArgs (fdOf (hd.heap_1 P) 228) ⟨vals, []⟩ = pure ((p_law_right.map nm).zip vals) := all4 fun _ _ _ _ => by kernel_rfl
theorem at45_8 (P : Params) : AttrOk (hd.heap_1 P) 45 8 ∧ StoreOk (hd.heap_1 P) 45 8 := ⟨⟨by kernel_rfl, by kernel_rfl, by kernel_rfl⟩, ⟨by kernel_rfl, by kernel_rfl, by kernel_rfl, by kernel_rfl⟩⟩
theorem at45_9 (P : Params) : AttrOk (hd.heap_1 P) 45 9 ∧ StoreOk (hd.heap_1 P) 45 9 := ⟨⟨by kernel_rfl, by kernel_rfl, by kernel_rfl⟩, ⟨by kernel_rfl, by kernel_rfl, by kernel_rfl, by kernel_rfl⟩⟩
theorem at45_10 (P : Params) : AttrOk (hd.heap_1 P) 45 10 ∧ StoreOk (hd.heap_1 P) 45 10 := ⟨⟨by kernel_rfl, by kernel_rfl, by kernel_rfl⟩, ⟨by kernel_rfl, by kernel_rfl, by kernel_rfl, by kernel_rfl⟩⟩
theorem at45_11 (P : Params) : AttrOk (hd.heap_1 P) 45 11 ∧ StoreOk (hd.heap_1 P) 45 11 := ⟨⟨by kernel_rfl, by kernel_rfl, by kernel_rfl⟩, ⟨by kernel_rfl, by kernel_rfl, by kernel_rfl, by kernel_rfl⟩⟩
theorem at45_12 (P : Params) : AttrOk (hd.heap_1 P) 45 12 ∧ StoreOk (hd.heap_1 P) 45 12 := ⟨⟨by kernel_rfl, by kernel_rfl, by kernel_rfl⟩, ⟨by kernel_rfl, by kernel_rfl, by kernel_rfl, by kernel_rfl⟩⟩
theorem at45_13 (P : Params) : AttrOk (hd.heap_1 P) 45 13 ∧ StoreOk (hd.heap_1 P) 45 13 := ⟨⟨by kernel_rfl, by kernel_rfl, by kernel_rfl⟩, ⟨by kernel_rfl, by kernel_rfl, by kernel_rfl, by kernel_rfl⟩⟩
theorem at45_14 (P : Params) : AttrOk (hd.heap_1 P) 45 14 ∧ StoreOk (hd.heap_1 P) 45 14 := ⟨⟨by kernel_rfl, by kernel_rfl, by kernel_rfl⟩, ⟨by kernel_rfl, by kernel_rfl, by kernel_rfl, by kernel_rfl⟩⟩
theorem at45_15 (P : Params) : AttrOk (hd.heap_1 P) 45 15 ∧ StoreOk (hd.heap_1 P) 45 15 := ⟨⟨by kernel_rfl, by kernel_rfl, by kernel_rfl⟩, ⟨by kernel_rfl, by kernel_rfl, by kernel_rfl, by kernel_rfl⟩⟩
theorem at45_16 (P : Params) : AttrOk (hd.heap_1 P) 45 16 ∧ StoreOk (hd.heap_1 P) 45 16 := ⟨⟨by kernel_rfl, by kernel_rfl, by kernel_rfl⟩, ⟨by kernel_rfl, by kernel_rfl, by kernel_rfl, by kernel_rfl⟩⟩
theorem at45_17 (P : Params) : AttrOk (hd.heap_1 P) 45 17 ∧ StoreOk (hd.heap_1 P) 45 17 := ⟨⟨by kernel_rfl, by kernel_rfl, by kernel_rfl⟩, ⟨by kernel_rfl, by kernel_rfl, by kernel_rfl, by kernel_rfl⟩⟩
theorem at101_22 (P : Params) : AttrOk (hd.heap_1 P) 101 22 ∧ StoreOk (hd.heap_1 P) 101 22 := ⟨⟨by kernel_rfl, by kernel_rfl, by kernel_rfl⟩, ⟨by kernel_rfl, by kernel_rfl, by kernel_rfl, by kernel_rfl⟩⟩
theorem at101_23 (P : Params) : AttrOk (hd.heap_1 P) 101 23 ∧ StoreOk (hd.heap_1 P) 101 23 := ⟨⟨by kernel_rfl, by kernel_rfl, by kernel_rfl⟩, ⟨by kernel_rfl, by kernel_rfl, by kernel_rfl, by kernel_rfl⟩⟩
theorem at101_24 (P : Params) : AttrOk (hd.heap_1 P) 101 24 ∧ StoreOk (hd.heap_1 P) 101 24 := ⟨⟨by kernel_rfl, by kernel_rfl, by kernel_rfl⟩, ⟨by kernel_rfl, by kernel_rfl, by kernel_rfl, by kernel_rfl⟩⟩
theorem at190_27 (P : Params) : AttrOk (hd.heap_1 P) 190 27 ∧ StoreOk (hd.heap_1 P) 190 27 := ⟨⟨by kernel_rfl, by kernel_rfl, by kernel_rfl⟩, ⟨by kernel_rfl, by kernel_rfl, by kernel_rfl, by kernel_rfl⟩⟩
theorem at190_8 (P : Params) : AttrOk (hd.heap_1 P) 190 8 ∧ StoreOk (hd.heap_1 P) 190 8 := ⟨⟨by kernel_rfl, by kernel_rfl, by kernel_rfl⟩, ⟨by kernel_rfl, by kernel_rfl, by kernel_rfl, by kernel_rfl⟩⟩
theorem at190_19 (P : Params) : AttrOk (hd.heap_1 P) 190 19 ∧ StoreOk (hd.heap_1 P) 190 19 := ⟨⟨by kernel_rfl, by kernel_rfl, by kernel_rfl⟩, ⟨by kernel_rfl, by kernel_rfl, by kernel_rfl, by kernel_rfl⟩⟩
theorem at190_28 (P : Params) : AttrOk (hd.heap_1 P) 190 28 ∧ StoreOk (hd.heap_1 P) 190 28 := ⟨⟨by kernel_rfl, by kernel_rfl, by kernel_rfl⟩, ⟨by kernel_rfl, by kernel_rfl, by kernel_rfl, by kernel_rfl⟩⟩
theorem at190_29 (P : Params) : AttrOk (hd.heap_1 P) 190 29 ∧ StoreOk (hd.heap_1 P) 190 29 := ⟨⟨by kernel_rfl, by kernel_rfl, by kernel_rfl⟩, ⟨by kernel_rfl, by kernel_rfl, by kernel_rfl, by kernel_rfl⟩⟩
theorem at190_30 (P : Params) : AttrOk (hd.heap_1 P) 190 30 ∧ StoreOk (hd.heap_1 P) 190 30 := ⟨⟨by kernel_rfl, by kernel_rfl, by kernel_rfl⟩, ⟨by kernel_rfl, by kernel_rfl, by kernel_rfl, by kernel_rfl⟩⟩
theorem at190_31 (P : Params) : AttrOk (hd.heap_1 P) 190 31 ∧ StoreOk (hd.heap_1 P) 190 31 := ⟨⟨by kernel_rfl, by kernel_rfl, by kernel_rfl⟩, ⟨by kernel_rfl, by kernel_rfl, by kernel_rfl, by kernel_rfl⟩⟩
theorem at190_32 (P : Params) : AttrOk (hd.heap_1 P) 190 32 ∧ StoreOk (hd.heap_1 P) 190 32 := ⟨⟨by kernel_rfl, by kernel_rfl, by kernel_rfl⟩, ⟨by kernel_rfl, by kernel_rfl, by kernel_rfl, by kernel_rfl⟩⟩
theorem me45_26 (P : Params) : MethOk (hd.heap_1 P) 45 26 35 := ⟨by kernel_rfl, by kernel_rfl, by kernel_rfl, by kernel_rfl⟩
theorem me45_33 (P : Params) : MethOk (hd.heap_1 P) 45 33 42 := ⟨by kernel_rfl, by kernel_rfl, by kernel_rfl, by kernel_rfl⟩
theorem me101_61 (P : Params) : MethOk (hd.heap_1 P) 101 61 70 := ⟨by kernel_rfl, by kernel_rfl, by kernel_rfl, by kernel_rfl⟩
theorem me101_62 (P : Params) : MethOk (hd.heap_1 P) 101 62 77 := ⟨by kernel_rfl, by kernel_rfl, by kernel_rfl, by kernel_rfl⟩
theorem me101_63 (P : Params) : MethOk (hd.heap_1 P) 101 63 84 := ⟨by kernel_rfl, by kernel_rfl, by kernel_rfl, by kernel_rfl⟩
theorem me101_64 (P : Params) : MethOk (hd.heap_1 P) 101 64 91 := ⟨by kernel_rfl, by kernel_rfl, by kernel_rfl, by kernel_rfl⟩
theorem me101_65 (P : Params) : MethOk (hd.heap_1 P) 101 65 98 := ⟨by kernel_rfl, by kernel_rfl, by kernel_rfl, by kernel_rfl⟩
theorem me190_45 (P : Params) : MethOk (hd.heap_1 P) 190 45 126 := ⟨by kernel_rfl, by kernel_rfl, by kernel_rfl, by kernel_rfl⟩
theorem me190_66 (P : Params) : MethOk (hd.heap_1 P) 190 66 133 := ⟨by kernel_rfl, by kernel_rfl, by kernel_rfl, by kernel_rfl⟩
theorem me190_67 (P : Params) : MethOk (hd.heap_1 P) 190 67 140 := ⟨by kernel_rfl, by kernel_rfl, by kernel_rfl, by kernel_rfl⟩
theorem me190_26 (P : Params) : MethOk (hd.heap_1 P) 190 26 145 := ⟨by kernel_rfl, by kernel_rfl, by kernel_rfl, by kernel_rfl⟩
theorem me190_68 (P : Params) : MethOk (hd.heap_1 P) 190 68 152 := ⟨by kernel_rfl, by kernel_rfl, by kernel_rfl, by kernel_rfl⟩
theorem me190_69 (P : Params) : MethOk (hd.heap_1 P) 190 69 159 := ⟨by kernel_rfl, by kernel_rfl, by kernel_rfl, by kernel_rfl⟩
theorem me190_70 (P : Params) : MethOk (hd.heap_1 P) 190 70 166 := ⟨by kernel_rfl, by kernel_rfl, by kernel_rfl, by kernel_rfl⟩
theorem me190_71 (P : Params) : MethOk (hd.heap_1 P) 190 71 173 := ⟨by kernel_rfl, by kernel_rfl, by kernel_rfl, by kernel_rfl⟩
theorem me190_72 (P : Params) : MethOk (hd.heap_1 P) 190 72 180 := ⟨by kernel_rfl, by kernel_rfl, by kernel_rfl, by kernel_rfl⟩
theorem me190_73 (P : Params) : MethOk (hd.heap_1 P) 190 73 187 := ⟨by kernel_rfl, by kernel_rfl, by kernel_rfl, by kernel_rfl⟩
theorem mk45 (P : Params) : makesIn (hd.heap_1 P) 45 = true ∧ findIn (hd.heap_1 P) (.ref 45) "__init__" = some (some (.ref 28)) ∧ typeIn (hd.heap_1 P) (.ref 28) = some (.type "function") ∧ keepIn (hd.heap_1 P) (.ref 45) = true := ⟨by kernel_rfl, by kernel_rfl, by kernel_rfl, by kernel_rfl⟩
theorem mk101 (P : Params) : makesIn (hd.heap_1 P) 101 = true ∧ findIn (hd.heap_1 P) (.ref 101) "__init__" = some (some (.ref 63)) ∧ typeIn (hd.heap_1 P) (.ref 63) = some (.type "function") ∧ keepIn (hd.heap_1 P) (.ref 101) = true := ⟨by kernel_rfl, by kernel_rfl, by kernel_rfl, by kernel_rfl⟩
theorem mk190 (P : Params) : makesIn (hd.heap_1 P) 190 = true ∧ findIn (hd.heap_1 P) (.ref 190) "__init__" = some (some (.ref 119)) ∧ typeIn (hd.heap_1 P) (.ref 119) = some (.type "function") ∧ keepIn (hd.heap_1 P) (.ref 190) = true := ⟨by kernel_rfl, by kernel_rfl, by kernel_rfl, by kernel_rfl⟩
theorem gl74 (P : Params) : nsIn (hd.heap_1 P) mainGlobals (nm 74) = some (some (.ref 201)) := by kernel_rfl
theorem kp201 (P : Params) : keepIn (hd.heap_1 P) (.ref 201) = true := by kernel_rfl
theorem gl75 (P : Params) : nsIn (hd.heap_1 P) mainGlobals (nm 75) = some (some (.ref 208)) := by kernel_rfl
theorem kp208 (P : Params) : keepIn (hd.heap_1 P) (.ref 208) = true := by kernel_rfl
theorem gl76 (P : Params) : nsIn (hd.heap_1 P) mainGlobals (nm 76) = some (some (.ref 213)) := by kernel_rfl
theorem kp213 (P : Params) : keepIn (hd.heap_1 P) (.ref 213) = true := by kernel_rfl
theorem gl77 (P : Params) : nsIn (hd.heap_1 P) mainGlobals (nm 77) = some (some (.ref 218)) := by kernel_rfl
theorem kp218 (P : Params) : keepIn (hd.heap_1 P) (.ref 218) = true := by kernel_rfl
theorem gl78 (P : Params) : nsIn (hd.heap_1 P) mainGlobals (nm 78) = some (some (.ref 223)) := by kernel_rfl
theorem kp223 (P : Params) : keepIn (hd.heap_1 P) (.ref 223) = true := by kernel_rfl
theorem gl79 (P : Params) : nsIn (hd.heap_1 P) mainGlobals (nm 79) = some (some (.ref 228)) := by kernel_rfl
theorem kp228 (P : Params) : keepIn (hd.heap_1 P) (.ref 228) = true := by kernel_rfl
theorem gl81 (P : Params) : nsIn (hd.heap_1 P) mainGlobals (nm 81) = some (some (.ref 45)) := by kernel_rfl
theorem kp45 (P : Params) : keepIn (hd.heap_1 P) (.ref 45) = true := by kernel_rfl
theorem gl82 (P : Params) : nsIn (hd.heap_1 P) mainGlobals (nm 82) = some (some (.ref 101)) := by kernel_rfl
theorem kp101 (P : Params) : keepIn (hd.heap_1 P) (.ref 101) = true := by kernel_rfl
theorem gl83 (P : Params) : nsIn (hd.heap_1 P) mainGlobals (nm 83) = some (some (.ref 190)) := by kernel_rfl
theorem kp190 (P : Params) : keepIn (hd.heap_1 P) (.ref 190) = true := by kernel_rfl
theorem gn84 (P : Params) : nsIn (hd.heap_1 P) mainGlobals (nm 84) = some none := by kernel_rfl
theorem gn85 (P : Params) : nsIn (hd.heap_1 P) mainGlobals (nm 85) = some none := by kernel_rfl
theorem gn86 (P : Params) : nsIn (hd.heap_1 P) mainGlobals (nm 86) = some none := by kernel_rfl
theorem gn87 (P : Params) : nsIn (hd.heap_1 P) mainGlobals (nm 87) = some none := by kernel_rfl
theorem gn88 (P : Params) : nsIn (hd.heap_1 P) mainGlobals (nm 88) = some none := by kernel_rfl
theorem gn89 (P : Params) : nsIn (hd.heap_1 P) mainGlobals (nm 89) = some none := by kernel_rfl
theorem facts (D : Amb) {P : Params} (hK : D.K = hd.heap_1 P) (hro : D.ro = false) : Facts D := by
  have X : (hd.heap_1 P).In D.base := by rw [← hK]; exact D.kin
  refine { a45 := ?_, a101 := ?_, a190 := ?_, g0 := ?_, ro := hro, f28 := chkFn_ok (by rw [hK]; exact ck28 P) (by rw [hK]; exact cb28 P), f35 := chkFn_ok (by rw [hK]; exact ck35 P) (by rw [hK]; exact cb35 P), f42 := chkFn_ok (by rw [hK]; exact ck42 P) (by rw [hK]; exact cb42 P), f63 := chkFn_ok (by rw [hK]; exact ck63 P) (by rw [hK]; exact cb63 P), f70 := chkFn_ok (by rw [hK]; exact ck70 P) (by rw [hK]; exact cb70 P), f77 := chkFn_ok (by rw [hK]; exact ck77 P) (by rw [hK]; exact cb77 P), f84 := chkFn_ok (by rw [hK]; exact ck84 P) (by rw [hK]; exact cb84 P), f91 := chkFn_ok (by rw [hK]; exact ck91 P) (by rw [hK]; exact cb91 P), f98 := chkFn_ok (by rw [hK]; exact ck98 P) (by rw [hK]; exact cb98 P), f119 := chkFn_ok (by rw [hK]; exact ck119 P) (by rw [hK]; exact cb119 P), f126 := chkFn_ok (by rw [hK]; exact ck126 P) (by rw [hK]; exact cb126 P), f133 := chkFn_ok (by rw [hK]; exact ck133 P) (by rw [hK]; exact cb133 P), f140 := chkFn_ok (by rw [hK]; exact ck140 P) (by rw [hK]; exact cb140 P), f145 := chkFn_ok (by rw [hK]; exact ck145 P) (by rw [hK]; exact cb145 P), f152 := chkFn_ok (by rw [hK]; exact ck152 P) (by rw [hK]; exact cb152 P), f159 := chkFn_ok (by rw [hK]; exact ck159 P) (by rw [hK]; exact cb159 P), f166 := chkFn_ok (by rw [hK]; exact ck166 P) (by rw [hK]; exact cb166 P), f173 := chkFn_ok (by rw [hK]; exact ck173 P) (by rw [hK]; exact cb173 P), f180 := chkFn_ok (by rw [hK]; exact ck180 P) (by rw [hK]; exact cb180 P), f187 := chkFn_ok (by rw [hK]; exact ck187 P) (by rw [hK]; exact cb187 P), f201 := chkFn_ok (by rw [hK]; exact ck201 P) (by rw [hK]; exact cb201 P), f208 := chkFn_ok (by rw [hK]; exact ck208 P) (by rw [hK]; exact cb208 P), f213 := chkFn_ok (by rw [hK]; exact ck213 P) (by rw [hK]; exact cb213 P), f218 := chkFn_ok (by rw [hK]; exact ck218 P) (by rw [hK]; exact cb218 P), f223 := chkFn_ok (by rw [hK]; exact ck223 P) (by rw [hK]; exact cb223 P), f228 := chkFn_ok (by rw [hK]; exact ck228 P) (by rw [hK]; exact cb228 P), c45 := ?_, c101 := ?_, c190 := ?_, m45 := ?_, m101 := ?_, m190 := ?_, g := ?_, kp := ?_ }
  · rw [hK]; intro i hi; simp only [List.mem_cons, List.not_mem_nil, or_false] at hi; rcases hi with rfl | rfl | rfl | rfl | rfl | rfl | rfl | rfl | rfl | rfl
    · exact at45_8 P
    · exact at45_9 P
    · exact at45_10 P
    · exact at45_11 P
    · exact at45_12 P
    · exact at45_13 P
    · exact at45_14 P
    · exact at45_15 P
    · exact at45_16 P
    · exact at45_17 P
  · rw [hK]; intro i hi; simp only [List.mem_cons, List.not_mem_nil, or_false] at hi; rcases hi with rfl | rfl | rfl
    · exact at101_22 P
    · exact at101_23 P
    · exact at101_24 P
  · rw [hK]; intro i hi; simp only [List.mem_cons, List.not_mem_nil, or_false] at hi; rcases hi with rfl | rfl | rfl | rfl | rfl | rfl | rfl | rfl
    · exact at190_27 P
    · exact at190_8 P
    · exact at190_19 P
    · exact at190_28 P
    · exact at190_29 P
    · exact at190_30 P
    · exact at190_31 P
    · exact at190_32 P
  · intro i hi; simp only [List.mem_cons, List.not_mem_nil, or_false] at hi; rcases hi with rfl | rfl | rfl | rfl | rfl | rfl
    · exact mg_none_of X D.g (gn84 P)
    · exact mg_none_of X D.g (gn85 P)
    · exact mg_none_of X D.g (gn86 P)
    · exact mg_none_of X D.g (gn87 P)
    · exact mg_none_of X D.g (gn88 P)
    · exact mg_none_of X D.g (gn89 P)
  · obtain ⟨h1, h2, h3, h4⟩ := mk45 P; exact ⟨by rw [hK]; exact h1, by rw [hK]; exact h2, by rw [hK]; exact h3, by rw [hK]; exact h4⟩
  · obtain ⟨h1, h2, h3, h4⟩ := mk101 P; exact ⟨by rw [hK]; exact h1, by rw [hK]; exact h2, by rw [hK]; exact h3, by rw [hK]; exact h4⟩
  · obtain ⟨h1, h2, h3, h4⟩ := mk190 P; exact ⟨by rw [hK]; exact h1, by rw [hK]; exact h2, by rw [hK]; exact h3, by rw [hK]; exact h4⟩
  · rw [hK]; intro i hi; simp only [List.mem_cons, List.not_mem_nil, or_false] at hi; rcases hi with rfl | rfl
    · exact me45_26 P
    · exact me45_33 P
  · rw [hK]; intro i hi; simp only [List.mem_cons, List.not_mem_nil, or_false] at hi; rcases hi with rfl | rfl | rfl | rfl | rfl
    · exact me101_61 P
    · exact me101_62 P
    · exact me101_63 P
    · exact me101_64 P
    · exact me101_65 P
  · rw [hK]; intro i hi; simp only [List.mem_cons, List.not_mem_nil, or_false] at hi; rcases hi with rfl | rfl | rfl | rfl | rfl | rfl | rfl | rfl | rfl | rfl
    · exact me190_45 P
    · exact me190_66 P
    · exact me190_67 P
    · exact me190_26 P
    · exact me190_68 P
    · exact me190_69 P
    · exact me190_70 P
    · exact me190_71 P
    · exact me190_72 P
    · exact me190_73 P
  · intro i hi; simp only [List.mem_cons, List.not_mem_nil, or_false] at hi; rcases hi with rfl | rfl | rfl | rfl | rfl | rfl | rfl | rfl | rfl
    · exact mg_of X D.g (gl74 P)
    · exact mg_of X D.g (gl75 P)
    · exact mg_of X D.g (gl76 P)
    · exact mg_of X D.g (gl77 P)
    · exact mg_of X D.g (gl78 P)
    · exact mg_of X D.g (gl79 P)
    · exact mg_of X D.g (gl81 P)
    · exact mg_of X D.g (gl82 P)
    · exact mg_of X D.g (gl83 P)
  · rw [hK]; intro i hi; simp only [List.mem_cons, List.not_mem_nil, or_false] at hi; rcases hi with rfl | rfl | rfl | rfl | rfl | rfl | rfl | rfl | rfl
    · exact kp201 P
    · exact kp208 P
    · exact kp213 P
    · exact kp218 P
    · exact kp223 P
    · exact kp228 P
    · exact kp45 P
    · exact kp101 P
    · exact kp190 P
end Mine
local macro_rules | `(tactic| k_qdec) => `(tactic| kernel_rfl)
open PySem PySem.W PyProof.Rows PySem.Calls Mine
set_option maxRecDepth 100000 in
set_option maxHeartbeats 8000000 in
theorem PySem.Challenge.cw_nt0348_01_holds : PySem.Challenge.rw_nt0348_01.Holds := by
  refine hd ?_
  k_go0
  all_goals try k_fold
  rename (hd.heap_1 _).In _ => KX
  rename Top _ _ _ _ _ _ => T
  rename Fr _ _ _ _ => F
  rename Heap.IsList _ _ _ => hL
  rename IntsAre _ _ => hI
  rename Shared.gens _ = #[] => hg
  rename ¬ _ < _ => hlen
  refine law_runs (D := { prog := _, w := _, base := _, gens := _, os := _, K := _, mg := _, mb := _, kin := KX, g := T.g, b := T.b, nolim := T.nolimit, bi := T.builtins, sm := sm_of T (by decide +kernel) }) (facts _ rfl rfl) (chkSs_ok (fun _ _ h => chkS_ok 12 12 h) (by kernel_rfl)) rfl (by decide +kernel) (room_top _) F rfl rfl rfl hL hI (by omega) (fun s' h1 h2 h3 => ?_)
  exact ⟨.inl ⟨.bool true, .bool true, [], rfl, raisesW_false (by wrow_none_raised), .bool true, by wrow_post, unshared_nil⟩, h1, h3, h2.trans hg⟩
