import PyProof.Rows.All
import Wide.All
import OpenK.AllK
import Wide.FinOn
import PySem.Challenge.RW_pq0574_01
section
-- D1
open PySem PySem.W PySem.Calls PyProof.Rows
set_option Elab.async false
set_option linter.unusedVariables false
set_option maxRecDepth 100000
set_option genInjectivity false
set_option genSizeOfSpec false
namespace Mine

inductive V where
  | none
  | bool (b : Bool)
  | int (i : Int)
  | str (s : Str)
  | tup (vs : List V)
  | lst (vs : List V)
  | obj (c : Addr) (fs : List (Str × V))
  | rng (a b : Int)

noncomputable abbrev HF := Addr → Option Obj
noncomputable def HF.le (H H' : HF) : Prop := ∀ a o, H a = some o → H' a = some o
theorem HF.le.rfl {H : HF} : H.le H := fun _ _ e => e
theorem HF.le.trans {H H' H'' : HF} (x : H.le H') (y : H'.le H'') : H.le H'' := fun a o e => y a o (x a o e)
noncomputable def HF.put (H : HF) (a : Addr) (o : Obj) : HF := fun b => if b = a then some o else H b

noncomputable abbrev tupO (its : List Value) (n : Nat) : Obj := { cls := .type "tuple", data := .seq its.toArray n }
noncomputable abbrev lstO (its : List Value) (n : Nat) : Obj := { cls := .type "list", data := .seq its.toArray n }
noncomputable abbrev rangeObj (a b : Int) (t u v : Tok) : Obj := { cls := .type "range", dict := none, data := .fields #[.int a t, .int b u, .int 1 v], slots := #[] }

/-- a value stands for an abstract one -/
noncomputable def Rep (H : HF) (x : Value) (v : V) : Prop :=
  V.rec (motive_1 := fun _ => Value → Prop) (motive_2 := fun _ => List Value → Prop) (motive_3 := fun _ => List DictEntry → Prop) (motive_4 := fun _ => DictEntry → Prop)
    (fun x => x = .none) (fun b x => x = .bool b) (fun i x => ∃ t, x = .int i t) (fun s x => ∃ t, x = .str s t)
    (fun _ ih x => ∃ a its n, x = .ref a ∧ H a = some (tupO its n) ∧ ih its) (fun _ ih x => ∃ a its n, x = .ref a ∧ H a = some (lstO its n) ∧ ih its)
    (fun C _ ih x => ∃ a dx es n, x = .ref a ∧ H a = some (instObj C dx) ∧ H dx = some (dictOf es n) ∧ ih es) (fun a b x => ∃ r t u v, x = .ref r ∧ H r = some (rangeObj a b t u v))
    (fun xs => xs = []) (fun _ _ ih ihs xs => ∃ x ys, xs = x :: ys ∧ ih x ∧ ihs ys) (fun es => es = []) (fun _ _ ih ihs es => ∃ e ys, es = e :: ys ∧ ih e ∧ ihs ys)
    (fun name _ ih e => (∃ t, e.key = .str name t) ∧ ih e.val) v x
noncomputable def Reps (H : HF) (xs : List Value) (vs : List V) : Prop :=
  V.rec_1 (motive_1 := fun _ => Value → Prop) (motive_2 := fun _ => List Value → Prop) (motive_3 := fun _ => List DictEntry → Prop) (motive_4 := fun _ => DictEntry → Prop)
    (fun x => x = .none) (fun b x => x = .bool b) (fun i x => ∃ t, x = .int i t) (fun s x => ∃ t, x = .str s t)
    (fun _ ih x => ∃ a its n, x = .ref a ∧ H a = some (tupO its n) ∧ ih its) (fun _ ih x => ∃ a its n, x = .ref a ∧ H a = some (lstO its n) ∧ ih its)
    (fun C _ ih x => ∃ a dx es n, x = .ref a ∧ H a = some (instObj C dx) ∧ H dx = some (dictOf es n) ∧ ih es) (fun a b x => ∃ r t u v, x = .ref r ∧ H r = some (rangeObj a b t u v))
    (fun xs => xs = []) (fun _ _ ih ihs xs => ∃ x ys, xs = x :: ys ∧ ih x ∧ ihs ys) (fun es => es = []) (fun _ _ ih ihs es => ∃ e ys, es = e :: ys ∧ ih e ∧ ihs ys)
    (fun name _ ih e => (∃ t, e.key = .str name t) ∧ ih e.val) vs xs
noncomputable def Fields (H : HF) (es : List DictEntry) (fs : List (Str × V)) : Prop :=
  V.rec_2 (motive_1 := fun _ => Value → Prop) (motive_2 := fun _ => List Value → Prop) (motive_3 := fun _ => List DictEntry → Prop) (motive_4 := fun _ => DictEntry → Prop)
    (fun x => x = .none) (fun b x => x = .bool b) (fun i x => ∃ t, x = .int i t) (fun s x => ∃ t, x = .str s t)
    (fun _ ih x => ∃ a its n, x = .ref a ∧ H a = some (tupO its n) ∧ ih its) (fun _ ih x => ∃ a its n, x = .ref a ∧ H a = some (lstO its n) ∧ ih its)
    (fun C _ ih x => ∃ a dx es n, x = .ref a ∧ H a = some (instObj C dx) ∧ H dx = some (dictOf es n) ∧ ih es) (fun a b x => ∃ r t u v, x = .ref r ∧ H r = some (rangeObj a b t u v))
    (fun xs => xs = []) (fun _ _ ih ihs xs => ∃ x ys, xs = x :: ys ∧ ih x ∧ ihs ys) (fun es => es = []) (fun _ _ ih ihs es => ∃ e ys, es = e :: ys ∧ ih e ∧ ihs ys)
    (fun name _ ih e => (∃ t, e.key = .str name t) ∧ ih e.val) fs es

section
variable {H H' : HF} {x : Value} {v : V} {xs its : List Value} {vs : List V} {a : Addr} {n : Nat}
theorem Rep.none : Rep H .none .none := rfl
theorem Rep.bool {b : Bool} : Rep H (.bool b) (.bool b) := rfl
theorem Rep.int {i : Int} {t : Tok} : Rep H (.int i t) (.int i) := ⟨t, rfl⟩
theorem Rep.str {s : Str} {t : Tok} : Rep H (.str s t) (.str s) := ⟨t, rfl⟩
theorem Rep.tup (h : H a = some (tupO its n)) (r : Reps H its vs) : Rep H (.ref a) (.tup vs) := ⟨a, its, n, rfl, h, r⟩
theorem Rep.lst (h : H a = some (lstO its n)) (r : Reps H its vs) : Rep H (.ref a) (.lst vs) := ⟨a, its, n, rfl, h, r⟩
theorem Rep.rng {p q : Int} {t u w : Tok} (h : H a = some (rangeObj p q t u w)) : Rep H (.ref a) (.rng p q) := ⟨a, t, u, w, rfl, h⟩
theorem Rep.obj {C d : Addr} {es : List DictEntry} {fs : List (Str × V)} (h : H a = some (instObj C d)) (h2 : H d = some (dictOf es n)) (r : Fields H es fs) : Rep H (.ref a) (.obj C fs) := ⟨a, d, es, n, rfl, h, h2, r⟩
theorem Reps.nil : Reps H [] [] := rfl
theorem Reps.cons (a : Rep H x v) (b : Reps H xs vs) : Reps H (x :: xs) (v :: vs) := ⟨x, xs, rfl, a, b⟩
theorem Fields.nil : Fields H [] [] := rfl
theorem Fields.cons {e : DictEntry} {name : Str} {t : Tok} {es : List DictEntry} {fs : List (Str × V)} (k : e.key = .str name t) (a : Rep H e.val v) (b : Fields H es fs) : Fields H (e :: es) ((name, v) :: fs) := ⟨e, es, rfl, ⟨⟨t, k⟩, a⟩, b⟩

variable {P : Value → Prop} {Ps : List Value → Prop}
@[elab_as_elim] theorem Rep.onNone (r : Rep H x .none) (h : P .none) : P x := (show x = .none from r) ▸ h
@[elab_as_elim] theorem Rep.onBool {b : Bool} (r : Rep H x (.bool b)) (h : P (.bool b)) : P x := (show x = .bool b from r) ▸ h
@[elab_as_elim] theorem Rep.onInt {i : Int} (r : Rep H x (.int i)) (h : ∀ t, P (.int i t)) : P x := by obtain ⟨t, e⟩ := r; exact e ▸ h t
@[elab_as_elim] theorem Rep.onStr {s : Str} (r : Rep H x (.str s)) (h : ∀ t, P (.str s t)) : P x := by obtain ⟨t, e⟩ := r; exact e ▸ h t
@[elab_as_elim] theorem Rep.onTup (r : Rep H x (.tup vs)) (h : ∀ a its n, H a = some (tupO its n) → Reps H its vs → P (.ref a)) : P x := by obtain ⟨a, its, n, e, q, t⟩ := r; exact e ▸ h a its n q t
@[elab_as_elim] theorem Rep.onLst (r : Rep H x (.lst vs)) (h : ∀ a its n, H a = some (lstO its n) → Reps H its vs → P (.ref a)) : P x := by obtain ⟨a, its, n, e, q, t⟩ := r; exact e ▸ h a its n q t
@[elab_as_elim] theorem Rep.onRng {p q : Int} (r : Rep H x (.rng p q)) (h : ∀ a t u w, H a = some (rangeObj p q t u w) → P (.ref a)) : P x := by obtain ⟨a, t, u, w, e, q⟩ := r; exact e ▸ h a t u w q
@[elab_as_elim] theorem Rep.onObj {C : Addr} {fs : List (Str × V)} (r : Rep H x (.obj C fs)) (h : ∀ a d es n, H a = some (instObj C d) → H d = some (dictOf es n) → Fields H es fs → P (.ref a)) : P x := by obtain ⟨a, d, es, n, e, q, q2, t⟩ := r; exact e ▸ h a d es n q q2 t
@[elab_as_elim] theorem Reps.onNil (r : Reps H xs []) (h : Ps []) : Ps xs := (show xs = [] from r) ▸ h
@[elab_as_elim] theorem Reps.onCons (r : Reps H xs (v :: vs)) (h : ∀ x ys, Rep H x v → Reps H ys vs → Ps (x :: ys)) : Ps xs := by obtain ⟨x, ys, e, a, b⟩ := r; exact e ▸ h x ys a b
@[elab_as_elim] theorem Fields.onNil {Pf : List DictEntry → Prop} {es : List DictEntry} (r : Fields H es []) (h : Pf []) : Pf es := (show es = [] from r) ▸ h
@[elab_as_elim] theorem Fields.onCons {Pf : List DictEntry → Prop} {es : List DictEntry} {f : Str × V} {fs : List (Str × V)} (r : Fields H es (f :: fs)) (h : ∀ e ys t, e.key = .str f.1 t → Rep H e.val f.2 → Fields H ys fs → Pf (e :: ys)) : Pf es := by obtain ⟨x, ys, e, ⟨⟨t, k⟩, a⟩, b⟩ := r; exact e ▸ h x ys t k a b
@[elab_as_elim] theorem Reps.on1 (r : Reps H xs [v]) (h : ∀ x, Rep H x v → Ps [x]) : Ps xs := r.onCons fun x ys a b => b.onNil (h x a)
@[elab_as_elim] theorem Reps.on2 {w : V} (r : Reps H xs [v, w]) (h : ∀ x y, Rep H x v → Rep H y w → Ps [x, y]) : Ps xs := r.onCons fun x ys a b => b.on1 fun y c => h x y a c

theorem Rep.mono (h : H.le H') : ∀ {v x}, Rep H x v → Rep H' x v := fun {v} => 
  V.rec (motive_1 := fun v => ∀ {x}, Rep H x v → Rep H' x v) (motive_2 := fun vs => ∀ {xs}, Reps H xs vs → Reps H' xs vs) (motive_3 := fun fs => ∀ {es}, Fields H es fs → Fields H' es fs)
    (motive_4 := fun f => ∀ {e : DictEntry}, Rep H e.val f.2 → Rep H' e.val f.2)
    id (fun _ => id) (fun _ => id) (fun _ => id) (fun _ ih _ r => r.onTup fun _ _ _ q t => .tup (h _ _ q) (ih t)) (fun _ ih _ r => r.onLst fun _ _ _ q t => .lst (h _ _ q) (ih t))
    (fun _ _ ih _ r => r.onObj fun _ _ _ _ q q2 t => .obj (h _ _ q) (h _ _ q2) (ih t)) (fun _ _ _ r => r.onRng fun _ _ _ _ q => .rng (h _ _ q))
    id (fun _ _ ih ihs _ r => r.onCons fun _ _ a b => .cons (ih a) (ihs b)) id (fun f _ ih ihs _ r => r.onCons fun _ _ _ k a b => .cons k (ih a) (ihs b)) (fun _ _ ih _ => ih) v
theorem Reps.mono (h : H.le H') : ∀ {vs xs}, Reps H xs vs → Reps H' xs vs := fun {vs} =>
  List.rec (motive := fun vs => ∀ {xs}, Reps H xs vs → Reps H' xs vs) id (fun _ _ ihs _ r => r.onCons fun _ _ a b => .cons (a.mono h) (ihs b)) vs
theorem Fields.mono (h : H.le H') : ∀ {fs es}, Fields H es fs → Fields H' es fs := fun {fs} =>
  List.rec (motive := fun fs => ∀ {es}, Fields H es fs → Fields H' es fs) id (fun f _ ihs _ r => r.onCons fun _ _ _ k a b => .cons k (a.mono h) (ihs b)) fs
theorem Rep.handed : ∀ {v}, Rep H x v → handedIn x = true := fun {v} r => by
  cases v with
  | none => exact r.onNone rfl
  | bool b => exact r.onBool rfl
  | int i => exact r.onInt fun _ => rfl
  | str i => exact r.onStr fun _ => rfl
  | tup vs => exact r.onTup fun _ _ _ _ _ => rfl
  | lst vs => exact r.onLst fun _ _ _ _ _ => rfl
  | obj c fs => exact r.onObj fun _ _ _ _ _ _ _ => rfl
  | rng a b => exact r.onRng fun _ _ _ _ _ => rfl

theorem Reps.length : ∀ {vs : List V} {xs : List Value}, Reps H xs vs → xs.length = vs.length := fun {vs} =>
  List.rec (motive := fun vs => ∀ {xs}, Reps H xs vs → xs.length = vs.length) (fun r => r.onNil rfl) (fun _ _ ih _ r => r.onCons fun _ _ _ b => congrArg (· + 1) (ih b)) vs
theorem Reps.size (r : Reps H xs vs) : xs.toArray.size = vs.length := List.size_toArray.trans r.length
theorem Reps.append {ys : List Value} {ws : List V} (r' : Reps H ys ws) : ∀ {vs : List V} {xs : List Value}, Reps H xs vs → Reps H (xs ++ ys) (vs ++ ws) := fun {vs} =>
  List.rec (motive := fun vs => ∀ {xs}, Reps H xs vs → Reps H (xs ++ ys) (vs ++ ws)) (fun r => r.onNil r') (fun _ _ ih _ r => r.onCons fun _ _ a b => .cons a (ih b)) vs
theorem Reps.get : ∀ {vs : List V} {xs : List Value} {i : Nat} {v : V}, Reps H xs vs → vs[i]? = some v → ∃ x, xs[i]? = some x ∧ Rep H x v := fun {vs} =>
  List.rec (motive := fun vs => ∀ {xs : List Value} {i : Nat} {v : V}, Reps H xs vs → vs[i]? = some v → ∃ x, xs[i]? = some x ∧ Rep H x v) (fun _ e => nomatch e)
    (fun u us ih _ i v r => r.onCons fun x ys a b => i.casesOn (motive := fun i => (u :: us)[i]? = some v → ∃ z, (x :: ys)[i]? = some z ∧ Rep H z v) (fun e => ⟨x, rfl, Option.some.inj e ▸ a⟩) fun j e => ih (i := j) b (show _ from e)) vs
theorem Reps.get' : ∀ {vs : List V} {xs : List Value} {i : Nat} {x : Value}, Reps H xs vs → xs[i]? = some x → ∃ v, vs[i]? = some v ∧ Rep H x v := fun {vs} =>
  List.rec (motive := fun vs => ∀ {xs : List Value} {i : Nat} {x : Value}, Reps H xs vs → xs[i]? = some x → ∃ v, vs[i]? = some v ∧ Rep H x v) (fun r => r.onNil fun e => nomatch e)
    (fun u us ih _ i v r => r.onCons fun x ys a b => i.casesOn (motive := fun i => (x :: ys)[i]? = some v → ∃ z, (u :: us)[i]? = some z ∧ Rep H v z) (fun e => ⟨u, rfl, Option.some.inj e ▸ a⟩) fun j e => ih (i := j) b (show _ from e)) vs
end

inductive Slot where
  | val (v : V)
  | own (vs : List V)
noncomputable abbrev Env' := List (Option Slot)
noncomputable abbrev Names := List (Str × NameKind)

structure BaseAt (K : Frag) (h : Heap) : Prop where
  k : K.In h
  g : ∃ mg, h.Ns mainGlobals mg ∧ ∀ x v, nsIn K mainGlobals x = some v → mg x = v
  b : ∃ mb, h.Ns builtinsNs mb ∧ ∀ x : Str, x ≠ "__name__" → mb x = bootBuiltins x
  lim : h.NoLimit

structure Cx where
  prog : Program
  w : World
  K : Frag
  A : Around
  env : Env
  names : Names
  F : HF
  d : Nat
  wr : Bool
  g : Array GenState
  os : OsState
  /-- a list that the caller lent, and the name that holds it: that name is never bound anew -/
  pin : Option (Str × Addr) := none
  /-- names whose cells belong to the frame around -/
  kept : List Str := []

noncomputable def Cx.mine (cx : Cx) (x : Str) : Prop := cx.wr = true ∧ x ∉ cx.kept
structure Cx.Ok (cx : Cx) : Prop where
  handled : cx.A.handled = none
  depth : cx.A.depth + 4 * cx.d + 4 < recursionLimit
  units : cx.A.units + 12 * cx.d + 140 < cLine
  fkind : cx.env.scope.kind = .function
  globals : cx.env.globals = mainGlobals
  builtins : cx.env.builtins = builtinsNs
  base : ∀ h : Heap, (∀ a o, cx.F a = some o → h.get? a = some o) → BaseAt cx.K h
  kLocal : ∀ x, (x, NameKind.local) ∈ cx.names → cx.env.kindOf x = some .local
  kCell : ∀ x, (x, NameKind.cell) ∈ cx.names → cx.env.kindOf x = some .cell ∧ ∃ c, cx.env.cells.lookup x = some c
  kFree : ∀ x, (x, NameKind.free) ∈ cx.names → (cx.env.kindOf x = some .cell ∨ (cx.env.kindOf x = some .free ∧ (x == ("__classdict__" : Str)) = false)) ∧ ∃ c, cx.env.cells.lookup x = some c
  kGlob : ∀ x, (x, NameKind.globalImplicit) ∈ cx.names → cx.env.kindOf x = some .globalImplicit
  cellKind : ∀ x c, cx.env.cells.lookup x = some c → cx.env.kindOf x ≠ some .local
  nodup : (cx.names.map (·.1)).Nodup
  noDebug : ∀ x k, (x, k) ∈ cx.names → (x == ("__debug__" : Str)) = false
  pinned : ∀ x a, cx.pin = some (x, a) → (x, NameKind.globalExplicit) ∈ cx.names ∧ cx.env.kindOf x = some .local
  keptOk : ∀ x, (x, NameKind.cell) ∈ cx.names → x ∉ cx.kept

/-- a list that one frame alone holds -/
inductive OwnL (F H : HF) (h : Heap) (a : Addr) (vs : List V) : Prop
  | mk (its : List Value) (n : Nat) (f : F a = none) (g : H a = none) (q : h.get? a = some (lstO its n)) (r : Reps H its vs)
noncomputable def SlotR (cx : Cx) (H : HF) (h : Heap) (o : Option Value) : Slot → Prop
  | .val v => ∃ x, o = some x ∧ Rep H x v
  | .own vs => ∃ a, o = some (.ref a) ∧ OwnL cx.F H h a vs
inductive OwnAt (cx : Cx) (ρ : Env') (vr : Str → Option Value) (j : Nat) (a : Addr) : Prop
  | mk (y : Str) (k : NameKind) (ws : List V) (hn : cx.names[j]? = some (y, k)) (hr : ρ[j]? = some (some (.own ws))) (hv : vr y = some (.ref a))
noncomputable def OwnA (cx : Cx) (ρ : Env') (vr : Str → Option Value) (a : Addr) : Prop := ∃ j, OwnAt cx ρ vr j a

structure Inv (cx : Cx) (H : HF) (ρ : Env') (vr : Str → Option Value) (s : Shared) : Prop where
  gens : s.gens = cx.g
  drawn : ∀ x a, cx.pin = some (x, a) → vr x = some (.ref a)
  os : s.os = cx.os
  keepF : ∀ a o, cx.F a = some o → s.heap.get? a = some o
  keepH : ∀ a o, H a = some o → s.heap.get? a = some o
  FH : ∀ a o, cx.F a = some o → H a = none
  ns : ∃ m, s.heap.Ns cx.env.locals m ∧ ∀ x, cx.env.kindOf x = some .local → m x = vr x
  cell : ∀ x c, cx.env.cells.lookup x = some c → s.heap.IsCell c (vr x)
  cellsApart : ∀ x y c, cx.env.cells.lookup x = some c → cx.env.cells.lookup y = some c → x = y
  offL : cx.F cx.env.locals = none ∧ H cx.env.locals = none
  offC : ∀ x c, cx.env.cells.lookup x = some c → H c = none ∧ (cx.mine x → cx.F c = none)
  len : ρ.length = cx.names.length
  vars : ∀ (i : Nat) x k sl, cx.names[i]? = some (x, k) → ρ[i]? = some (some sl) → SlotR cx H s.heap (vr x) sl
  own1 : ∀ i j a, OwnAt cx ρ vr i a → OwnAt cx ρ vr j a → i = j

noncomputable abbrev NoE : Value → Shared → Prop := fun _ _ => False
noncomputable abbrev Go (cx : Cx) {α : Type} (t : Sem α) (K : α → Shared → Prop) (s : Shared) : Prop := wpAny (model cx.prog cx.w) cx.A t K NoE s

section
variable (cx : Cx) (H : HF) (ρ : Env') (vr : Str → Option Value)
/-- what may come after a value -/
noncomputable def KE (Q : V → Env' → Prop) (K : Value → Shared → Prop) : Prop := ∀ x s v H' ρ', H.le H' → Inv cx H' ρ' vr s → Rep H' x v → Q v ρ' → K x s
noncomputable def KB (Q : Bool → Env' → Prop) (K : Bool → Shared → Prop) : Prop := ∀ b s H' ρ', H.le H' → Inv cx H' ρ' vr s → Q b ρ' → K b s
noncomputable def KS (Q : List V → Env' → Prop) (K : List Value → Shared → Prop) : Prop := ∀ xs s vs H' ρ', H.le H' → Inv cx H' ρ' vr s → Reps H' xs vs → Q vs ρ' → K xs s
noncomputable def KV (Q : V → Prop) (K : Value → Shared → Prop) : Prop := ∀ x s v H', H.le H' → Inv cx H' ρ vr s → Rep H' x v → Q v → K x s
noncomputable def KT (Q : Bool → Prop) (K : Bool → Shared → Prop) : Prop := ∀ b s H', H.le H' → Inv cx H' ρ vr s → Q b → K b s
noncomputable def KC (Q : Bool → Prop) (K : Value → Shared → Prop) : Prop := ∀ b s H', H.le H' → Inv cx H' ρ vr s → Q b → K (.bool b) s
/-- a list that nobody holds yet -/
inductive FreshR (h : Heap) (x : Value) (vs : List V) : Prop
  | mk (a : Addr) (e : x = .ref a) (o : OwnL cx.F H h a vs) (n : ¬ OwnA cx ρ vr a)
noncomputable def KF (Q : List V → Env' → Prop) (K : Value → Shared → Prop) : Prop := ∀ x s vs H' ρ', H.le H' → Inv cx H' ρ' vr s → FreshR cx H' ρ' vr s.heap x vs → Q vs ρ' → K x s
noncomputable def KN (Q : Env' → Prop) (K : Flow → Shared → Prop) : Prop := ∀ s H' ρ' vr', H.le H' → Inv cx H' ρ' vr' s → Q ρ' → K .next s
end
/-- what a def hands back: a value, or a list that nobody else holds -/
inductive R where
  | val (v : V)
  | fresh (vs : List V)
noncomputable def RRep (cx : Cx) (H : HF) (ρ : Env') (vr : Str → Option Value) (h : Heap) (x : Value) : R → Prop
  | .val v => Rep H x v
  | .fresh vs => FreshR cx H ρ vr h x vs
noncomputable def KR (cx : Cx) (H : HF) (Q : R → Env' → Prop) (K : Flow → Shared → Prop) : Prop := ∀ x s r H' ρ' vr', H.le H' → Inv cx H' ρ' vr' s → RRep cx H' ρ' vr' s.heap x r → Q r ρ' → K (.ret x) s

section
variable (cx : Cx)
/-- the expression's value and the state behind it -/
noncomputable def Ev (e : Expr) (ρ : Env') (Q : V → Env' → Prop) : Prop := ∀ H vr s K, Inv cx H ρ vr s → KE cx H vr Q K → Go cx (eval e cx.env) K s
noncomputable def EvF (e : Expr) (ρ : Env') (Q : List V → Env' → Prop) : Prop := ∀ H vr s K, Inv cx H ρ vr s → KF cx H vr Q K → Go cx (eval e cx.env) K s
/-- a test -/
noncomputable def Tr (e : Expr) (ρ : Env') (Q : Bool → Env' → Prop) : Prop := ∀ H vr s K, Inv cx H ρ vr s → KB cx H vr Q K → Go cx (isTrue e cx.env (eval e cx.env)) K s
noncomputable def TrAll (op : BoolOp) (es : List Expr) (ρ : Env') (Q : Bool → Env' → Prop) : Prop := ∀ H vr s K, Inv cx H ρ vr s → KB cx H vr Q K → Go cx (allTrue op es cx.env) K s
noncomputable def Evs (pos : Pos) (es : List Expr) (ρ : Env') (Q : List V → Env' → Prop) : Prop := ∀ H vr s K, Inv cx H ρ vr s → KS cx H vr Q K → Go cx (spliced (backTo pos (starEach es cx.env))) K s
/-- an operation on values at hand -/
noncomputable def Op (vs : List V) (t : List Value → Sem Value) (Q : V → Prop) : Prop := ∀ H ρ vr s xs K, Inv cx H ρ vr s → Reps H xs vs → KV cx H ρ vr Q K → Go cx (t xs) K s
noncomputable def OpB (vs : List V) (t : List Value → Sem Bool) (Q : Bool → Prop) : Prop := ∀ H ρ vr s xs K, Inv cx H ρ vr s → Reps H xs vs → KT cx H ρ vr Q K → Go cx (t xs) K s
noncomputable def Op2 (op : Operator) (a b : V) (Q : V → Prop) : Prop := ∀ H ρ vr s x y K, Inv cx H ρ vr s → Rep H x a → Rep H y b → KV cx H ρ vr Q K → Go cx (binaryOp op x y) K s
noncomputable def Cmp (op : CmpOp) (a b : V) (Q : Bool → Prop) : Prop := ∀ H ρ vr s x y K, Inv cx H ρ vr s → Rep H x a → Rep H y b → KC cx H ρ vr Q K → Go cx (compareOp op x y) K s
noncomputable def Tru (a : V) (Q : Bool → Prop) : Prop := ∀ H ρ vr s x K, Inv cx H ρ vr s → Rep H x a → KT cx H ρ vr Q K → Go cx (truthy x) K s
noncomputable def Ex1 (st : Stmt) (ρ : Env') (Qn : Env' → Prop) (Qr : R → Env' → Prop) : Prop := ∀ H vr s K, Inv cx H ρ vr s → KN cx H Qn K → KR cx H Qr K → Go cx (exec st cx.env) K s
noncomputable def Ex (sts : List Stmt) (ρ : Env') (Qn : Env' → Prop) (Qr : R → Env' → Prop) : Prop := ∀ H vr s K, Inv cx H ρ vr s → KN cx H Qn K → KR cx H Qr K → Go cx (execs sts cx.env) K s
end

section
variable {cx : Cx} {H H₁ : HF} {ρ : Env'} {vr : Str → Option Value}
theorem KE.le {Q K} (k : KE cx H vr Q K) (l : H.le H₁) : KE cx H₁ vr Q K := fun x s v H' ρ' l' => k x s v H' ρ' (l.trans l')
theorem KB.le {Q K} (k : KB cx H vr Q K) (l : H.le H₁) : KB cx H₁ vr Q K := fun x s H' ρ' l' => k x s H' ρ' (l.trans l')
theorem KS.le {Q K} (k : KS cx H vr Q K) (l : H.le H₁) : KS cx H₁ vr Q K := fun x s v H' ρ' l' => k x s v H' ρ' (l.trans l')
theorem KF.le {Q K} (k : KF cx H vr Q K) (l : H.le H₁) : KF cx H₁ vr Q K := fun x s v H' ρ' l' => k x s v H' ρ' (l.trans l')
theorem KN.le {Q K} (k : KN cx H Q K) (l : H.le H₁) : KN cx H₁ Q K := fun s H' ρ' vr' l' => k s H' ρ' vr' (l.trans l')
theorem KR.le {Q K} (k : KR cx H Q K) (l : H.le H₁) : KR cx H₁ Q K := fun x s r H' ρ' vr' l' => k x s r H' ρ' vr' (l.trans l')
theorem KV.le {Q K} (k : KV cx H ρ vr Q K) (l : H.le H₁) : KV cx H₁ ρ vr Q K := fun x s v H' l' => k x s v H' (l.trans l')
/-- a value made by an operation, in the frame where the operands stood -/
theorem KE.op {Q : V → Env' → Prop} {K} (k : KE cx H vr Q K) (l : H.le H₁) : KV cx H₁ ρ vr (fun v => Q v ρ) K := fun x s v H' l' i r q => k x s v H' ρ (l.trans l') i r q
theorem KB.op {Q : Bool → Env' → Prop} {K} (k : KB cx H vr Q K) (l : H.le H₁) : KT cx H₁ ρ vr (fun v => Q v ρ) K := fun x s H' l' i q => k x s H' ρ (l.trans l') i q
theorem KE.cmp {Q : V → Env' → Prop} {K} (k : KE cx H vr Q K) (l : H.le H₁) : KC cx H₁ ρ vr (fun b => Q (.bool b) ρ) K := fun b s H' l' i q => k _ s _ H' ρ (l.trans l') i .bool q
end
end Mine

end
section
-- D2
open PySem PySem.W PySem.Calls PyProof.Rows
set_option Elab.async false
set_option linter.unusedVariables false
set_option maxRecDepth 100000
namespace Mine

theorem none_of_le {F F' : HF} (l : F.le F') {a : Addr} (h : F' a = none) : F a = none := by
  cases q : F a with
  | none => rfl
  | some o => rw [l a o q] at h; cases h
theorem le_put {H : HF} {a : Addr} {o : Obj} (h : H a = none) : H.le (H.put a o) := fun b ob e => (if_neg (fun q => by rw [q, h] at e; cases e)).trans e
theorem put_self {H : HF} {a : Addr} {o : Obj} : (H.put a o) a = some o := if_pos rfl
theorem put_ne {H : HF} {a b : Addr} {o : Obj} (h : b ≠ a) : (H.put a o) b = H b := if_neg h

section
variable {cx : Cx} {H H' : HF} {ρ : Env'} {vr : Str → Option Value} {s : Shared} {h' : Heap} {a : Addr}

theorem idx_unique {ns : Names} (hn : (ns.map (·.1)).Nodup) {i j : Nat} {x : Str} {k k' : NameKind} (hi : ns[i]? = some (x, k)) (hj : ns[j]? = some (x, k')) : i = j := by
  have h1 : (ns.map (·.1))[i]? = some x := by rw [List.getElem?_map, hi]; rfl
  have h2 : (ns.map (·.1))[j]? = some x := by rw [List.getElem?_map, hj]; rfl
  obtain ⟨p1, q1⟩ := List.getElem?_eq_some_iff.mp h1
  obtain ⟨p2, q2⟩ := List.getElem?_eq_some_iff.mp h2
  have hp := List.pairwise_iff_getElem.mp hn
  rcases Nat.lt_trichotomy i j with h | h | h
  · exact absurd (q1.trans q2.symm) (hp i j p1 p2 h)
  · exact h
  · exact absurd (q2.trans q1.symm) (hp j i p2 p1 h)

theorem OwnL.mono {F : HF} {h : Heap} {vs : List V} (o : OwnL F H h a vs) (l : H.le H') (hn : H' a = none) (hk : ∀ o, h.get? a = some o → h'.get? a = some o) : OwnL F H' h' a vs :=
  o.rec fun its n f g q r => ⟨its, n, f, hn, hk _ q, r.mono l⟩
theorem OwnL.ground {F F' : HF} {h : Heap} {vs : List V} (o : OwnL F H h a vs) (hn : F' a = none) : OwnL F' H h a vs := o.rec fun its n f g q r => ⟨its, n, hn, g, q, r⟩
theorem OwnL.off {F : HF} {h : Heap} {vs : List V} (o : OwnL F H h a vs) : F a = none ∧ H a = none := o.rec fun its n f g q r => ⟨f, g⟩

/-- an own list's slot, seen from its address -/
theorem Inv.at (i : Inv cx H ρ vr s) {j : Nat} (o : OwnAt cx ρ vr j a) : ∃ vs, OwnL cx.F H s.heap a vs := by
  obtain ⟨y, k, ws, hn, hr, hv⟩ := o
  obtain ⟨a', e, r⟩ := i.vars j y k _ hn hr
  rw [hv] at e; cases e
  exact ⟨ws, r⟩

/-- an address that is neither frozen nor of this frame -/
structure Off (cx : Cx) (H : HF) (ρ : Env') (vr : Str → Option Value) (a : Addr) : Prop where
  F : cx.F a = none
  H : H a = none
  L : a ≠ cx.env.locals
  C : ∀ x, cx.env.cells.lookup x ≠ some a
  O : ¬ OwnA cx ρ vr a

/-- a name's slot is told anew, with the heap behind it -/
theorem Inv.move (ok : cx.Ok) (i : Inv cx H ρ vr s) {j : Nat} {x : Str} {k : NameKind} (hj : cx.names[j]? = some (x, k)) {sl : Option Slot} {vr' : Str → Option Value} {t : Nat}
    (hv : ∀ y, y ≠ x → vr' y = vr y) (hp : ∀ y a, cx.pin = some (y, a) → vr' y = some (.ref a)) (hx : ∀ sl', sl = some sl' → SlotR cx H h' (vr' x) sl')
    (hown : ∀ vs a, sl = some (.own vs) → vr' x = some (.ref a) → ¬ OwnA cx (ρ.set j none) vr a)
    (keep : ∀ b o, s.heap.get? b = some o → ((cx.F b = none → H b = none → OwnA cx (ρ.set j none) vr b) → h'.get? b = some o))
    (hns : ∃ m, h'.Ns cx.env.locals m ∧ ∀ y, cx.env.kindOf y = some .local → m y = vr' y) (hce : ∀ y c, cx.env.cells.lookup y = some c → h'.IsCell c (vr' y)) :
    Inv cx H (ρ.set j sl) vr' { s with heap := h', toks := t } := by
  have hlt : j < ρ.length := i.len ▸ (List.getElem?_eq_some_iff.mp hj).1
  have back : ∀ j' a sl, j' ≠ j → OwnAt cx (ρ.set j sl) vr' j' a → OwnAt cx (ρ.set j none) vr j' a := fun j' a sl hne o =>
    o.rec fun y k ws hn hr hvy => ⟨y, k, ws, hn, by rw [List.getElem?_set_ne (Ne.symm hne)] at hr ⊢; exact hr, (hv y fun q => hne (idx_unique ok.nodup (q ▸ hn) hj)) ▸ hvy⟩
  have back' : ∀ j' a, OwnAt cx (ρ.set j none) vr j' a → OwnAt cx ρ vr j' a := fun j' a o =>
    o.rec fun y k ws hn hr hvy => ⟨y, k, ws, hn, by
      by_cases e : j = j'
      · rw [e, List.getElem?_set_self (e ▸ hlt)] at hr; cases hr
      · rwa [List.getElem?_set_ne e] at hr, hvy⟩
  have self : ∀ a, OwnAt cx (ρ.set j sl) vr' j a → ¬ OwnA cx (ρ.set j none) vr a := fun a o => o.rec fun y k ws hn hr hvy => by
    rw [List.getElem?_set_self hlt] at hr
    rw [hj] at hn; cases hn
    exact hown ws a (Option.some.inj hr) hvy
  refine ⟨i.gens, hp, i.os, fun b o e => keep b o (i.keepF b o e) (fun q => by rw [q] at e; cases e), fun b o e => keep b o (i.keepH b o e) (fun _ q => by rw [q] at e; cases e), i.FH, hns, hce, i.cellsApart, i.offL, i.offC,
    (List.length_set ..).trans i.len, fun j' y k' sl' hy hs => ?_, fun i1 i2 a o1 o2 => ?_⟩
  · by_cases hjj : j = j'
    · subst hjj
      rw [hj] at hy; cases hy
      rw [List.getElem?_set_self hlt] at hs
      exact hx _ (Option.some.inj hs)
    · have hs' := hs
      rw [List.getElem?_set_ne hjj] at hs'
      have r := i.vars j' y k' sl' hy hs'
      rw [← hv y fun q => hjj (idx_unique ok.nodup hj (q ▸ hy))] at r
      cases sl' with
      | val v => exact r
      | own vs =>
        obtain ⟨a, e, o⟩ := r
        exact ⟨a, e, o.mono .rfl o.off.2 fun ob q => keep a ob q fun _ _ => ⟨j', back j' a sl (Ne.symm hjj) ⟨y, k', vs, hy, hs, e⟩⟩⟩
  · by_cases e1 : i1 = j
    · by_cases e2 : i2 = j
      · exact e1.trans e2.symm
      · subst e1
        exact absurd ⟨i2, back i2 a _ e2 o2⟩ (self a o1)
    · by_cases e2 : i2 = j
      · subst e2
        exact absurd ⟨i1, back i1 a _ e1 o1⟩ (self a o2)
      · exact i.own1 i1 i2 a (back' _ _ (back i1 a _ e1 o1)) (back' _ _ (back i2 a _ e2 o2))

/-- the heap behind is turned at addresses that are off -/
theorem Inv.extO {t : Nat} (i : Inv cx H ρ vr s) (hk : ∀ b o, ¬ Off cx H ρ vr b → s.heap.get? b = some o → h'.get? b = some o) : Inv cx H ρ vr { s with heap := h', toks := t } where
  gens := i.gens
  drawn := i.drawn
  os := i.os
  keepF := fun a o e => hk a o (fun q => by rw [q.F] at e; cases e) (i.keepF a o e)
  keepH := fun a o e => hk a o (fun q => by rw [q.H] at e; cases e) (i.keepH a o e)
  FH := i.FH
  ns := by
    obtain ⟨m, ⟨ob, es, ep, a, b⟩, c⟩ := i.ns
    exact ⟨m, ⟨ob, es, ep, hk _ ob (fun q => q.L rfl) a, b⟩, c⟩
  cell := fun x c e => by
    obtain ⟨ob, a, b⟩ := i.cell x c e
    exact ⟨ob, hk _ ob (fun q => q.C x e) a, b⟩
  cellsApart := i.cellsApart
  offL := i.offL
  offC := i.offC
  len := i.len
  vars := fun j x k sl hx hs => by
    have r := i.vars j x k sl hx hs
    cases sl with
    | val v => exact r
    | own vs =>
      obtain ⟨a, e, o⟩ := r
      exact ⟨a, e, o.mono .rfl o.off.2 fun ob q => hk a ob (fun h => h.O ⟨j, x, k, vs, hx, hs, e⟩) q⟩
  own1 := i.own1
theorem Inv.ext {t : Nat} (i : Inv cx H ρ vr s) (hk : ∀ b o, s.heap.get? b = some o → h'.get? b = some o) : Inv cx H ρ vr { s with heap := h', toks := t } := i.extO fun b o _ => hk b o
theorem Inv.toks (t : Nat) (i : Inv cx H ρ vr s) : Inv cx H ρ vr { s with toks := t } := i.ext (h' := s.heap) fun _ _ e => e
theorem Inv.push {t : Nat} (o : Obj) (i : Inv cx H ρ vr s) : Inv cx H ρ vr { s with heap := s.heap.push o, toks := t } := i.ext fun _ _ q => Heap.get?_push_of_some o q
theorem Inv.extBut {t : Nat} (i : Inv cx H ρ vr s) (o : Off cx H ρ vr a) (hk : ∀ b o, b ≠ a → s.heap.get? b = some o → h'.get? b = some o) : Inv cx H ρ vr { s with heap := h', toks := t } := i.extO fun b ob n => hk b ob fun q => n (q ▸ o)

theorem Inv.notL (i : Inv cx H ρ vr s) {o : Obj} (e : s.heap.get? a = some o) (q : ∀ m, ¬ s.heap.Ns a m) : a ≠ cx.env.locals := fun h => by
  obtain ⟨m, n, _⟩ := i.ns
  exact q m (h ▸ n)
theorem ns_seq {h : Heap} {c : String} {xs : Array Value} {n : Nat} (e : h.get? a = some { cls := .type c, data := .seq xs n }) : ∀ m, ¬ h.Ns a m := fun m ⟨o', es, ep, h1, h2, _⟩ => by
  rw [e] at h1; cases h1; cases h2
theorem cell_seq {h : Heap} {c : String} {xs : Array Value} {n : Nat} (e : h.get? a = some { cls := .type c, data := .seq xs n }) : ∀ v, ¬ h.IsCell a v := fun v ⟨o', h1, h2⟩ => by
  rw [e] at h1; cases h1; cases h2
/-- a sequence in the heap that is nobody's is off -/
theorem Inv.off {c : String} {xs : Array Value} {n : Nat} (i : Inv cx H ρ vr s) (e : s.heap.get? a = some { cls := .type c, data := .seq xs n }) (hF : cx.F a = none) (hH : H a = none) (hO : ¬ OwnA cx ρ vr a) : Off cx H ρ vr a :=
  ⟨hF, hH, i.notL e (ns_seq e), fun x h => cell_seq e _ (i.cell x a h), hO⟩
theorem get?_size (h : Heap) : h.get? h.objs.size = none := by
  cases q : h.get? h.objs.size with
  | none => rfl
  | some o => exact absurd (Heap.lt_size q) (Nat.lt_irrefl _)
theorem Off.fresh (i : Inv cx H ρ vr s) (hn : s.heap.get? a = none) : Off cx H ρ vr a where
  F := none_of_le (fun a o e => i.keepF a o e) hn
  H := none_of_le (fun a o e => i.keepH a o e) hn
  L := fun h => by
    obtain ⟨m, ⟨o', es, ep, h1, _⟩, _⟩ := i.ns
    rw [← h, hn] at h1; cases h1
  C := fun x h => by
    obtain ⟨o', h1, _⟩ := i.cell x a h
    rw [hn] at h1; cases h1
  O := fun ⟨j, o⟩ => by
    obtain ⟨vs, its, n, f, g, q, r⟩ := i.at o
    rw [hn] at q; cases q
theorem Off.new (i : Inv cx H ρ vr s) : Off cx H ρ vr s.heap.objs.size := .fresh i (get?_size _)

/-- an object becomes one that is never changed again -/
theorem Inv.freeze (i : Inv cx H ρ vr s) {o : Obj} (hget : s.heap.get? a = some o) (h : Off cx H ρ vr a) : Inv cx (H.put a o) ρ vr s where
  gens := i.gens
  drawn := i.drawn
  os := i.os
  keepF := i.keepF
  keepH := fun b ob e => by
    by_cases hb : b = a
    · rw [hb, put_self] at e; cases e; rw [hb]; exact hget
    · rw [put_ne hb] at e; exact i.keepH b ob e
  FH := fun b ob e => (put_ne fun q => by rw [q, h.F] at e; cases e).trans (i.FH b ob e)
  ns := i.ns
  cell := i.cell
  cellsApart := i.cellsApart
  offL := ⟨i.offL.1, (put_ne (Ne.symm h.L)).trans i.offL.2⟩
  offC := fun x c e => ⟨(put_ne (show c ≠ a from fun q => h.C x (q ▸ e))).trans (i.offC x c e).1, (i.offC x c e).2⟩
  len := i.len
  vars := fun j x k sl hx hs => by
    have r := i.vars j x k sl hx hs
    cases sl with
    | val v => exact r.imp fun y r => ⟨r.1, r.2.mono (le_put h.H)⟩
    | own vs => exact r.imp fun b r => ⟨r.1, r.2.mono (le_put h.H) ((put_ne (show b ≠ a from fun q => h.O ⟨j, x, k, vs, hx, hs, q ▸ r.1⟩)).trans r.2.off.2) fun _ q => q⟩
  own1 := i.own1
/-- a new object that is never changed -/
theorem Inv.alloc (i : Inv cx H ρ vr s) {o : Obj} (ho : o.isFreed = false) {P : Prop}
    (k : ∀ H', H.le H' → Inv cx H' ρ vr { s with heap := s.heap.push o } → H' s.heap.objs.size = some o → P) : P :=
  have off := Off.new i
  k _ (le_put off.H) (((i.push (t := s.toks) o).freeze (Heap.get?_push_size _ ho)) off) put_self

/-- a slot is forgotten, or told anew as a value; the heap and the names stay -/
theorem Inv.reslot (ok : cx.Ok) (i : Inv cx H ρ vr s) {j : Nat} {x : Str} {k : NameKind} (hj : cx.names[j]? = some (x, k)) {o : Option V} (hv : ∀ v, o = some v → ∃ y, vr x = some y ∧ Rep H y v) : Inv cx H (ρ.set j (o.map .val)) vr s :=
  i.move ok hj (h' := s.heap) (t := s.toks) (fun _ _ => rfl) i.drawn (fun sl' e => by
    cases o with
    | none => cases e
    | some v => cases e; exact hv v rfl) (fun vs a e => by cases o <;> cases e) (fun b o e _ => e) i.ns i.cell
theorem own_gone (ok : cx.Ok) (i : Inv cx H ρ vr s) {j : Nat} (o : OwnAt cx ρ vr j a) : ¬ OwnA cx (ρ.set j none) vr a := fun ⟨j', y, k, ws, hn, hr, hv⟩ => by
  have hlt : j < ρ.length := o.rec fun y k ws hn hr hv => (List.getElem?_eq_some_iff.mp hr).1
  by_cases e : j = j'
  · rw [e, List.getElem?_set_self (e ▸ hlt)] at hr; cases hr
  · rw [List.getElem?_set_ne e] at hr
    exact e (i.own1 _ _ a o ⟨y, k, ws, hn, hr, hv⟩)
/-- an own list leaves its name -/
theorem own_fresh (ok : cx.Ok) (i : Inv cx H ρ vr s) {j : Nat} {x : Str} {k : NameKind} {vs : List V} (hj : cx.names[j]? = some (x, k)) (hr : ρ[j]? = some (some (.own vs))) {P : Prop}
    (q : ∀ y, vr x = some y → Inv cx H (ρ.set j none) vr s → FreshR cx H (ρ.set j none) vr s.heap y vs → P) : P := by
  obtain ⟨a, e, o⟩ := i.vars j x k _ hj hr
  exact q _ e (i.reslot ok hj (o := none) fun _ e => nomatch e) ⟨a, rfl, o, own_gone ok i ⟨x, k, vs, hj, hr, e⟩⟩
/-- a list that nobody else holds becomes a value -/
theorem fresh_freeze (i : Inv cx H ρ vr s) {x : Value} {vs : List V} (f : FreshR cx H ρ vr s.heap x vs) {P : Prop} (k : ∀ H', H.le H' → Inv cx H' ρ vr s → Rep H' x (.lst vs) → P) : P := by
  obtain ⟨a, e, ⟨its, n, h1, h2, h3, h4⟩, h6⟩ := f
  exact k _ (le_put h2) (i.freeze h3 (i.off h3 h1 h2 h6)) (e ▸ .lst put_self (h4.mono (le_put h2)))
theorem own_freeze (ok : cx.Ok) (i : Inv cx H ρ vr s) {j : Nat} {x : Str} {k : NameKind} {vs : List V} (hj : cx.names[j]? = some (x, k)) (hr : ρ[j]? = some (some (.own vs))) {P : Prop}
    (q : ∀ y H', vr x = some y → H.le H' → Inv cx H' (ρ.set j (some (.val (.lst vs)))) vr s → Rep H' y (.lst vs) → P) : P :=
  own_fresh ok i hj hr fun y e i' f => fresh_freeze i' f fun H' l i'' r => by
    have := i''.reslot ok hj (o := some (.lst vs)) fun v e' => by cases e'; exact ⟨y, e, r⟩
    rw [List.set_set] at this
    exact q y H' e l this r

noncomputable def plainK : NameKind → Bool
  | .globalImplicit => false
  | _ => true
noncomputable def storeK (b : Bool) : NameKind → Bool
  | .local => true
  | .cell => b
  | _ => false
noncomputable def BindR (cx : Cx) (H : HF) (ρ : Env') (vr : Str → Option Value) (h : Heap) (y : Value) : Slot → Prop
  | .val v => Rep H y v
  | .own vs => FreshR cx H ρ vr h y vs
noncomputable def setV (vr : Str → Option Value) (x : Str) (y : Value) : Str → Option Value := fun z => if z = x then some y else vr z

theorem Inv.rebind (ok : cx.Ok) (i : Inv cx H ρ vr s) {j : Nat} {x : Str} {k : NameKind} (hj : cx.names[j]? = some (x, k)) {sl : Slot} {y : Value} (hr : BindR cx H ρ vr s.heap y sl) (hk : storeK cx.wr k = true) {t : Nat}
    (hs : Heap.SameBut a s.heap h') (hF : cx.F a = none) (hH : H a = none) (hsq : ∀ its n, s.heap.get? a ≠ some (lstO its n))
    (hns : ∃ m, h'.Ns cx.env.locals m ∧ ∀ z, cx.env.kindOf z = some .local → m z = setV vr x y z) (hce : ∀ z c, cx.env.cells.lookup z = some c → h'.IsCell c (setV vr x y z)) :
    Inv cx H (ρ.set j (some sl)) (setV vr x y) { s with heap := h', toks := t } := by
  have hx : setV vr x y x = some y := if_pos rfl
  have off : ∀ b, OwnA cx (ρ.set j none) vr b → OwnA cx ρ vr b := fun b ⟨j', y, k, ws, hn, hr, hv⟩ => ⟨j', y, k, ws, hn, by
    by_cases e : j = j'
    · rw [← e] at hr
      rw [List.getElem?_set_self (i.len ▸ (List.getElem?_eq_some_iff.mp hj).1)] at hr; cases hr
    · rwa [List.getElem?_set_ne e] at hr, hv⟩
  have kept : ∀ b vs, OwnL cx.F H s.heap b vs → b ≠ a := fun b vs o => o.rec fun its n f g q r h => hsq its n (h ▸ q)
  refine i.move ok hj (fun z hz => if_neg hz) (fun z b e => (if_neg fun q => ?_).trans (i.drawn z b e)) (fun sl' e => ?_) (fun vs b e hv => ?_) (fun b o e hn => (hs.2 b fun q => ?_).trans e) hns hce
  · obtain ⟨j', hj'⟩ := List.getElem?_of_mem (ok.pinned z b e).1
    rw [q] at hj'
    rw [idx_unique ok.nodup hj hj', hj'] at hj
    cases hj; cases hk
  · cases e
    rw [hx]
    cases sl with
    | val v => exact ⟨y, rfl, hr⟩
    | own vs => exact hr.rec fun b e o n => ⟨b, congrArg some e, o.mono .rfl o.off.2 fun ob q => (hs.2 b (kept b vs o)).trans q⟩
  · cases e
    rw [hx] at hv
    obtain ⟨b', e, o, n⟩ := (show FreshR cx H ρ vr s.heap y vs from hr)
    cases hv; cases e
    exact fun q => n (off b q)
  · subst q
    obtain ⟨j', o⟩ := off _ (hn hF hH)
    obtain ⟨vs, o⟩ := i.at o
    exact kept _ _ o rfl

/-- a name is bound -/
theorem Inv.store (ok : cx.Ok) (i : Inv cx H ρ vr s) {j : Nat} {x : Str} {k : NameKind} (hj : cx.names[j]? = some (x, k)) {sl : Slot} {y : Value} (hr : BindR cx H ρ vr s.heap y sl) (hk : storeK cx.wr k = true) {Q : Unit → Shared → Prop}
    (h : ∀ s', Inv cx H (ρ.set j (some sl)) (setV vr x y) s' → (∀ b o, b ≠ cx.env.locals → (∀ x, cx.env.cells.lookup x ≠ some b) → s.heap.get? b = some o → s'.heap.get? b = some o) → Q () s') : Go cx (storeName cx.env x y) Q s := by
  have hmem : (x, k) ∈ cx.names := List.mem_of_getElem? hj
  obtain ⟨m, hn, hm⟩ := i.ns
  have apart : ∀ z c, cx.env.cells.lookup z = some c → c ≠ cx.env.locals := fun z c hc q => by
    obtain ⟨o, h1, h2⟩ := i.cell z c hc
    obtain ⟨o', es, ep, h3, h4, _⟩ := hn
    rw [← q, h1] at h3; cases h3; rw [h2] at h4; cases h4
  have hx : ∀ z, z ≠ x → vr z = setV vr x y z := fun z hz => (if_neg hz).symm
  cases k with
  | «local» =>
    have hl := ok.kLocal x hmem
    refine wpAny_storeName_local hl hn (fun h' hn' hs => h _ (i.rebind ok hj hr hk hs i.offL.1 i.offL.2 (fun its n q => ns_seq q _ hn) ⟨_, hn', fun z hz => ?_⟩ fun z c hc => hx z (fun q => ?_) ▸ (i.cell z c hc).sameBut hs (apart z c hc)) fun b o hb _ e => (hs.2 b hb).trans e) (by show (cx.env.scope.kind == .class || (cx.env.scope.kind == .module && cx.env.locals != cx.env.globals)) = false; rw [ok.fkind]; rfl)
    · unfold setV
      by_cases hzx : z = x
      · rw [if_pos hzx, if_pos hzx]
      · rw [if_neg hzx, if_neg hzx]; exact hm z hz
    · subst q; exact ok.cellKind _ _ hc hl
  | cell =>
    obtain ⟨hl, c, hc⟩ := ok.kCell x hmem
    refine wpAny_storeName_cell ok.fkind hl hc (i.cell x c hc) fun h' hv hs => h _ (i.rebind ok hj hr hk hs ((i.offC x c hc).2 ⟨hk, ok.keptOk x hmem⟩) (i.offC x c hc).1 (fun its n q => cell_seq q _ (i.cell x c hc)) ⟨m, hn.sameBut hs (Ne.symm (apart x c hc)), fun z hz => ?_⟩ fun z c' hc' => ?_) fun b o _ hb e => (hs.2 b fun q => hb x (q ▸ hc)).trans e
    · rw [← hx z fun q => by subst q; rw [hl] at hz; cases hz]; exact hm z hz
    · by_cases hzx : z = x
      · subst hzx; rw [hc] at hc'; cases hc'; rw [show setV vr z y z = some y from if_pos rfl]; exact hv
      · rw [← hx z hzx]; exact (i.cell z c' hc').sameBut hs fun q => hzx (i.cellsApart z x c (q ▸ hc') hc)
  | free => cases hk
  | globalImplicit => cases hk
  | globalExplicit => cases hk

/-- an own list is turned -/
theorem Inv.own_upd (ok : cx.Ok) (i : Inv cx H ρ vr s) {j : Nat} {x : Str} {k : NameKind} {vs vs' : List V} (hj : cx.names[j]? = some (x, k)) (hr : ρ[j]? = some (some (.own vs))) (hv : vr x = some (.ref a)) {its : List Value} {n t : Nat}
    (hs : ∀ b o, b ≠ a → s.heap.get? b = some o → h'.get? b = some o) (ho : h'.get? a = some (lstO its n)) (r : Reps H its vs') : Inv cx H (ρ.set j (some (.own vs'))) vr { s with heap := h', toks := t } := by
  have hat : OwnAt cx ρ vr j a := ⟨x, k, vs, hj, hr, hv⟩
  obtain ⟨ws, its₀, n₀, f1, f2, f3, _⟩ := i.at hat
  have gone := own_gone ok i hat
  refine i.move ok hj (fun _ _ => rfl) i.drawn (fun sl e => ?_) (fun vs b e hv' => ?_) (fun b o e hn => hs b o (fun q => gone (q ▸ hn (q ▸ f1) (q ▸ f2))) e) ?_ fun y c hy => (i.cell y c hy).imp fun o q => ⟨hs c o (fun z => cell_seq f3 _ (i.cell y a (z ▸ hy))) q.1, q.2⟩
  · cases e; exact ⟨a, hv, its, n, f1, f2, ho, r⟩
  · rw [hv] at hv'; cases hv'; exact gone
  · obtain ⟨m, hn, hm⟩ := i.ns
    obtain ⟨o', es, ep, h1, h2⟩ := id hn
    exact ⟨m, ⟨o', es, ep, hs _ _ (fun q => ns_seq f3 m (q ▸ hn)) h1, h2⟩, hm⟩
end
end Mine

end
section
-- D3
open PySem PySem.W PySem.Calls PyProof.Rows
set_option Elab.async false
set_option linter.unusedVariables false
set_option maxRecDepth 100000
namespace Mine

/-- what stands for the whole file: the program, the world, the written part of the top -/
structure Gl where
  prog : Program
  w : World
  K : Frag
structure Cx.In (cx : Cx) (g : Gl) (d : Nat) : Prop where
  ok : cx.Ok
  prog : cx.prog = g.prog
  w : cx.w = g.w
  K : cx.K = g.K
  d : d ≤ cx.d
/-- where a rule stands: the frame, the file, the room, the frame's names, whether its cells are its own -/
structure Here (cx : Cx) (g : Gl) (d : Nat) (ns : Names) (b : Bool) : Prop where
  inn : cx.In g d
  names : cx.names = ns
  wr : cx.wr = b
  pin : ∀ x (j : Nat), ns[j]? = some (x, .globalExplicit) → ∃ a, cx.pin = some (x, a)

section
variable {cx : Cx} {g : Gl} {d : Nat} {ns : Names} {b : Bool} {ρ : Env'} {H : HF} {vr : Str → Option Value} {s : Shared} {pos : Pos} {Q : V → Env' → Prop} {Qb : Bool → Env' → Prop} {Qn : Env' → Prop} {Qr : R → Env' → Prop} {Qs : List V → Env' → Prop}
  {l r e : Expr} {es : List Expr} {j : Nat} {x : Str} {k : NameKind} {v : V} {vs : List V} {K : Value → Shared → Prop}

theorem Here.ok (c : Here cx g d ns b) : cx.Ok := c.inn.ok
theorem Here.base (c : Here cx g d ns b) (i : Inv cx H ρ vr s) : BaseAt g.K s.heap := c.inn.K ▸ c.inn.ok.base s.heap i.keepF

theorem Ev.mono {Q' : V → Env' → Prop} (h : Ev cx e ρ Q) (hq : ∀ v ρ', Q v ρ' → Q' v ρ') : Ev cx e ρ Q' := fun H vr s K i k => h H vr s K i fun x s v H' ρ' l i r q => k x s v H' ρ' l i r (hq v ρ' q)
theorem KE.fresh (k : KE cx H vr Q K) : KF cx H vr (fun vs ρ' => Q (.lst vs) ρ') K := fun x s vs H' ρ' l i f q => fresh_freeze i f fun H'' l' i' r => k x s _ H'' ρ' (l.trans l') i' r q
theorem Ev_of_EvF (h : EvF cx e ρ (fun vs ρ' => Q (.lst vs) ρ')) : Ev cx e ρ Q := fun H vr s K i k => h H vr s K i k.fresh

theorem ev_none {k pos} (h : Q .none ρ) : Ev cx (.Constant .none k pos) ρ Q := fun H vr s K i kk => wpAny_Constant_none (kk _ _ _ H ρ .rfl i .none h)
theorem ev_bool {b k pos} (h : Q (.bool b) ρ) : Ev cx (.Constant (.bool b) k pos) ρ Q := fun H vr s K i kk => wpAny_Constant_bool (kk _ _ _ H ρ .rfl i .bool h)
theorem ev_int {n k pos} (h : Q (.int n) ρ) : Ev cx (.Constant (.int n) k pos) ρ Q := fun H vr s K i kk => wpAny_Constant_int (kk _ _ _ H ρ .rfl (i.toks _) .int h)
theorem ev_str {x k pos} (h : Q (.str x) ρ) : Ev cx (.Constant (.str x) k pos) ρ Q := fun H vr s K i kk => Calls.Constant_str (kk _ _ _ H ρ .rfl (i.toks _) .str h)

theorem load_name (c : Here cx g d ns b) {Q E : Value → Shared → Prop} {val : Value} (i : Inv cx H ρ vr s) (hn : ns[j]? = some (x, k)) (hk : plainK k = true) (hv : vr x = some val) (h : Q val s) : wpAny (model cx.prog cx.w) cx.A (eval (.Name x pos) cx.env) Q E s := by
  have ok := c.ok
  have hm : (x, k) ∈ cx.names := c.names.symm ▸ List.mem_of_getElem? hn
  refine wpAny_Name ?_ (ok.noDebug x k hm)
  cases k with
  | «local» =>
    obtain ⟨m, hn, hmv⟩ := i.ns
    exact wpAny_loadName_local ok.fkind (ok.kLocal x hm) hn ((hmv x (ok.kLocal x hm)).trans hv) h
  | cell =>
    obtain ⟨hl, c, hc⟩ := ok.kCell x hm
    exact wpAny_loadName_cell ok.fkind hl hc (hv ▸ i.cell x c hc) h
  | free =>
    obtain ⟨hl, c, hc⟩ := ok.kFree x hm
    rcases hl with hl | ⟨hl, hne⟩
    · exact wpAny_loadName_cell ok.fkind hl hc (hv ▸ i.cell x c hc) h
    · exact wpAny_loadName_free ok.fkind hl hc (hv ▸ i.cell x c hc) h hne
  | globalImplicit => cases hk
  | globalExplicit =>
    obtain ⟨a, hp⟩ := c.pin x j hn
    obtain ⟨m, hn, hmv⟩ := i.ns
    have hl := (ok.pinned x a hp).2
    exact wpAny_loadName_local ok.fkind hl hn ((hmv x hl).trans hv) h
theorem e_name (c : Here cx g d ns b) (hn : ns[j]? = some (x, k)) (hr : ρ[j]? = some (some (.val v))) (hk : plainK k = true) (hq : Q v ρ) : Ev cx (.Name x pos) ρ Q := fun H vr s K i kk => by
  obtain ⟨y, e, r⟩ := i.vars j x k _ (c.names.symm ▸ hn) hr
  exact load_name c i hn hk e (kk y s v H ρ .rfl i r hq)
theorem e_nameO (c : Here cx g d ns b) (hn : ns[j]? = some (x, k)) (hr : ρ[j]? = some (some (.own vs))) (hk : plainK k = true) (hq : Q (.lst vs) (ρ.set j (some (.val (.lst vs))))) : Ev cx (.Name x pos) ρ Q := fun H vr s K i kk =>
  own_freeze c.ok i (c.names.symm ▸ hn) hr fun y H' e l i' r => load_name c i hn hk e (kk y s _ H' _ l i' r hq)
theorem f_name (c : Here cx g d ns b) (hn : ns[j]? = some (x, k)) (hr : ρ[j]? = some (some (.own vs))) (hk : plainK k = true) (hq : Qs vs (ρ.set j none)) : EvF cx (.Name x pos) ρ Qs := fun H vr s K i kk =>
  own_fresh c.ok i (c.names.symm ▸ hn) hr fun y e i' f => load_name c i hn hk e (kk y s _ H _ .rfl i' f hq)

theorem ev_bin {op : Operator} (h : Ev cx l ρ fun a ρ₁ => Ev cx r ρ₁ fun b ρ₂ => Op2 cx op a b fun v => Q v ρ₂) : Ev cx (.BinOp l op r pos) ρ Q := fun H vr s K i k =>
  wpAny_BinOp (h H vr s _ i fun x s1 a H1 ρ1 l1 i1 r1 h1 => h1 H1 vr s1 _ i1 fun y s2 b H2 ρ2 l2 i2 r2 h2 => h2 H2 ρ2 vr s2 x y K i2 (r1.mono l2) r2 (k.op (l1.trans l2)))
theorem ev_cmp {op : CmpOp} (h : Ev cx l ρ fun a ρ₁ => Ev cx r ρ₁ fun b ρ₂ => Cmp cx op a b fun v => Q (.bool v) ρ₂) (hm : behindInMarks op r = false := by with_unfolding_all rfl) : Ev cx (.Compare l [op] [r] pos) ρ Q := fun H vr s K i k =>
  wpAny_Compare1 (h H vr s _ i fun x s1 a H1 ρ1 l1 i1 r1 h1 => h1 H1 vr s1 _ i1 fun y s2 b H2 ρ2 l2 i2 r2 h2 => h2 H2 ρ2 vr s2 x y K i2 (r1.mono l2) r2 (k.cmp (l1.trans l2))) hm
theorem tr_cmp {op : CmpOp} (h : Ev cx l ρ fun a ρ₁ => Ev cx r ρ₁ fun b ρ₂ => Cmp cx op a b fun v => Qb v ρ₂) (hm : behindInMarks op r = false := by with_unfolding_all rfl) : Tr cx (.Compare l [op] [r] pos) ρ Qb := fun H vr s K i k =>
  wpAny_isTrue_Compare1 (h H vr s _ i fun x s1 a H1 ρ1 l1 i1 r1 h1 => h1 H1 vr s1 _ i1 fun y s2 b H2 ρ2 l2 i2 r2 h2 => h2 H2 ρ2 vr s2 x y _ i2 (r1.mono l2) r2 fun c s3 H3 l3 i3 q => wpAny_truthy_bool (k c s3 H3 ρ2 (l1.trans (l2.trans l3)) i3 q)) hm
theorem tr_not (h : Tr cx e ρ fun b ρ₁ => Qb (!b) ρ₁) : Tr cx (.UnaryOp .Not e pos) ρ Qb := fun H vr s K i k => wpAny_isTrue_Not (h H vr s _ i fun b s1 H1 ρ1 l1 i1 q => k _ s1 H1 ρ1 l1 i1 q)
theorem tr_value (h : Ev cx e ρ fun a ρ₁ => Tru cx a fun b => Qb b ρ₁) (he : isTrue e cx.env (eval e cx.env) = (do let v ← eval e cx.env; standAt e.pos; holding [v] (truthy v)) := by rfl) : Tr cx e ρ Qb := fun H vr s K i k =>
  wpAny_isTrue_value (h H vr s _ i fun x s1 a H1 ρ1 l1 i1 r1 h1 => h1 H1 ρ1 vr s1 x K i1 r1 (k.op l1)) he
theorem tr_boolop {op : BoolOp} (h : TrAll cx op es ρ Qb) : Tr cx (.BoolOp op es pos) ρ Qb := fun H vr s K i k => wpAny_isTrue_BoolOp (h H vr s K i k)
theorem and_nil (h : Qb true ρ) : TrAll cx .And [] ρ Qb := fun H vr s K i k => wpAny_allTrue_And_nil (k _ s H ρ .rfl i h)
theorem or_nil (h : Qb false ρ) : TrAll cx .Or [] ρ Qb := fun H vr s K i k => wpAny_allTrue_Or_nil (k _ s H ρ .rfl i h)
/-- which way a test goes -/
noncomputable def Way (c : Bool) (A B : Prop) : Prop := c.rec B A
theorem and_cons (h : Tr cx e ρ fun b ρ₁ => Way b (TrAll cx .And es ρ₁ Qb) (Qb false ρ₁)) : TrAll cx .And (e :: es) ρ Qb := fun H vr s K i k =>
  wpAny_allTrue_And_cons (h H vr s _ i fun b s1 H1 ρ1 l1 i1 h1 => by
    cases b with
    | true => exact (show TrAll cx .And es ρ1 Qb from h1) H1 vr s1 _ i1 (k.le l1)
    | false => exact k _ s1 H1 ρ1 l1 i1 h1)
theorem or_cons (h : Tr cx e ρ fun b ρ₁ => Way b (Qb true ρ₁) (TrAll cx .Or es ρ₁ Qb)) : TrAll cx .Or (e :: es) ρ Qb := fun H vr s K i k =>
  wpAny_allTrue_Or_cons (h H vr s _ i fun b s1 H1 ρ1 l1 i1 h1 => by
    cases b with
    | true => exact k _ s1 H1 ρ1 l1 i1 h1
    | false => exact (show TrAll cx .Or es ρ1 Qb from h1) H1 vr s1 _ i1 (k.le l1))
theorem ev_ifexp {t a b : Expr} (h : Tr cx t ρ fun c ρ₁ => Way c (Ev cx a ρ₁ Q) (Ev cx b ρ₁ Q)) : Ev cx (.IfExp t a b pos) ρ Q := fun H vr s K i k =>
  wpAny_IfExp (h H vr s _ i fun c s1 H1 ρ1 l1 i1 h1 => by
    cases c with
    | true => exact (show Ev cx a ρ1 Q from h1) H1 vr s1 K i1 (k.le l1)
    | false => exact (show Ev cx b ρ1 Q from h1) H1 vr s1 K i1 (k.le l1))
theorem f_ifexp {t a b : Expr} (h : Tr cx t ρ fun c ρ₁ => Way c (EvF cx a ρ₁ Qs) (EvF cx b ρ₁ Qs)) : EvF cx (.IfExp t a b pos) ρ Qs := fun H vr s K i k =>
  wpAny_IfExp (h H vr s _ i fun c s1 H1 ρ1 l1 i1 h1 => by
    cases c with
    | true => exact (show EvF cx a ρ1 Qs from h1) H1 vr s1 K i1 (k.le l1)
    | false => exact (show EvF cx b ρ1 Qs from h1) H1 vr s1 K i1 (k.le l1))

theorem evs_nil (h : Qs [] ρ) : Evs cx pos [] ρ Qs := fun H vr s K i k => wpAny_items_nil (k _ s _ H ρ .rfl i .nil h)
theorem evs_cons (h : Ev cx e ρ fun v ρ₁ => Evs cx pos es ρ₁ fun vs ρ₂ => Qs (v :: vs) ρ₂) (he : starEach (e :: es) cx.env = (false, eval e cx.env) :: starEach es cx.env := by rfl) : Evs cx pos (e :: es) ρ Qs := fun H vr s K i k =>
  wpAny_items_cons (h H vr s _ i fun x s1 a H1 ρ1 l1 i1 r1 h1 => h1 H1 vr s1 _ i1 fun xs s2 vs H2 ρ2 l2 i2 r2 q => k _ s2 _ H2 ρ2 (l1.trans l2) i2 (.cons (r1.mono l2) r2) q) he
theorem len1000 {H : HF} {xs : List Value} (r : Reps H xs vs) (hl : vs.length ≤ 1000) : xs.length ≤ sizeLine := r.length ▸ Nat.le_trans hl (by decide)
theorem ev_tuple {k : Nat} (h : Evs cx pos es ρ fun vs ρ₁ => vs.length ≤ 1000 ∧ Q (.tup vs) ρ₁) : Ev cx (.Tuple es k pos) ρ Q := fun H vr s K i kk =>
  wpAny_Tuple (h H vr s _ i fun xs s1 vs H1 ρ1 l1 i1 r1 h1 => ⟨len1000 r1 h1.1, i1.alloc (o := tupO xs 0) rfl fun H2 l2 i2 e => kk _ _ _ H2 ρ1 (l1.trans l2) i2 (.tup e (r1.mono l2)) h1.2⟩)
theorem FreshR.push (i : Inv cx H ρ vr s) {its : List Value} (r : Reps H its vs) : FreshR cx H ρ vr (s.heap.push (lstO its 0)) (.ref s.heap.objs.size) vs :=
  have o := Off.new i
  ⟨_, rfl, ⟨its, 0, o.F, o.H, Heap.get?_push_size _ rfl, r⟩, o.O⟩
theorem f_list (h : Evs cx pos es ρ fun vs ρ₁ => vs.length ≤ 1000 ∧ Qs vs ρ₁) : EvF cx (.List es pos) ρ Qs := fun H vr s K i kk =>
  wpAny_List (h H vr s _ i fun xs s1 vs H1 ρ1 l1 i1 r1 h1 => ⟨len1000 r1 h1.1, kk _ _ vs H1 ρ1 l1 (i1.push _) (.push i1 r1) h1.2⟩)

-- statements
variable {st : Stmt} {sts : List Stmt}
theorem ex_nil (h : Qn ρ) : Ex cx [] ρ Qn Qr := fun H vr s K i kn kr => wpAny_execs_nil (kn s H ρ vr .rfl i h)
theorem ex_cons (h : Ex1 cx st ρ (fun ρ₁ => Ex cx sts ρ₁ Qn Qr) Qr) : Ex cx (st :: sts) ρ Qn Qr := fun H vr s K i kn kr =>
  wpAny_execs_cons (h H vr s _ i (fun s1 H1 ρ1 vr1 l1 i1 h1 => h1 H1 vr1 s1 K i1 (kn.le l1) (kr.le l1)) kr)
theorem ex_if {t : Expr} {a b : List Stmt} (h : Tr cx t ρ fun c ρ₁ => Way c (Ex cx a ρ₁ Qn Qr) (Ex cx b ρ₁ Qn Qr)) : Ex1 cx (.If t a b pos) ρ Qn Qr := fun H vr s K i kn kr =>
  wpAny_If (h H vr s _ i fun c s1 H1 ρ1 l1 i1 h1 => by
    cases c with
    | true => exact (show Ex cx a ρ1 Qn Qr from h1) H1 vr s1 K i1 (kn.le l1) (kr.le l1)
    | false => exact (show Ex cx b ρ1 Qn Qr from h1) H1 vr s1 K i1 (kn.le l1) (kr.le l1))
theorem ex_return (h : Ev cx e ρ fun v ρ₁ => Qr (.val v) ρ₁) : Ex1 cx (.Return (some e) pos) ρ Qn Qr := fun H vr s K i kn kr =>
  wpAny_Return_some (h H vr s _ i fun x s1 v H1 ρ1 l1 i1 r1 q => kr x s1 (.val v) H1 ρ1 vr l1 i1 r1 q)
theorem ex_returnF (h : EvF cx e ρ fun v ρ₁ => Qr (.fresh v) ρ₁) : Ex1 cx (.Return (some e) pos) ρ Qn Qr := fun H vr s K i kn kr =>
  wpAny_Return_some (h H vr s _ i fun x s1 v H1 ρ1 l1 i1 r1 q => kr x s1 (.fresh v) H1 ρ1 vr l1 i1 r1 q)
theorem Ex1.cut {Qn' : Env' → Prop} (h : Ex1 cx st ρ Qn' Qr) (hq : ∀ ρ, Qn' ρ → Qn ρ) : Ex1 cx st ρ Qn Qr := fun H vr s K i kn kr => h H vr s K i (fun s H' ρ' vr' l i q => kn s H' ρ' vr' l i (hq ρ' q)) kr

/-- a name is bound, and on -/
inductive Bind (ns : Names) (b : Bool) (x : Str) (sl : Slot) (ρ : Env') (Q : Env' → Prop) : Prop
  | mk (j : Nat) (k : NameKind) (hn : ns[j]? = some (x, k)) (hk : storeK b k = true) (q : Q (ρ.set j (some sl)))
theorem bind_store (c : Here cx g d ns b) {sl : Slot} {y : Value} (i : Inv cx H ρ vr s) (h : Bind ns b x sl ρ Qn) (r : BindR cx H ρ vr s.heap y sl) {P : Unit → Shared → Prop} (hp : ∀ s' ρ' vr', Inv cx H ρ' vr' s' → Qn ρ' → P () s') : Go cx (storeName cx.env x y) P s := by
  obtain ⟨j, k, hn, hk, q⟩ := h
  exact i.store c.ok (c.names.symm ▸ hn) r (c.wr.symm ▸ hk) fun s2 i2 _ => hp s2 _ _ i2 q
theorem x_assign (c : Here cx g d ns b) {pos' : Pos} (h : Ev cx e ρ fun v ρ₁ => Bind ns b x (.val v) ρ₁ Qn) (hs : swapsWith e (some (.Name x pos')) pos.line cx.env = pure false := by rfl) : Ex1 cx (.Assign [.Name x pos'] e pos) ρ Qn Qr := fun H vr s K i kn kr =>
  wpAny_Assign_Name (h H vr s _ i fun y s1 v H1 ρ1 l1 i1 r1 q => bind_store c i1 q r1 fun s2 ρ2 vr2 i2 q => kn s2 H1 ρ2 vr2 l1 i2 q) hs
theorem x_assignF (c : Here cx g d ns b) {pos' : Pos} (h : EvF cx e ρ fun v ρ₁ => Bind ns b x (.own v) ρ₁ Qn) (hs : swapsWith e (some (.Name x pos')) pos.line cx.env = pure false := by rfl) : Ex1 cx (.Assign [.Name x pos'] e pos) ρ Qn Qr := fun H vr s K i kn kr =>
  wpAny_Assign_Name (h H vr s _ i fun y s1 v H1 ρ1 l1 i1 r1 q => bind_store c i1 q r1 fun s2 ρ2 vr2 i2 q => kn s2 H1 ρ2 vr2 l1 i2 q) hs
theorem x_expr (c : Here cx g d ns b) (h : Ev cx e ρ fun v ρ₁ => v = .none ∧ Qn ρ₁) (hs : swapsWith e none pos.line cx.env = pure false := by rfl) : Ex1 cx (.Expr e pos) ρ Qn Qr := fun H vr s K i kn kr =>
  wpAny_Expr (h H vr s _ i fun x s1 v H1 ρ1 l1 i1 r1 q => by
    have r2 : Rep H1 x .none := q.1 ▸ r1
    refine r2.onNone ?_
    exact kn s1 H1 ρ1 vr l1 i1 q.2) (by show (cx.env.scope.kind == .module && _) = false; rw [c.ok.fkind]; rfl) hs
end
end Mine

end
section
-- D4
open PySem PySem.W PySem.Calls PyProof.Rows
set_option Elab.async false
set_option linter.unusedVariables false
set_option maxRecDepth 100000
set_option genInjectivity false
set_option genSizeOfSpec false
namespace Mine

open Classical in
/-- all that stands, but for S and for what is frozen already, is frozen -/
noncomputable def stillF (S : Addr → Prop) (H : HF) (h : Heap) : HF := fun a => if S a ∨ H a ≠ none then none else h.get? a
section
variable {S : Addr → Prop} {H H' : HF} {h : Heap} {a : Addr} {o : Obj} {cx : Cx} {ρ : Env'} {vr : Str → Option Value} {s : Shared}
theorem still_of (hS : ¬ S a) (hH : H a = none) : stillF S H h a = h.get? a := if_neg fun q => q.elim hS fun q => q hH
theorem still_get (e : stillF S H h a = some o) : ¬ S a ∧ H a = none ∧ h.get? a = some o := by
  by_cases hS : S a ∨ H a ≠ none
  · rw [stillF, if_pos hS] at e; cases e
  · rw [stillF, if_neg hS] at e; exact ⟨fun q => hS (.inl q), Classical.byContradiction fun q => hS (.inr q), e⟩
theorem still_not (hS : S a) : stillF S H h a = none := if_pos (.inl hS)
theorem still_none (hn : stillF S H h a = none) (hS : ¬ S a) (hH : H a = none) : h.get? a = none := still_of hS hH ▸ hn

/-- a frame after something else has run: what stood, but for S, stands still -/
theorem Inv.after (i : Inv cx H ρ vr s) {s' : Shared} (hg : s'.gens = cx.g) (ho : s'.os = cx.os) (hS : ∀ a, S a → Off cx H ρ vr a) (l : H.le H') (hk : ∀ a o, H' a = some o → s'.heap.get? a = some o)
    (hF : ∀ a o, stillF S H s.heap a = some o → s'.heap.get? a = some o ∧ H' a = none) : Inv cx H' ρ vr s' :=
  have old : ∀ {a o}, s.heap.get? a = some o → H a = none → ¬ Off cx H ρ vr a → s'.heap.get? a = some o ∧ H' a = none := fun {a o} e q n => hF a o ((still_of (fun z => n (hS a z)) q).trans e)
  { gens := hg
    drawn := i.drawn
    os := ho
    keepF := fun a o e => (old (i.keepF a o e) (i.FH a o e) fun q => by rw [q.F] at e; cases e).1
    keepH := hk
    FH := fun a o e => (old (i.keepF a o e) (i.FH a o e) fun q => by rw [q.F] at e; cases e).2
    ns := by
      obtain ⟨m, ⟨o, es, ep, g1, g2⟩, hm⟩ := i.ns
      exact ⟨m, ⟨o, es, ep, (old g1 i.offL.2 fun q => q.L rfl).1, g2⟩, hm⟩
    cell := fun y c hy => by
      obtain ⟨o, g1, g2⟩ := i.cell y c hy
      exact ⟨o, (old g1 (i.offC y c hy).1 fun q => q.C y hy).1, g2⟩
    cellsApart := i.cellsApart
    offL := ⟨i.offL.1, by
      obtain ⟨m, ⟨o, es, ep, g1, g2⟩, hm⟩ := i.ns
      exact (old g1 i.offL.2 fun q => q.L rfl).2⟩
    offC := fun y c hy => ⟨by
      obtain ⟨o, g1, g2⟩ := i.cell y c hy
      exact (old g1 (i.offC y c hy).1 fun q => q.C y hy).2, (i.offC y c hy).2⟩
    len := i.len
    vars := fun j y k sl h1 h2 => by
      have r := i.vars j y k sl h1 h2
      cases sl with
      | val v => exact r.imp fun x q => ⟨q.1, q.2.mono l⟩
      | own vs =>
        obtain ⟨a, e, o⟩ := r
        have := fun ob (q : s.heap.get? a = some ob) => old q o.off.2 fun z => z.O ⟨j, y, k, vs, h1, h2, e⟩
        exact ⟨a, e, o.mono l (o.rec fun its n f g q r => (this _ q).2) fun ob q => (this ob q).1⟩
    own1 := i.own1 }
/-- the slots of a frame are told anew: values alone -/
theorem Inv.reenv (i : Inv cx H ρ vr s) {ρ' : Env'} (hl : ρ'.length = cx.names.length) (hv : ∀ (j : Nat) x k sl, cx.names[j]? = some (x, k) → ρ'[j]? = some (some sl) → ∃ v, sl = .val v ∧ ∃ y, vr x = some y ∧ Rep H y v) : Inv cx H ρ' vr s :=
  { i with
    len := hl
    vars := fun j x k sl h1 h2 => by
      obtain ⟨v, rfl, r⟩ := hv j x k sl h1 h2
      exact r
    own1 := fun j1 j2 a ⟨x, k, ws, hn, hr, _⟩ => by
      obtain ⟨v, e, _⟩ := hv j1 x k _ hn hr
      cases e }
/-- a list that stands apart becomes the frame's own -/
theorem Inv.take (ok : cx.Ok) (i : Inv cx H ρ vr s) {j : Nat} {x : Str} {k : NameKind} {ws : List V} (hj : cx.names[j]? = some (x, k)) (hv : vr x = some (.ref a)) (o : OwnL cx.F H s.heap a ws) (n : ¬ OwnA cx (ρ.set j none) vr a) : Inv cx H (ρ.set j (some (.own ws))) vr s :=
  i.move ok hj (h' := s.heap) (t := s.toks) (fun _ _ => rfl) i.drawn (fun sl e => by cases e; exact ⟨a, hv, o⟩) (fun vs b e hb => by rw [hv] at hb; cases hb; exact n) (fun b o e _ => e) i.ns i.cell
end

theorem lookup_of_nodup {α : Type} {x : Str} {k : α} : ∀ {ns : List (Str × α)}, (ns.map (·.1)).Nodup → (x, k) ∈ ns → ns.lookup x = some k := fun {ns} => by
  induction ns with
  | nil => exact fun _ h => nomatch h
  | cons p ns ih =>
    intro hn hm
    rw [List.map_cons, List.nodup_cons] at hn
    rw [List.lookup_cons]
    rcases List.mem_cons.mp hm with e | hm'
    · rw [← e, show (x == x) = true from beq_self_eq_true x]
    · rw [beq_eq_false_iff_ne.mpr (show x ≠ p.1 from fun q => hn.1 (by rw [← q]; exact List.mem_map_of_mem (f := (·.1)) hm'))]
      exact ih hn.2 hm'
theorem cellsFrom_mem {x : Str} {c : Addr} : ∀ (names : Names) (n : Nat) (acc : List (Str × Addr)), (x, c) ∈ cellsFrom n names acc → (x, c) ∈ acc ∨ (x, NameKind.cell) ∈ names := fun names => by
  induction names with
  | nil => exact fun _ _ h => .inl h
  | cons p r ih =>
    intro n acc h
    unfold cellsFrom at h
    by_cases hk : (p.2 == NameKind.cell) = true
    · rw [if_pos hk] at h
      rcases ih _ _ h with h | h
      · rcases List.mem_cons.mp h with e | h
        · cases e; exact .inr (by rw [← show p.2 = .cell by simpa using hk]; exact .head _)
        · exact .inl h
      · exact .inr (.tail _ h)
    · rw [if_neg hk] at h
      exact (ih _ _ h).imp id fun h => .tail _ h
section
variable {kindOf : Str → Option NameKind} {x : Str}
theorem bindL_at (hk : kindOf x = some .local) : ∀ (binds : List (Str × Value)) (m : Str → Option Value), (∀ v, (x, v) ∉ binds) → bindL kindOf binds m x = m x := fun binds => by
  induction binds with
  | nil => exact fun _ _ => rfl
  | cons p r ih =>
    intro m h
    unfold bindL
    rw [ih _ fun v hv => h v (.tail _ hv)]
    by_cases hp : kindOf p.1 = some .local
    · rw [if_pos hp]; exact if_neg (show x ≠ p.1 from fun q => h p.2 (by rw [q]; exact .head _))
    · rw [if_neg hp]
theorem bindC_at : ∀ (binds : List (Str × Value)) (m : Str → Option Value), (∀ v, (x, v) ∉ binds) → bindC kindOf binds m x = m x := fun binds => by
  induction binds with
  | nil => exact fun _ _ => rfl
  | cons p r ih =>
    intro m h
    unfold bindC
    rw [ih _ fun v hv => h v (.tail _ hv)]
    by_cases hp : kindOf p.1 = some .local
    · rw [if_pos hp]
    · rw [if_neg hp]; exact if_neg (show x ≠ p.1 from fun q => h p.2 (by rw [q]; exact .head _))
theorem binds_val {v : Value} : ∀ (ps : List Str) (xs : List Value) (m cm : Str → Option Value), ps.Nodup → ∀ (i : Nat), ps[i]? = some x → xs[i]? = some v →
    (if kindOf x = some .local then bindL kindOf (ps.zip xs) m x else bindC kindOf (ps.zip xs) cm x) = some v := fun ps => by
  induction ps with
  | nil => exact fun _ _ _ _ _ h => nomatch h
  | cons p ps ih =>
    intro xs m cm hn i h1 h2
    cases xs with
    | nil => cases h2
    | cons y xs =>
      rw [List.nodup_cons] at hn
      rw [List.zip_cons_cons]
      unfold bindL bindC
      cases i with
      | zero =>
        cases h1; cases h2
        have hno : ∀ v, (x, v) ∉ ps.zip xs := fun v hv => hn.1 (List.of_mem_zip hv).1
        by_cases hk : kindOf x = some .local
        · rw [if_pos hk, bindL_at hk _ _ hno, if_pos hk]; exact if_pos rfl
        · rw [if_neg hk, bindC_at _ _ hno, if_neg hk]; exact if_pos rfl
      | succ i => exact ih xs _ _ hn.2 i h1 h2
end

noncomputable def namesOk (n : Nat) (ns : Names) : Bool := (ns.all fun p => (p.2 == .local || p.2 == .cell || p.2 == .globalImplicit) && !(p.1 == ("__debug__" : Str))) && (ns.take n).all fun p => p.2 == .local || p.2 == .cell
/-- what is to be known of a def -/
structure FnOk (g : Gl) (f : Addr) (fd : FuncData) (n : Nat) (body : List Stmt) : Prop where
  obj : ∃ oc od osl, g.K.lookup f = some ⟨oc, od, .func fd, osl⟩
  code : codeIn g.K fd.code fd.qualname = true
  bind : ∀ xs : List Value, xs.length = n → bindArgs fd ⟨xs, []⟩ = pure ((fd.scope.names.map (·.1)).zip xs)
  names : namesOk n fd.scope.names = true
  nodup : (fd.scope.names.map (·.1)).Nodup
  body : fd.body = .stmts body
  clo : fd.closure = []
  co : fd.scope.isCoroutine = false
  gen : fd.scope.isGenerator = false
  kind : fd.scope.kind = .function
  glob : fd.globals = mainGlobals
  built : fd.builtins = builtinsNs
/-- the frame of a def that is called, and its ground -/
noncomputable def calleeCx (cx : Cx) (H : HF) (s : Shared) (fd : FuncData) (f : Addr) (S : Addr → Prop) (ns : Names) (pin : Option (Str × Addr)) : Cx :=
  { cx with A := cx.A.deeper (callEnvC fd s.heap.objs.size f), env := callEnvC fd s.heap.objs.size f, names := ns, F := stillF S H s.heap, d := cx.d - 1, wr := true, pin := pin, kept := [] }
/-- the names as the frame sees them: the first one may be lent -/
noncomputable def lentNames (pin : Option (Str × Addr)) : Names → Names
  | [] => []
  | p :: r => (p.1, if pin.isSome then .globalExplicit else p.2) :: r
/-- the lent list, if there is one, stands under the first name, which is local -/
noncomputable def PinOk (pin : Option (Str × Addr)) (ns : Names) : Prop := ∀ x a, pin = some (x, a) → ∃ r, ns = (x, .local) :: r

section
variable {cx : Cx} {g : Gl} {d n : Nat} {H : HF} {ρ : Env'} {vr : Str → Option Value} {s : Shared} {fd : FuncData} {f : Addr} {S : Addr → Prop} {pin : Option (Str × Addr)} {body : List Stmt}
theorem FnOk.lk (F : FnOk g f fd n body) {x : Str} {k : NameKind} (hm : (x, k) ∈ fd.scope.names) : fd.scope.names.lookup x = some k := lookup_of_nodup F.nodup hm
theorem lent_fst (ns : Names) : (lentNames pin ns).map (·.1) = ns.map (·.1) := by cases ns <;> rfl
theorem lent_mem {ns : Names} {x : Str} {k : NameKind} (h : (x, k) ∈ lentNames pin ns) : (x, k) ∈ ns ∨ k = .globalExplicit ∧ ∃ k', (x, k') ∈ ns := by
  cases ns with
  | nil => cases h
  | cons p r =>
    rcases List.mem_cons.mp h with e | h
    · cases pin with
      | none => exact .inl (e ▸ .head _)
      | some q => cases e; exact .inr ⟨rfl, p.2, .head _⟩
    · exact .inl (.tail _ h)
theorem callee_ok (F : FnOk g f fd n body) (ok : cx.Ok) (i : Inv cx H ρ vr s) (hS : ∀ a, S a → cx.F a = none) (hd : 0 < cx.d) (hp : PinOk pin fd.scope.names) : (calleeCx cx H s fd f S (lentNames pin fd.scope.names) pin).Ok := by
  have hall := List.all_eq_true.mp (Bool.and_eq_true_iff.mp F.names).1
  have up : ∀ {x k}, k ≠ NameKind.globalExplicit → (x, k) ∈ lentNames pin fd.scope.names → (x, k) ∈ fd.scope.names := fun hne hm => (lent_mem hm).resolve_right fun q => hne q.1
  refine ⟨ok.handled, ?_, ?_, F.kind, F.glob, F.built, fun h hh => ok.base h fun a o e => hh a o ?_, fun x hm => F.lk (up (by decide) hm), fun x hm => ⟨F.lk (up (by decide) hm), ?_⟩, fun x hm => ?_, fun x hm => F.lk (up (by decide) hm), fun x c hc => ?_, (congrArg List.Nodup (lent_fst (pin := pin) fd.scope.names)).mpr F.nodup, fun x k hm => ?_, fun x a e => ?_, (fun x _ h => nomatch h)⟩
  · have := ok.depth
    show cx.A.depth + 1 + 4 * (cx.d - 1) + 4 < recursionLimit
    lia
  · have := ok.units
    show cx.A.units + 3 + 12 * (cx.d - 1) + 140 < cLine
    lia
  · exact (still_of (fun q => by rw [hS a q] at e; cases e) (i.FH a o e)).trans (i.keepF a o e)
  · exact Option.isSome_iff_exists.mp (cellsFrom_some _ _ _ (.inl (F.lk (up (by decide) hm))))
  · have := hall _ (up (by decide) hm)
    cases this
  · rcases cellsFrom_mem _ _ _ (PySem.mem_of_lookup hc) with h | h
    · nomatch h
    · show fd.scope.names.lookup x ≠ some .local
      rw [F.lk h]; exact fun e => nomatch e
  · have key : ∀ k, (x, k) ∈ fd.scope.names → (x == ("__debug__" : Str)) = false := fun k hm => by
      have := (Bool.and_eq_true_iff.mp (hall _ hm)).2
      rwa [Bool.not_eq_true'] at this
    rcases lent_mem hm with h | ⟨_, k', h⟩
    · exact key k h
    · exact key k' h
  · obtain ⟨r, h⟩ := hp x a e
    subst e
    exact ⟨h ▸ .head _, F.lk (h ▸ .head _)⟩

/-- a call enters a def: its frame with no slots yet; and the way back -/
theorem enter (F : FnOk g f fd n body) (hc : cx.In g (d + 1)) (i : Inv cx H ρ vr s) {xs : List Value} (hl : xs.length = n) (hS : ∀ a, S a → Off cx H ρ vr a ∧ s.heap.get? a ≠ none) (hp : PinOk pin fd.scope.names) (hpx : ∀ x a, pin = some (x, a) → xs[0]? = some (.ref a)) {R : Result → Shared → Prop}
    (h : ∀ cx' s₁ vr₁, cx'.In g d → cx'.names = lentNames pin fd.scope.names → cx'.wr = true → cx'.pin = pin → cx'.env.scope = fd.scope → cx'.F = stillF S H s.heap → (∀ (j : Nat) x k v, fd.scope.names[j]? = some (x, k) → xs[j]? = some v → vr₁ x = some v) →
      Inv cx' H (fd.scope.names.map fun _ => none) vr₁ s₁ → (∀ a o, s.heap.get? a = some o → s₁.heap.get? a = some o) → (∀ a, S a → ∀ ρ', (∀ j, ¬ OwnAt cx' ρ' vr₁ j a) → Off cx' H ρ' vr₁ a) →
      (∀ H' ρ' vr' s', H.le H' → Inv cx' H' ρ' vr' s' → Inv cx H' ρ vr s') → Go cx' (execs body cx'.env) (fun f s' => R (.ok (.ret (match f with | .ret v => v | _ => .none))) s') s₁) :
    codeAny (model cx.prog cx.w) cx.A (.call (.ref f) ⟨xs, []⟩) R s := by
  have ok := hc.ok
  have B := ok.base s.heap i.keepF
  obtain ⟨oc, od, osl, ho⟩ := F.obj
  refine codeAny_call_cells (fd := fd) (body := body) (by have := ok.depth; lia) (B.k _ _ (by rw [hc.K]; exact ho)) rfl B.lim (codeRec_of (K := g.K) (hc.K ▸ B.k) F.code) F.body (F.bind xs hl) F.clo (fun y hy => ?_) (fun s₁ x => ?_) F.co F.gen F.kind
  · have hy' : ∃ k, (y.1, k) ∈ fd.scope.names ∧ (k = .local ∨ k = .cell) := by
      obtain ⟨j, hj⟩ := List.getElem?_of_mem hy
      obtain ⟨h1, h2⟩ := List.getElem?_zip_eq_some.mp (show ((fd.scope.names.map (·.1)).zip xs)[j]? = some (y.1, y.2) from hj)
      rw [List.getElem?_map] at h1
      obtain ⟨p, e1, e2⟩ := Option.map_eq_some_iff.mp h1
      have hjn : j < n := hl ▸ (List.getElem?_eq_some_iff.mp h2).1
      have := List.all_eq_true.mp (Bool.and_eq_true_iff.mp F.names).2 p (List.mem_of_getElem? ((List.getElem?_take_of_lt hjn).trans e1))
      exact ⟨p.2, e2 ▸ List.mem_of_getElem? e1, by simpa using this⟩
    obtain ⟨k, hm, rfl | rfl⟩ := hy'
    · exact .inl (F.lk hm)
    · exact .inr ⟨F.lk hm, cellsFrom_some _ _ _ (.inl (F.lk hm))⟩
  · have hcx : (calleeCx cx H s fd f S (lentNames pin fd.scope.names) pin).In g d :=
      ⟨callee_ok F ok i (fun a q => (hS a q).1.F) (Nat.lt_of_lt_of_le (Nat.succ_pos d) hc.d) hp, hc.prog, hc.w, hc.K, by have := hc.d; show d ≤ cx.d - 1; lia⟩
    obtain ⟨h₁, tk₁, e₁⟩ := x.toInCall.same
    have hnew : ∀ a, s.heap.objs.size ≤ a → stillF S H s.heap a = none ∧ H a = none := fun a ha => by
      have hn : s.heap.get? a = none := by
        cases q : s.heap.get? a with
        | none => rfl
        | some o => exact absurd (Heap.lt_size q) (Nat.not_lt.mpr ha)
      exact ⟨none_of_le (F' := s.heap.get?) (fun a o e => (still_get e).2.2) hn, none_of_le (F' := s.heap.get?) i.keepH hn⟩
    have hv : ∀ (j : Nat) y k v, fd.scope.names[j]? = some (y, k) → xs[j]? = some v → (if (callEnvC fd s.heap.objs.size f).kindOf y = some .local then bindL (callEnvC fd s.heap.objs.size f).kindOf ((fd.scope.names.map (·.1)).zip xs) (fun _ => none) y else bindC (callEnvC fd s.heap.objs.size f).kindOf ((fd.scope.names.map (·.1)).zip xs) (fun _ => none) y) = some v :=
      fun j y k v h1 h2 => binds_val _ _ _ _ F.nodup j (by rw [List.getElem?_map, h1]; rfl) h2
    have off : ∀ (j : Nat) sl, (fd.scope.names.map fun _ => (none : Option Slot))[j]? ≠ some (some sl) := fun j sl e => by
      rw [List.getElem?_map] at e
      obtain ⟨_, _, e⟩ := Option.map_eq_some_iff.mp e
      cases e
    refine wpAny_mono (h (calleeCx cx H s fd f S (lentNames pin fd.scope.names) pin) s₁ (fun y => if (callEnvC fd s.heap.objs.size f).kindOf y = some .local then bindL (callEnvC fd s.heap.objs.size f).kindOf ((fd.scope.names.map (·.1)).zip xs) (fun _ => none) y else bindC (callEnvC fd s.heap.objs.size f).kindOf ((fd.scope.names.map (·.1)).zip xs) (fun _ => none) y)
      hcx rfl rfl rfl rfl rfl hv ?_ x.toInCall.keep (fun a q ρ' hO => ?_) fun H' ρ' vr' s' l j => ?_) (fun _ _ q => q) fun _ _ e => e.elim
    · refine ⟨by rw [e₁]; exact i.gens, fun y a e => ?_, by rw [e₁]; exact i.os, fun a o e => x.toInCall.keep a o (still_get e).2.2, fun a o e => x.toInCall.keep a o (i.keepH a o e), fun a o e => (still_get e).2.1, ⟨_, x.toInCall.ns, fun y hy => (if_pos hy).symm⟩, fun y c hy => ?_,
        fun y z c h1 h2 => name_of_addr x.apart (PySem.mem_of_lookup h1) (PySem.mem_of_lookup h2), hnew _ (Nat.le_refl _), fun y c hy => ?_, ?_, fun j y k sl _ h2 => absurd h2 (off j sl), fun j1 j2 a ⟨_, _, _, _, h2, _⟩ => absurd h2 (off j1 _)⟩
      · obtain ⟨r, hr⟩ := hp y a e
        exact hv 0 y .local _ (by rw [hr]; rfl) (hpx y a e)
      · show s₁.heap.IsCell c (if _ then _ else _)
        rw [if_neg (show (callEnvC fd s.heap.objs.size f).kindOf y ≠ some .local from hcx.ok.cellKind y c hy)]; exact x.cell y c hy
      · have := hnew c (Nat.le_of_lt (x.above y c (PySem.mem_of_lookup hy)))
        exact ⟨this.2, fun _ => this.1⟩
      · show _ = (lentNames pin fd.scope.names).length
        rw [List.length_map]
        have := congrArg List.length (lent_fst (pin := pin) fd.scope.names)
        rw [List.length_map, List.length_map] at this
        exact this.symm
    · have lt : a < s.heap.objs.size := by
        cases e : s.heap.get? a with
        | none => exact absurd e (hS a q).2
        | some o => exact Heap.lt_size e
      exact ⟨still_not q, (hS a q).1.H, Nat.ne_of_lt lt, fun y e => Nat.lt_irrefl a (Nat.lt_trans lt (x.above y a (PySem.mem_of_lookup e))), fun ⟨j, o⟩ => hO j o⟩
    · exact i.after j.gens j.os (fun a q => (hS a q).1) l j.keepH fun a o e => ⟨j.keepF a o e, j.FH a o e⟩

/-- a def's promise: called with these values, from any frame with room for d frames, it hands back what Q tells -/
noncomputable def KF' (cx : Cx) (H : HF) (ρ : Env') (vr : Str → Option Value) (Q : R → Prop) (K : Result → Shared → Prop) : Prop := ∀ x s r H', H.le H' → Inv cx H' ρ vr s → RRep cx H' ρ vr s.heap x r → Q r → K (.ok (.ret x)) s
noncomputable def Fn (g : Gl) (d : Nat) (f : Addr) (vs : List V) (Q : R → Prop) : Prop :=
  ∀ cx : Cx, cx.In g d → ∀ H ρ vr s xs K, Inv cx H ρ vr s → Reps H xs vs → KF' cx H ρ vr Q K → codeAny (model cx.prog cx.w) cx.A (.call (.ref f) ⟨xs, []⟩) K s
theorem Fn.mono {d' : Nat} {vs : List V} {Q Q' : R → Prop} (h : Fn g d f vs Q) (hd : d ≤ d') (hq : ∀ r, Q r → Q' r) : Fn g d' f vs Q' :=
  fun cx hc H ρ vr s xs K i r k => h cx { hc with d := Nat.le_trans hd hc.d } H ρ vr s xs K i r fun x s r H' l i rr q => k x s r H' l i rr (hq r q)

/-- the slots at the start -/
noncomputable def initEnv : Names → List V → Env'
  | [], _ => []
  | _ :: ns, [] => none :: initEnv ns []
  | _ :: ns, v :: vs => some (.val v) :: initEnv ns vs
theorem init_len : ∀ (ns : Names) (vs : List V), (initEnv ns vs).length = ns.length := fun ns => by
  induction ns with
  | nil => exact fun _ => rfl
  | cons p ns ih => intro vs; cases vs <;> exact congrArg (· + 1) (ih _)
theorem init_at {sl : Slot} : ∀ (ns : Names) (vs : List V) (j : Nat), (initEnv ns vs)[j]? = some (some sl) → ∃ v, sl = .val v ∧ vs[j]? = some v := fun ns => by
  induction ns with
  | nil => exact fun _ _ h => nomatch h
  | cons p ns ih =>
    intro vs j h
    cases vs with
    | nil => cases j with
      | zero => cases h
      | succ j => exact (ih [] j h).imp fun v q => ⟨q.1, nomatch q.2⟩
    | cons v vs => cases j with
      | zero => cases h; exact ⟨v, rfl, rfl⟩
      | succ j => exact ih vs j h
theorem fn_intro {vs : List V} {Q : R → Prop} (F : FnOk g f fd vs.length body)
    (hbody : ∀ cx : Cx, Here cx g d fd.scope.names true → Ex cx body (initEnv fd.scope.names vs) (fun _ => Q (.val .none)) (fun r _ => Q r)) : Fn g (d + 1) f vs Q := by
  intro cx hc H ρ vr s xs K i r k
  refine enter F hc i r.length (S := fun _ => False) (pin := none) (fun _ q => q.elim) (fun _ _ e => nomatch e) (fun _ _ e => nomatch e) fun cx' s₁ vr₁ hc' hn hw hp he hF hv i₁ hk hO back => ?_
  have hn : cx'.names = fd.scope.names := hn.trans (by cases fd.scope.names <;> rfl)
  refine hbody cx' ⟨hc', hn, hw, fun x j h => ?_⟩ H vr₁ s₁ _ (i₁.reenv (by rw [hn, init_len]) fun j x k sl h1 h2 => ?_) (fun s' H' ρ' vr' l j q => k _ s' (.val .none) H' l (back H' ρ' vr' s' l j) (Rep.none (H := H')) q) fun x s' r H' ρ' vr' l j rr q => k x s' r H' l (back H' ρ' vr' s' l j) ?_ q
  · have := List.all_eq_true.mp (Bool.and_eq_true_iff.mp F.names).1 _ (List.mem_of_getElem? h)
    cases this
  · obtain ⟨v, e, hv'⟩ := init_at _ _ _ h2
    obtain ⟨y, hy, ry⟩ := r.get hv'
    exact ⟨v, e, y, hv j x k y (hn ▸ h1) hy, ry⟩
  · cases r with
    | val v => exact rr
    | fresh ws =>
      obtain ⟨a, e, o, n⟩ := (show FreshR cx' H' ρ' vr' s'.heap x ws from rr)
      have fr := Off.fresh i (still_none (hF ▸ o.off.1) (fun q => q) (none_of_le l o.off.2))
      exact ⟨a, e, o.ground fr.F, fr.O⟩

/-- a list of the caller's that stands apart -/
inductive AccAt (cx : Cx) (H : HF) (ρ : Env') (vr : Str → Option Value) (h : Heap) (a : Addr) (ws : List V) : Prop
  | mk (off : Off cx H ρ vr a) (o : OwnL cx.F H h a ws)
/-- what a def does that is lent a list: it hands back a value, and the list has become another -/
noncomputable def FnP (g : Gl) (d : Nat) (f : Addr) (us vs : List V) (Q : V → List V → Prop) : Prop :=
  ∀ cx : Cx, cx.In g d → ∀ H ρ vr s xs a K, Inv cx H ρ vr s → AccAt cx H ρ vr s.heap a vs → Reps H xs us →
    (∀ x s v vs' H', H.le H' → Inv cx H' ρ vr s → OwnL cx.F H' s.heap a vs' → Rep H' x v → Q v vs' → K (.ok (.ret x)) s) → codeAny (model cx.prog cx.w) cx.A (.call (.ref f) ⟨.ref a :: xs, []⟩) K s
theorem FnP.mono {d' : Nat} {us vs : List V} {Q Q' : V → List V → Prop} (h : FnP g d f us vs Q) (hd : d ≤ d') (hq : ∀ v vs', Q v vs' → Q' v vs') : FnP g d' f us vs Q' :=
  fun cx hc H ρ vr s xs a K i A r k => h cx { hc with d := Nat.le_trans hd hc.d } H ρ vr s xs a K i A r fun x s v vs' H' l i o rr q => k x s v vs' H' l i o rr (hq v vs' q)
theorem pin_intro {vs ws : List V} {Q : V → List V → Prop} {self : Str} {nt : Names} (F : FnOk g f fd (vs.length + 1) body) (hn : fd.scope.names = (self, .local) :: nt)
    (hbody : ∀ (cx : Cx) (a : Addr), Here cx g d ((self, .globalExplicit) :: nt) true → Ex cx body (some (.own ws) :: initEnv nt vs) (fun _ => False) (fun r ρ' => ∃ v ws', r = .val v ∧ ρ'[0]? = some (some (.own ws')) ∧ Q v ws')) : FnP g (d + 1) f vs ws Q := by
  intro cx hc H ρ vr s xs x K i I r k
  obtain ⟨off, its, n, o1, o2, o3, o4⟩ := I
  have hp : PinOk (some (self, x)) fd.scope.names := fun y a e => by cases e; exact ⟨nt, hn⟩
  refine enter F hc i (xs := .ref x :: xs) (congrArg (· + 1) r.length) (S := (· = x)) (fun a e => by subst e; exact ⟨off, by rw [o3]; exact fun e => nomatch e⟩) hp (fun y a e => by cases e; rfl) fun cx' s₁ vr₁ hc' hns hw hpin he hF hv i₁ hk hO back => ?_
  rw [hn] at hns i₁ hv
  have hns : cx'.names = (self, .globalExplicit) :: nt := hns
  have i₂ : Inv cx' H (none :: initEnv nt vs) vr₁ s₁ := i₁.reenv (by rw [hns]; exact congrArg (· + 1) (init_len nt vs)) fun j y k sl h1 h2 => by
    cases j with
    | zero => cases h2
    | succ j =>
      obtain ⟨v, e, hv'⟩ := init_at _ _ _ h2
      obtain ⟨z, hz, rz⟩ := r.get hv'
      rw [hns] at h1
      exact ⟨v, e, z, hv (j + 1) y k z h1 hz, rz⟩
  have hx : vr₁ self = some (.ref x) := hv 0 self .local _ rfl rfl
  have i₃ := i₂.take hc'.ok (j := 0) (by rw [hns]; rfl) hx (ws := ws) ⟨its, n, hF ▸ still_not rfl, o2, hk _ _ o3, o4⟩ fun ⟨j, y, k, us, h1, h2, _⟩ => by
    cases j with
    | zero => cases h2
    | succ j =>
      obtain ⟨v, e, _⟩ := init_at _ _ _ h2
      cases e
  refine hbody cx' x ⟨hc', hns, hw, fun y j h => ?_⟩ H vr₁ s₁ _ i₃ (fun s' H' ρ' vr' l j q => q.elim) fun y s' rv H' ρ' vr' l j rr q => ?_
  · cases j with
    | zero => cases h; exact ⟨x, hpin⟩
    | succ j =>
      have := List.all_eq_true.mp (Bool.and_eq_true_iff.mp F.names).1 (y, .globalExplicit) (hn ▸ .tail _ (List.mem_of_getElem? h))
      cases this
  obtain ⟨v, ws', rfl, e, q⟩ := q
  obtain ⟨a, ea, o⟩ := j.vars 0 self .globalExplicit _ (by rw [hns]; rfl) e
  have := j.drawn self x hpin
  rw [ea] at this
  cases this
  exact k y s' v ws' H' l (back H' ρ' vr' s' l j) (o.ground off.F) rr q
end
end Mine

end
section
-- D5
open PySem PySem.W PySem.Calls PyProof.Rows
set_option Elab.async false
set_option linter.unusedVariables false
set_option maxRecDepth 100000
set_option genInjectivity false
set_option genSizeOfSpec false
namespace Mine
noncomputable def RVal (Q : V → Prop) (r : R) : Prop := r.rec Q fun vs => Q (.lst vs)
noncomputable def RFresh (Q : List V → Prop) (r : R) : Prop := r.rec (fun _ => False) Q

section
variable {cx : Cx} {g : Gl} {d : Nat} {ns : Names} {b : Bool} {ρ : Env'} {H H₁ : HF} {vr : Str → Option Value} {s : Shared} {pos fp : Pos} {Q : V → Env' → Prop} {Qs : List V → Env' → Prop} {e : Expr} {args : List Expr} {x f : Str} {v : V} {vs : List V} {K : Value → Shared → Prop}

-- names of the file and of the language
theorem load_glob (c : Here cx g d ns b) {v : Value} (i : Inv cx H ρ vr s) (hm : (x, NameKind.globalImplicit) ∈ ns) (e : nsIn g.K mainGlobals x = some (some v)) (h : K v s) : Go cx (eval (.Name x pos) cx.env) K s := by
  obtain ⟨mg, hn, hg⟩ := (c.base i).g
  have hm' : (x, NameKind.globalImplicit) ∈ cx.names := c.names.symm ▸ hm
  exact Name_function_global c.ok.fkind (c.ok.kGlob x hm') (loadGlobal_global (by rw [c.ok.globals]; exact hn) (hg x _ e) h) (c.ok.noDebug x _ hm')
theorem load_built (c : Here cx g d ns b) {v : Value} (i : Inv cx H ρ vr s) (hm : (x, NameKind.globalImplicit) ∈ ns) (e : nsIn g.K mainGlobals x = some none) (hb : bootBuiltins x = some v) (hx : x ≠ "__name__") (h : K v s) : Go cx (eval (.Name x pos) cx.env) K s := by
  obtain ⟨mg, hn, hg⟩ := (c.base i).g
  obtain ⟨mb, hn', hb'⟩ := (c.base i).b
  have hm' : (x, NameKind.globalImplicit) ∈ cx.names := c.names.symm ▸ hm
  exact Name_function_global c.ok.fkind (c.ok.kGlob x hm') (loadGlobal_builtin (by rw [c.ok.globals]; exact hn) (hg x _ e) (by rw [c.ok.builtins]; exact hn') ((hb' x hx).trans hb) h) (c.ok.noDebug x _ hm')
/-- an int that stands at the file's top -/
theorem e_globInt (c : Here cx g d ns b) {n : Int} {t : Tok} (e : nsIn g.K mainGlobals x = some (some (.int n t))) (hm : (x, NameKind.globalImplicit) ∈ ns) (hq : Q (.int n) ρ) : Ev cx (.Name x pos) ρ Q :=
  fun H vr s K i k => load_glob c i hm e (k _ _ _ H ρ .rfl i .int hq)

-- calls
theorem callWith_args {f : Value} {first : List Value} {P : Heap → Prop} (hk : ∀ h, P h → ∃ k, (k = Keeper.frame ∨ k = Keeper.machine ∨ k = Keeper.boundFrame) ∧ Looks (model cx.prog cx.w) h (keeperOf f) k)
    (main : Go cx (spliced (backTo pos (starEach args cx.env))) (fun xs s₁ => P s₁.heap ∧ Go cx (call f (first ++ xs)) K s₁) s) (hplain : (backTo pos (starEach args cx.env)).any (·.1) = false := by rfl) : Go cx (callWith pos f first (backTo pos (starEach args cx.env)) []) K s := by
  refine callWith_of (P := P) (by rw [hplain]; rfl) hk ?_
  generalize backTo pos (starEach args cx.env) = ts at main hplain
  cases ts with
  | nil =>
    unfold evalArgs
    show wpAny _ _ (spliced [] >>= _) _ _ _
    refine wpAny_bind (wpAny_mono main (fun vs s' h' => ?_) fun _ _ x => x)
    exact wpAny_bind (wpAny_pure (wpAny_holding (wpAny_bind (wpAny_pure (wpAny_bind (wpAny_pure (wpAny_pure h')))))))
  | cons a r =>
    obtain ⟨st, t⟩ := a
    cases st with
    | false => exact evalArgs_plain main
    | true => cases hplain
theorem callWith_fn (c : Here cx g d ns b) {a : Addr} {first : List Value} (hk : keepIn g.K (.ref a) = true) (i : Inv cx H ρ vr s) (h : Evs cx pos args ρ Qs)
    (hc : ∀ xs s' vs H' ρ', H.le H' → Inv cx H' ρ' vr s' → Reps H' xs vs → Qs vs ρ' → Go cx (call (.ref a) (first ++ xs)) K s') (hplain : (backTo pos (starEach args cx.env)).any (·.1) = false) : Go cx (callWith pos (.ref a) first (backTo pos (starEach args cx.env)) []) K s :=
  callWith_args (P := g.K.In) (keeps_K hk) (h H vr s _ i fun xs s' vs H' ρ' l i' r q => ⟨(c.base i').k, hc xs s' vs H' ρ' l i' r q⟩) hplain

theorem KE.ret (k : KE cx H vr Q K) (l : H.le H₁) {K' : Result → Shared → Prop} (hK : ∀ x s, K x s → K' (.ok (.ret x)) s) : KF' cx H₁ ρ vr (RVal fun v => Q v ρ) K' := fun x s r H' l' i rr q => hK x s (by
  cases r with
  | val v => exact k x s v H' ρ (l.trans l') i rr q
  | fresh vs => exact k.fresh x s vs H' ρ (l.trans l') i rr q)
theorem KF.ret (k : KF cx H vr Qs K) (l : H.le H₁) {K' : Result → Shared → Prop} (hK : ∀ x s, K x s → K' (.ok (.ret x)) s) : KF' cx H₁ ρ vr (RFresh fun v => Qs v ρ) K' := fun x s r H' l' i rr q => hK x s (by
  cases r with
  | val v => exact q.elim
  | fresh vs => exact k x s vs H' ρ (l.trans l') i rr q)
theorem Fn.run {a : Addr} {P : R → Prop} (h : Fn g d a vs P) (c : Here cx g d ns b) (i : Inv cx H ρ vr s) {xs : List Value} (r : Reps H xs vs) (k : ∀ {K' : Result → Shared → Prop}, (∀ x s, K x s → K' (.ok (.ret x)) s) → KF' cx H ρ vr P K') : Go cx (call (.ref a) xs) K s :=
  wpAny_call (h cx c.inn H ρ vr s xs _ i r (k fun _ _ q => q))
theorem e_call (c : Here cx g d ns b) {a : Addr} (hm : (f, NameKind.globalImplicit) ∈ ns) (hf : nsIn g.K mainGlobals f = some (some (.ref a))) (hk : keepIn g.K (.ref a) = true) (h : Evs cx pos args ρ fun vs ρ₁ => Fn g d a vs (RVal fun v => Q v ρ₁))
    (hplain : (backTo pos (starEach args cx.env)).any (·.1) = false := by rfl) : Ev cx (.Call (.Name f fp) args [] pos) ρ Q := fun H vr s K i k =>
  wpAny_Call_NameR (load_glob c i hm hf (callWith_fn c hk i h (fun xs s' vs H' ρ' l i' r q => q.run c i' r (k.ret l)) hplain))
theorem f_call (c : Here cx g d ns b) {a : Addr} (hm : (f, NameKind.globalImplicit) ∈ ns) (hf : nsIn g.K mainGlobals f = some (some (.ref a))) (hk : keepIn g.K (.ref a) = true) (h : Evs cx pos args ρ fun vs ρ₁ => Fn g d a vs (RFresh fun v => Qs v ρ₁))
    (hplain : (backTo pos (starEach args cx.env)).any (·.1) = false := by rfl) : EvF cx (.Call (.Name f fp) args [] pos) ρ Qs := fun H vr s K i k =>
  wpAny_Call_NameR (load_glob c i hm hf (callWith_fn c hk i h (fun xs s' vs H' ρ' l i' r q => q.run c i' r (k.ret l)) hplain))
/-- a built-in function or type, by its name -/
noncomputable def machineV : Value → Bool
  | .ref _ => false
  | _ => true
theorem machine_keeps {fv : Value} (hr : machineV fv = true) {M : Model} {h : Heap} : ∃ k, (k = Keeper.frame ∨ k = Keeper.machine ∨ k = Keeper.boundFrame) ∧ Looks M h (keeperOf fv) k := ⟨.machine, .inr (.inl rfl), Looks.of_pure (by
  cases fv with
  | ref a => cases hr
  | _ => rfl)⟩
theorem callWith_built {fv : Value} {first : List Value} (hr : machineV fv = true) (h : Evs cx pos args ρ Qs) (i : Inv cx H ρ vr s) (hc : ∀ xs s' vs H' ρ', H.le H' → Inv cx H' ρ' vr s' → Reps H' xs vs → Qs vs ρ' → Go cx (call fv (first ++ xs)) K s')
    (hplain : (backTo pos (starEach args cx.env)).any (·.1) = false) : Go cx (callWith pos fv first (backTo pos (starEach args cx.env)) []) K s :=
  callWith_args (P := fun _ => True) (fun h _ => machine_keeps hr) (h H vr s _ i fun xs s' vs H' ρ' l i' r q => ⟨trivial, hc xs s' vs H' ρ' l i' r q⟩) hplain
theorem e_built (c : Here cx g d ns b) {fv : Value} (hm : (f, NameKind.globalImplicit) ∈ ns) (e : nsIn g.K mainGlobals f = some none) (hb : bootBuiltins f = some fv) (hx : f ≠ "__name__") (hr : machineV fv = true)
    (h : Evs cx pos args ρ fun vs ρ₁ => Op cx vs (fun xs => call fv xs) fun v => Q v ρ₁) (hplain : (backTo pos (starEach args cx.env)).any (·.1) = false := by rfl) : Ev cx (.Call (.Name f fp) args [] pos) ρ Q := fun H vr s K i k =>
  wpAny_Call_NameR (load_built c i hm e hb hx (callWith_built hr h i (fun xs s' vs H' ρ' l i' r q => q H' ρ' vr s' xs _ i' r (k.op l)) hplain))

-- attributes
theorem isStr_of {e : DictEntry} {n : Str} {t : Tok} (hk : e.key = .str n t) (name : Str) : e.key.isStr name = (n == name) := by rw [hk]; rfl
theorem Fields.get {name : Str} {u : V} : ∀ {fs : List (Str × V)} {es : List DictEntry}, Fields H es fs → fs.lookup name = some u → ∃ e, es.find? (·.key.isStr name) = some e ∧ Rep H e.val u := fun {fs} => by
  induction fs with
  | nil => exact fun _ e => nomatch e
  | cons p fs ih =>
    intro es r
    refine r.onCons fun e ys t hk hr r q => ?_
    rw [List.lookup_cons] at q
    rw [List.find?_cons, isStr_of hk name]
    by_cases hb : name = p.1
    · rw [beq_iff_eq.mpr hb] at q
      rw [beq_iff_eq.mpr hb.symm]
      cases q; exact ⟨e, rfl, hr⟩
    · rw [beq_eq_false_iff_ne.mpr hb] at q
      rw [beq_eq_false_iff_ne.mpr (Ne.symm hb)]
      exact ih r q
theorem Fields.miss {name : Str} : ∀ {fs : List (Str × V)} {es : List DictEntry}, Fields H es fs → fs.lookup name = none → es.find? (·.key.isStr name) = none ∧ es.any (·.refKey) = false := fun {fs} => by
  induction fs with
  | nil => exact fun r _ => r.onNil ⟨rfl, rfl⟩
  | cons p fs ih =>
    intro es r
    refine r.onCons fun e ys t hk hr r q => ?_
    rw [List.lookup_cons] at q
    by_cases hb : name = p.1
    · rw [beq_iff_eq.mpr hb] at q; cases q
    · rw [beq_eq_false_iff_ne.mpr hb] at q
      rw [List.find?_cons, List.any_cons, isStr_of hk name, beq_eq_false_iff_ne.mpr (Ne.symm hb), show e.refKey = false by unfold DictEntry.refKey; rw [hk]]
      exact ih r q

/-- how an own class reads its instances' attributes -/
structure ClsOk (K : Frag) (C : Addr) : Prop where
  ga : findIn K (.ref C) "__getattribute__" = some (some (.builtin "object.__getattribute__"))
  gt : findIn K (.ref C) "__getattr__" = some none
  hd : hasDictIn K C = true
inductive AttrIs (K : Frag) (C : Addr) (fs : List (Str × V)) (name : Str) (u : V) : Prop
  | own (attr : Option Value) (co : ClsOk K C) (hl : fs.lookup name = some u) (hf : findIn K (.ref C) name = some attr) (hn : noGet K attr = true)
  | str (x : Str) (t : Tok) (e : u = .str x) (co : ClsOk K C) (hl : fs.lookup name = none) (hf : findIn K (.ref C) name = some (some (.str x t))) (hg : specialIn K (.str x t) "__get__" = some none) (hc : copiedNames.contains name = false)
theorem get_attr (c : Here cx g d ns b) (i : Inv cx H ρ vr s) {y : Value} {C : Addr} {fs : List (Str × V)} {name : Str} {u : V} {expr : Bool} (r : Rep H y (.obj C fs)) (ha : AttrIs g.K C fs name u) (h : ∀ y s', Inv cx H ρ vr s' → Rep H y u → K y s') :
    Go cx (getAttr y name expr) K s := by
  refine r.onObj fun x dx es n h1 h2 h3 => ?_
  have X := (c.base i).k
  have I : W.InstAt s.heap x (instObj C dx) C (some (dictOf es n)) := ⟨i.keepH _ _ h1, rfl, rfl, i.keepH _ _ h2⟩
  cases ha with
  | own attr co hl hf hn =>
    obtain ⟨e, he, hr⟩ := h3.get hl
    refine get_value X I co.ga (findObj_own co.hd hf hn (v := e.val) ?_) hr.handed (h _ _ (i.toks _) hr)
    rw [lookIn_dict]; unfold getL; rw [he]
  | str z t e co hl hf hg hc =>
    obtain ⟨he, ha⟩ := h3.miss hl
    refine get_value X I co.ga (findObj_cls co.hd hf hg rfl hc ?_) rfl (h _ _ (i.toks _) (e ▸ .str))
    rw [lookIn_dict]; unfold getL; rw [he, ha]; rfl
/-- an attribute's value, and on -/
inductive AttrP (K : Frag) (name : Str) (P : V → Prop) (v : V) : Prop
  | mk (C : Addr) (fs : List (Str × V)) (u : V) (e : v = .obj C fs) (h : AttrIs K C fs name u) (q : P u)
theorem e_attr (c : Here cx g d ns b) {attr : Str} (h : Ev cx e ρ fun v ρ₁ => AttrP g.K attr (fun u => Q u ρ₁) v)
    (he : eval (.Attribute e attr pos) cx.env = (do
      let o ← eval e cx.env
      standAt pos.atName
      let r ← holding [o] (getAttr o attr true)
      letTemporaryGo e o r
      pure r) := by with_unfolding_all rfl) : Ev cx (.Attribute e attr pos) ρ Q := fun H vr s K i k =>
  Attribute_any_ (h H vr s _ i fun x s1 v H1 ρ1 l1 i1 r1 h1 => h1.rec fun C fs u ev ha q => get_attr c i1 (ev ▸ r1) ha fun y s2 i2 r2 => k y s2 u H1 ρ1 l1 i2 r2 q) he

/-- a method of an own class -/
inductive Meth (g : Gl) (d : Nat) (name : Str) (Q : R → Prop) (v : V) : Prop
  | mk (C : Addr) (fs : List (Str × V)) (e : v = .obj C fs) (f : Addr) (co : ClsOk g.K C) (hl : fs.lookup name = none) (hf : findIn g.K (.ref C) name = some (some (.ref f))) (ht : typeIn g.K (.ref f) = some (.type "function")) (hk : keepIn g.K (.ref f) = true) (q : Fn g d f [.obj C fs] Q)
theorem meth_core (c : Here cx g d ns b) {name : Str} {y : Value} {pl : Sem Bool} {P : R → Prop} (i : Inv cx H ρ vr s) (r : Rep H y v) (h : Meth g d name P v) (k : ∀ {K' : Result → Shared → Prop}, (∀ x s, K x s → K' (.ok (.ret x)) s) → KF' cx H ρ vr P K') :
    Go cx (getMethod y name pl) (fun fx s => Go cx (callWith pos fx.1 fx.2 (backTo pos (starEach [] cx.env)) []) K s) s := by
  obtain ⟨C, fs, rfl, f, co, hl, hf, ht, hk, hF⟩ := h
  have X := (c.base i).k
  obtain ⟨x, dx, es, n, rfl, h1, h2, h3⟩ := r
  refine method_fn X (od := some (dictOf es n)) ⟨i.keepH _ _ h1, rfl, rfl, i.keepH _ _ h2⟩ co.ga co.gt hf ht ?_ (callWith_K0 X hk (hF.run c i (.cons (.obj h1 h2 h3) .nil) k))
  obtain ⟨he', ha⟩ := Fields.miss h3 hl
  show (lookIn name (dictOf _ _)).map _ = _
  rw [lookIn_dict]; unfold getL; rw [he', ha]; rfl
theorem e_meth (c : Here cx g d ns b) {name : Str} {apos : Pos} {pl : Sem Bool} (h : Ev cx e ρ fun v ρ₁ => Meth g d name (RVal fun u => Q u ρ₁) v)
    (he : eval (.Call (.Attribute e name apos) [] [] pos) cx.env = (do
      let ov ← eval e cx.env
      standAt apos.atName
      let (f, first) ← holding [ov] (getMethod ov name pl)
      callWith pos f first (backTo pos (starEach [] cx.env)) []) := by rfl) : Ev cx (.Call (.Attribute e name apos) [] [] pos) ρ Q := fun H vr s K i k =>
  MethodCall_ (pl := pl) (h H vr s _ i fun y s1 v H1 ρ1 l1 i1 r1 q => meth_core c i1 r1 q (k.ret l1)) he
theorem f_meth (c : Here cx g d ns b) {name : Str} {apos : Pos} {pl : Sem Bool} (h : Ev cx e ρ fun v ρ₁ => Meth g d name (RFresh fun u => Qs u ρ₁) v)
    (he : eval (.Call (.Attribute e name apos) [] [] pos) cx.env = (do
      let ov ← eval e cx.env
      standAt apos.atName
      let (f, first) ← holding [ov] (getMethod ov name pl)
      callWith pos f first (backTo pos (starEach [] cx.env)) []) := by rfl) : EvF cx (.Call (.Attribute e name apos) [] [] pos) ρ Qs := fun H vr s K i k =>
  MethodCall_ (pl := pl) (h H vr s _ i fun y s1 v H1 ρ1 l1 i1 r1 q => meth_core c i1 r1 q (k.ret l1)) he
/-- a static method of an own class: how it is found -/
structure StatOk (K : Frag) (C : Addr) (name : Str) (p f : Addr) (rest : List Value) : Prop where
  ga : specialIn K (.ref C) "__getattribute__" = some (some (.builtin "type.__getattribute__"))
  rd : readsIn K C (.type "type") = true
  fd : findCls K (.ref C) (.type "type") name = some (.get (.builtin "staticmethod.__get__") (.ref p) .none (.ref C))
  rc : recIn K p "staticmethod" = some (.ref f :: rest)
  kp : keepIn K (.ref f) = true
theorem e_stat (c : Here cx g d ns b) {k name : Str} {C p f : Addr} {rest : List Value} {apos p0 : Pos} {pl : Sem Bool} (hm : (k, NameKind.globalImplicit) ∈ ns) (hk : nsIn g.K mainGlobals k = some (some (.ref C))) (S : StatOk g.K C name p f rest)
    (h : Evs cx pos args ρ fun vs ρ₁ => Fn g d f vs (RVal fun u => Q u ρ₁)) (hplain : (backTo pos (starEach args cx.env)).any (·.1) = false := by rfl)
    (he : eval (.Call (.Attribute (.Name k p0) name apos) args [] pos) cx.env = (do
      let ov ← eval (.Name k p0) cx.env
      standAt apos.atName
      let (f, first) ← holding [ov] (getMethod ov name pl)
      callWith pos f first (backTo pos (starEach args cx.env)) []) := by rfl) : Ev cx (.Call (.Attribute (.Name k p0) name apos) args [] pos) ρ Q := fun H vr s K i kk =>
  have X := (c.base i).k
  MethodCall_ (pl := pl) (load_glob c i hm hk (method_cls X S.ga (cls_bind X S.rd S.fd (wpAny_call (sm_get (s := { s with toks := s.toks + 1 }) X S.rc (handed_on rfl
    (callWith_fn c S.kp (i.toks _) h (fun xs s' vs H' ρ' l i' r q => q.run c i' r (kk.ret l)) hplain))))))) he
end
end Mine

end
section
-- D6
open PySem PySem.W PySem.Calls PyProof.Rows
set_option Elab.async false
set_option linter.unusedVariables false
set_option maxRecDepth 100000
set_option genInjectivity false
set_option genSizeOfSpec false
namespace Mine

theorem Go.any {cx : Cx} {α : Type} {t : Sem α} {K : α → Shared → Prop} {s : Shared} (h : Go cx t K s) {E : Value → Shared → Prop} : wpAny (model cx.prog cx.w) cx.A t K E s := wpAny_mono h (fun _ _ q => q) fun _ _ e => e.elim
section
variable {H : HF} {x : Value} {v u : V} {vs : List V}
theorem Reps.snoc {xs : List Value} (h : Reps H xs vs) (r : Rep H x v) : Reps H (xs ++ [x]) (vs ++ [v]) := Reps.append (.cons r .nil) h
theorem Reps.reverse : ∀ {vs : List V} {xs : List Value}, Reps H xs vs → Reps H xs.reverse vs.reverse := fun {vs} => by
  induction vs with
  | nil => exact fun r => r.onNil .nil
  | cons v vs ih =>
    intro xs r
    refine r.onCons fun x ys a b => ?_
    rw [List.reverse_cons, List.reverse_cons]; exact (ih b).snoc a
theorem Reps.unsnoc : ∀ {vs : List V} {xs : List Value}, Reps H xs (vs ++ [u]) → ∃ ys y, xs = ys ++ [y] ∧ Reps H ys vs ∧ Rep H y u := fun {vs} => by
  induction vs with
  | nil => exact fun r => r.on1 fun x a => ⟨[], x, rfl, .nil, a⟩
  | cons v vs ih =>
    intro xs r
    obtain ⟨x, ys, rfl, a, b⟩ := r
    obtain ⟨zs, y, rfl, r1, r2⟩ := ih b
    exact ⟨x :: zs, y, rfl, .cons a r1, r2⟩
theorem Reps.sz {xs : List Value} {n m : Nat} (h : Reps H xs vs) (hl : vs.length ≤ n) (hm : n ≤ m := by decide) : xs.toArray.size ≤ m := h.size ▸ Nat.le_trans hl hm
theorem Reps.set (r : Rep H x v) : ∀ {vs : List V} {xs : List Value}, Reps H xs vs → ∀ j : Nat, Reps H (xs.set j x) (vs.set j v) := fun {vs} => by
  induction vs with
  | nil => exact fun q j => q.onNil .nil
  | cons u us ih =>
    intro xs q j
    refine q.onCons fun y ys a b => ?_
    cases j with
    | zero => exact .cons r b
    | succ j => exact .cons a (ih b j)
end

section
variable {cx : Cx} {g : Gl} {d : Nat} {ns : Names} {b : Bool} {ρ : Env'} {H : HF} {vr : Str → Option Value} {s : Shared} {pos : Pos} {Q : V → Env' → Prop} {Qn : Env' → Prop} {Qr : R → Env' → Prop} {e : Expr} {args : List Expr} {j : Nat} {x : Str} {k : NameKind} {v u : V} {vs vs₀ : List V}

/-- what a list method does to a list that the frame alone holds -/
noncomputable def OwnOp (cx : Cx) (id : String) (vs us : List V) (P : V → List V → Prop) : Prop :=
  ∀ H (s : Shared) a its n xs K, s.heap.get? a = some (lstO its n) → Reps H its vs → Reps H xs us → (∀ a o, H a = some o → s.heap.get? a = some o) →
    (∀ z h' t v vs' its' n', (∀ b o, b ≠ a → s.heap.get? b = some o → h'.get? b = some o) → h'.get? a = some (lstO its' n') → Reps H its' vs' → Rep H z v → P v vs' → K z { s with heap := h', toks := t }) → Go cx (call (.builtin id) (.ref a :: xs)) K s
inductive OwnP (ρ : Env') (j : Nat) (P : List V → Prop) : Prop
  | mk (vs : List V) (h : ρ[j]? = some (some (.own vs))) (q : P vs)
theorem e_own (c : Here cx g d ns b) {name : Str} {id : String} {pos₀ apos : Pos} {pl : Sem Bool} (hn : ns[j]? = some (x, k)) (hk : plainK k = true) (slot : PySem.Slot "list" name id) (hty : typeOf (.builtin id) = pure (.type "method_descriptor"))
    (h0 : ρ[j]? = some (some (.own vs₀))) (h : Evs cx pos args ρ fun us ρ₁ => OwnP ρ₁ j fun vs => OwnOp cx id vs us fun v vs' => Q v (ρ₁.set j (some (.own vs'))))
    (hplain : (backTo pos (starEach args cx.env)).any (·.1) = false := by rfl)
    (he : eval (.Call (.Attribute (.Name x pos₀) name apos) args [] pos) cx.env = (do
      let ov ← eval (.Name x pos₀) cx.env
      standAt apos.atName
      let (f, first) ← holding [ov] (getMethod ov name pl)
      callWith pos f first (backTo pos (starEach args cx.env)) []) := by rfl) : Ev cx (.Call (.Attribute (.Name x pos₀) name apos) args [] pos) ρ Q := fun H vr s K i kk => by
  have hn' : cx.names[j]? = some (x, k) := c.names.symm ▸ hn
  obtain ⟨a, e, its, n, f1, f2, f3, f4⟩ := i.vars j x k _ hn' h0
  refine MethodCall_ (pl := pl) (load_name c i hn hk e ?_) he
  refine getMethod_builtin ⟨_, f3, rfl⟩ PySem.F.plainAttrs_list slot hty (fun a' e' => by cases e'; exact ⟨_, f3, rfl⟩) ?_
  refine callWith_built rfl h i (fun xs s' us H' ρ' l i' r q => ?_) hplain
  obtain ⟨vs, hat, hop⟩ := q
  obtain ⟨a', e', its', n', g1, g2, g3, g4⟩ := i'.vars j x k _ hn' hat
  rw [e] at e'; cases e'
  exact hop H' s' a its' n' xs _ g3 g4 r i'.keepH fun z h₂ t v vs' its₂ n₂ q1 q2 q3 q4 q5 => kk z _ v H' _ l (i'.own_upd c.ok hn' hat e q1 q2 q3) q4 q5
theorem upd_keep {s : Shared} {a : Addr} {f : Obj → Obj} : ∀ b o, b ≠ a → s.heap.get? b = some o → (s.heap.update a f).get? b = some o := fun b o hb e => ((Heap.SameBut.update ..).2 b hb).trans e
theorem own_append {P : V → List V → Prop} (hl : vs.length ≤ 100000) (h : P .none (vs ++ [u])) : OwnOp cx "list.append" vs [u] P := fun H s a its n xs K ho hr hx _ k => hx.on1 fun y ry =>
  call_meets PySem.F.slot_list_append ⟨_, ho, rfl⟩ PySem.F.entry_list_append (PySem.F.args_list_append_2 _ _) (list_append a its.toArray n _ (hr.sz hl)) ⟨ho,
    k _ _ _ _ _ (its ++ [y]) _ upd_keep ((IsL.update (items := its.toArray) ho _).trans (by rw [List.push_toArray])) (hr.snoc ry) .none h⟩
theorem own_reverse {P : V → List V → Prop} (hl : vs.length ≤ 100000) (h : P .none vs.reverse) : OwnOp cx "list.reverse" vs [] P := fun H s a its n xs K ho hr hx _ k => hx.onNil <|
  call_meets PySem.F.slot_list_reverse ⟨_, ho, rfl⟩ PySem.F.entry_list_reverse (PySem.F.args_list_reverse_1 _) (AutoSeq1.list_reverse_list_0 a its.toArray n (hr.sz hl)) ⟨ho,
    k _ _ _ _ _ its.reverse _ upd_keep ((IsL.update (items := its.toArray) ho _).trans (by rw [List.reverse_toArray])) hr.reverse .none h⟩
theorem own_pop {P : V → List V → Prop} (hl : vs.length ≤ 100000) (h : P u vs) : OwnOp cx "list.pop" (vs ++ [u]) [] P := fun H s a its n xs K ho hr hx _ k => by
  obtain ⟨ys, y, rfl, r1, r2⟩ := hr.unsnoc
  have hz : (ys ++ [y]).toArray.size ≤ sizeLine := by rw [List.size_toArray, List.length_append, r1.length]; exact Nat.le_trans (Nat.add_le_add_right hl 1) (by decide)
  have hk : (ys ++ [y]).toArray.eraseIdxIfInBounds ((ys ++ [y]).toArray.size - 1) = ys.toArray := by
    rw [show (ys ++ [y]).toArray.size - 1 = ys.length by simp, kl_erase, List.append_nil]
  refine hx.onNil ?_
  exact call_meets PySem.F.slot_list_pop ⟨_, ho, rfl⟩ PySem.F.entry_list_pop (PySem.F.args_list_pop_1 _) (PySem.MeetsSeq.list_pop_last a (ys ++ [y]).toArray n y (by simp) hz) ⟨ho,
    k _ _ _ u vs ys _ upd_keep ((IsL.update (items := (ys ++ [y]).toArray) ho _).trans (by rw [hk])) r1 r2 h⟩

-- a while by an index with a measure
inductive NextI {ι : Type} (St : ι → Env') (P : ι → Prop) (lt : ι → Prop) (ρ : Env') : Prop
  | mk (j : ι) (e : ρ = St j) (p : P j) (l : lt j)
inductive LW {ι : Type} (cx : Cx) (H : HF) (St : ι → Env') (P : ι → Prop) (μ : ι → Nat) (n : Nat) (s : Shared) : Prop
  | mk (i : ι) (H' : HF) (vr : Str → Option Value) (l : H.le H') (iv : Inv cx H' (St i) vr s) (p : P i) (e : μ i = n)
theorem x_while {ι : Type} (St : ι → Env') (P : ι → Prop) (μ : ι → Nat) {test : Expr} {body : List Stmt} (i₀ : ι) (h0 : P i₀) (hρ : ρ = St i₀)
    (step : ∀ i, P i → Tr cx test (St i) fun c ρ₁ => Way c (Ex cx body ρ₁ (NextI St P fun j => μ j < μ i) Qr) (Qn ρ₁)) : Ex1 cx (.While test body [] pos) ρ Qn Qr := fun H vr s K i kn kr => by
  subst hρ
  refine wpAny_While (codeAny_whileLoop (LW cx H St P μ) (fun n s1 ⟨i, H1, vr1, l1, i1, p, e⟩ => ?_) _ ⟨i₀, H, vr, .rfl, i, h0, rfl⟩)
  subst e
  refine Go.any (step i p H1 vr1 s1 _ i1 fun c s2 H2 ρ2 l2 i2 h2 => ?_)
  cases c with
  | true =>
    refine Go.any ?_
    exact ((show Ex cx body ρ2 _ _ from h2) H2 vr1 s2 _ i2 (fun s3 H3 ρ3 vr3 l3 i3 ⟨j, e, p, lt⟩ => ⟨μ j, lt, j, H3, vr3, l1.trans (l2.trans l3), e ▸ i3, p, rfl⟩) (kr.le (l1.trans l2)))
  | false => exact wpAny_execs_nil (kn s2 H2 ρ2 vr1 (l1.trans l2) i2 h2)

-- comparisons
theorem c_eq_str {x y : Str} {Q : Bool → Prop} (h : Q (x == y)) : Cmp cx .Eq (.str x) (.str y) Q := fun H ρ vr s a c K i r1 r2 k => by
  refine r1.onStr fun _ => ?_
  refine r2.onStr fun _ => ?_
  exact PyProof.Rows.eq_str (k _ _ H .rfl i h)
theorem c_eq_int {x y : Int} {Q : Bool → Prop} (h : Q (x == y)) : Cmp cx .Eq (.int x) (.int y) Q := fun H ρ vr s a c K i r1 r2 k => by
  refine r1.onInt fun _ => ?_
  refine r2.onInt fun _ => ?_
  exact PyProof.Rows.eq_int (k _ _ H .rfl i h)
theorem c_lt_int {x y : Int} {Q : Bool → Prop} (h : Q (decide (x < y))) : Cmp cx .Lt (.int x) (.int y) Q := fun H ρ vr s a c K i r1 r2 k => by
  refine r1.onInt fun _ => ?_
  refine r2.onInt fun _ => ?_
  exact PyProof.Rows.lt_int (k _ _ H .rfl i h)
theorem c_gt_int {x y : Int} {Q : Bool → Prop} (h : Q (decide (x > y))) : Cmp cx .Gt (.int x) (.int y) Q := fun H ρ vr s a c K i r1 r2 k => by
  refine r1.onInt fun _ => ?_
  refine r2.onInt fun _ => ?_
  exact PyProof.Rows.gt_int (k _ _ H .rfl i h)
end

-- another ground
noncomputable def Cx.withF (cx : Cx) (F : HF) : Cx := { cx with F := F }
/-- what a frame may turn: its own, and the addresses told -/
noncomputable def Free (cx : Cx) (ρ : Env') (vr : Str → Option Value) (as : List Addr) (a : Addr) : Prop := a = cx.env.locals ∨ (∃ x, cx.mine x ∧ cx.env.cells.lookup x = some a) ∨ OwnA cx ρ vr a ∨ a ∈ as
noncomputable def fixF (cx : Cx) (H : HF) (ρ : Env') (vr : Str → Option Value) (s : Shared) (as : List Addr) : HF := stillF (Free cx ρ vr as) H s.heap
section
variable {cx : Cx} {g : Gl} {d : Nat} {ns : Names} {b : Bool} {ρ ρ' : Env'} {H H' : HF} {vr vr' : Str → Option Value} {s s' : Shared} {as : List Addr} {a : Addr} {o : Obj} {F : HF}
noncomputable abbrev Offs (cx : Cx) (H : HF) (ρ : Env') (vr : Str → Option Value) (as : List Addr) : Prop := ∀ a ∈ as, Off cx H ρ vr a
theorem Inv.ownF (i : Inv cx H ρ vr s) (o : OwnA cx ρ vr a) : cx.F a = none := o.elim fun j o => (i.at o).elim fun vs o => o.off.1
theorem Inv.freeF (i : Inv cx H ρ vr s) (ho : Offs cx H ρ vr as) (f : Free cx ρ vr as a) : cx.F a = none := by
  rcases f with f | ⟨x, hm, hx⟩ | f | f
  · rw [f]; exact i.offL.1
  · exact (i.offC x a hx).2 hm
  · exact i.ownF f
  · exact (ho a f).F
theorem fix_le (i : Inv cx H ρ vr s) (ho : Offs cx H ρ vr as) : cx.F.le (fixF cx H ρ vr s as) := fun a o e => (still_of (fun q => by rw [i.freeF ho q] at e; cases e) (i.FH a o e)).trans (i.keepF a o e)
theorem Here.withF (c : Here cx g d ns b) (h : cx.F.le F) : Here (cx.withF F) g d ns b :=
  ⟨⟨{ c.ok with base := fun hp q => c.ok.base hp fun a o e => q a o (h a o e) }, c.inn.prog, c.inn.w, c.inn.K, c.inn.d⟩, c.names, c.wr, c.pin⟩
theorem Here.fix (c : Here cx g d ns b) (i : Inv cx H ρ vr s) (ho : Offs cx H ρ vr as) : Here (cx.withF (fixF cx H ρ vr s as)) g d ns b := c.withF (fix_le i ho)
/-- the ground alone is another -/
theorem Inv.ground {cx' : Cx} (i : Inv cx H ρ vr s) (e : cx' = cx.withF cx'.F) (keepF : ∀ a o, cx'.F a = some o → s.heap.get? a = some o) (FH : ∀ a o, cx'.F a = some o → H a = none) (offL : cx'.F cx.env.locals = none)
    (offC : ∀ x c, cx.env.cells.lookup x = some c → cx.mine x → cx'.F c = none) (own : ∀ a, OwnA cx ρ vr a → cx'.F a = none) : Inv cx' H ρ vr s := by
  rw [e] at *
  exact { gens := i.gens, drawn := i.drawn, os := i.os, keepF, keepH := i.keepH, FH, ns := i.ns, cell := i.cell, cellsApart := i.cellsApart, offL := ⟨offL, i.offL.2⟩, offC := fun x c e => ⟨(i.offC x c e).1, offC x c e⟩, len := i.len
          vars := fun j x k sl hx hs => by
            have r := i.vars j x k sl hx hs
            cases sl with
            | val v => exact r
            | own vs => exact r.imp fun a q => ⟨q.1, q.2.ground (own a ⟨j, x, k, vs, hx, hs, q.1⟩)⟩
          own1 := fun i1 i2 a o1 o2 => i.own1 i1 i2 a (o1.rec fun y k ws p q r => ⟨y, k, ws, p, q, r⟩) (o2.rec fun y k ws p q r => ⟨y, k, ws, p, q, r⟩) }
theorem Inv.fix (i : Inv cx H ρ vr s) : Inv (cx.withF (fixF cx H ρ vr s as)) H ρ vr s :=
  i.ground rfl (fun a o e => (still_get e).2.2) (fun a o e => (still_get e).2.1) (still_not (.inl rfl)) (fun x c e m => still_not (.inr (.inl ⟨x, m, e⟩))) fun a o => still_not (.inr (.inr (.inl o)))
theorem Inv.unF (i' : Inv (cx.withF F) H' ρ' vr' s') (l : cx.F.le F) (i : Inv cx H ρ vr s) : Inv cx H' ρ' vr' s' :=
  i'.ground rfl (fun a o e => i'.keepF a o (l a o e)) (fun a o e => i'.FH a o (l a o e)) i.offL.1 (fun x c e => (i.offC x c e).2) fun a o => none_of_le l (i'.ownF o)
theorem Inv.back (i' : Inv (cx.withF (fixF cx H ρ vr s as)) H' ρ' vr' s') (i : Inv cx H ρ vr s) (ho : Offs cx H ρ vr as) : Inv cx H' ρ' vr' s' := i'.unF (fix_le i ho) i
theorem FreshR.unF {h : Heap} {x : Value} {vs : List V} (f : FreshR (cx.withF F) H ρ vr h x vs) (l : cx.F.le F) : FreshR cx H ρ vr h x vs := f.rec fun a e o n => ⟨a, e, o.ground (none_of_le l o.off.1), fun ⟨j, y, k, ws, p, q, r⟩ => n ⟨j, y, k, ws, p, q, r⟩⟩
theorem RRep.unF {h : Heap} {x : Value} {r : R} (f : RRep (cx.withF F) H ρ vr h x r) (l : cx.F.le F) : RRep cx H ρ vr h x r := by
  cases r with
  | val v => exact f
  | fresh vs => exact FreshR.unF f l
theorem Off.ground {cx' : Cx} (e : cx' = cx.withF cx'.F) (f : Off cx H ρ vr a) (h : cx'.F a = none) : Off cx' H ρ vr a := by
  rw [e] at *
  exact ⟨h, f.H, f.L, f.C, fun ⟨j, y, k, ws, p, q, r⟩ => f.O ⟨j, y, k, ws, p, q, r⟩⟩
theorem Off.unF (f : Off (cx.withF F) H ρ vr a) (l : cx.F.le F) : Off cx H ρ vr a := Off.ground (cx := cx.withF F) (cx' := cx) rfl f (none_of_le l f.F)
theorem Offs.fix (ho : Offs cx H ρ vr as) : Offs (cx.withF (fixF cx H ρ vr s as)) H ρ vr as := fun a h => (ho a h).ground rfl (still_not (.inr (.inr (.inr h))))
/-- what is off, and not told, stands still -/
theorem Off.stay (f : Off cx H ρ vr a) (n : a ∉ as) (e : s.heap.get? a = some o) (i' : Inv (cx.withF (fixF cx H ρ vr s as)) H' ρ' vr' s') : Off cx H' ρ' vr' a ∧ s'.heap.get? a = some o := by
  have hF : fixF cx H ρ vr s as a = some o := (still_of (fun q => by
    rcases q with q | ⟨x, hm, hx⟩ | q | q
    · exact f.L q
    · exact f.C x hx
    · exact f.O q
    · exact n q) f.H).trans e
  exact ⟨⟨f.F, i'.FH a o hF, f.L, f.C, fun ⟨j, y, k, ws, p, q, r⟩ => by
    have := i'.ownF ⟨j, y, k, ws, p, q, r⟩
    rw [show (cx.withF (fixF cx H ρ vr s as)).F a = some o from hF] at this; cases this⟩, i'.keepF a o hF⟩
end
end Mine

end
section
-- D7
open PySem PySem.W PySem.Calls PyProof.Rows
set_option Elab.async false
set_option linter.unusedVariables false
set_option maxRecDepth 100000
set_option genInjectivity false
set_option genSizeOfSpec false
namespace Mine

/-- an iterator: its address, what it turns, what it still hands out -/
structure Itr (prog : Program) (w : World) (tgt : Expr) (I : Addr) (as : List Addr) (Z : List V → HF → Heap → Prop) : Prop where
  mono : ∀ {us H H' h h'}, Z us H h → H.le H' → (∀ a ∈ as, ∀ o, h.get? a = some o → h'.get? a = some o) → (∀ a o, H a = some o → h.get? a = some o) → (∀ a o, H' a = some o → h'.get? a = some o) → Z us H' h'
  live : ∀ {us H h}, Z us H h → ∀ a ∈ as, ∃ o, h.get? a = some o
  self : ∀ {us H A} {s : Shared} {Q E : Value → Shared → Prop}, A.handled = none → Z us H s.heap → Q (.ref I) s → wpAny (model prog w) A (pyIter (.ref I)) Q E s
  next : ∀ {cx : Cx} {H ρ vr s u us} {P : Value → Shared → Prop} {Q : Option Value → Shared → Prop}, cx.prog = prog → cx.w = w → cx.A.handled = none → Inv cx H ρ vr s → Offs cx H ρ vr as → Z (u :: us) H s.heap →
    (∀ y s' H', H.le H' → Inv cx H' ρ vr s' → Offs cx H' ρ vr as → Rep H' y u → Z us H' s'.heap → P y s') → (∀ y s', Go cx (letOwnedTupleGo tgt (.ref I) y) (fun _ s'' => P y s'') s' → Q (some y) s') → Go cx (pyNext (.ref I)) Q s
  done : ∀ {cx : Cx} {H ρ vr s} {Q : Option Value → Shared → Prop}, cx.prog = prog → cx.w = w → cx.A.handled = none → Inv cx H ρ vr s → Offs cx H ρ vr as → Z [] H s.heap → (∀ s', Inv cx H ρ vr s' → Q none s') → Go cx (pyNext (.ref I)) Q s

section
variable {cx : Cx} {g : Gl} {d : Nat} {ns : Names} {b : Bool} {ρ ρ' : Env'} {H H' : HF} {vr vr' : Str → Option Value} {s s' : Shared} {I : Addr} {as bs : List Addr} {Z : List V → HF → Heap → Prop} {us vs : List V} {tgt : Expr} {prog : Program} {w : World}

theorem Itr.after (T : Itr prog w tgt I as Z) (i : Inv cx H ρ vr s) (ho : Offs cx H ρ vr as) (z : Z us H s.heap) (hd : ∀ a ∈ as, a ∉ bs) (l : H.le H') (i' : Inv (cx.withF (fixF cx H ρ vr s bs)) H' ρ' vr' s') : Offs cx H' ρ' vr' as ∧ Z us H' s'.heap :=
  have st := fun a h o e => Off.stay (ho a h) (hd a h) (o := o) e i'
  ⟨fun a h => (T.live z a h).elim fun o e => (st a h o e).1, T.mono z l (fun a h o e => (st a h o e).2) i.keepH i'.keepH⟩

/-- an iterator that the library's rules walk -/
structure IterAt (prog : Program) (w : World) (H : HF) (h : Heap) (I : Addr) (vs : List V) (fp : List Addr) (n : Nat) (P : Nat → Value → Prop) (St : Nat → Heap → Prop) (i : Nat) : Prop where
  W : ∀ A' : Around, A'.handled = none → Walks prog w A' I fp [I] n P St
  st : St i h
  n : i + vs.length = n
  item : ∀ j x, j < vs.length → P (i + j) x → ∃ v, vs[j]? = some v ∧ Rep H x v
  ex : ∀ i h, St i h → ∃ o n, h.get? I = some o ∧ o.cls = .type n ∧ (["enumerate", "zip", "dict_itemiterator", "dict_reverseitemiterator", "odict_iterator", "itertools.zip_longest", "itertools.pairwise"] : List String).contains n = false
  fp : ∀ b ∈ fp, b = I ∨ ∃ o, H b = some o
/-- the targets that we know -/
noncomputable def TgtF (tgt : Expr) : Prop := (∃ x p, tgt = .Name x p) ∨ ∃ es k p, tgt = .Tuple es k p
theorem go_pure (ht : TgtF tgt) {M : Model} {A : Around} {E : Value → Shared → Prop} {v : Value} {Q : Unit → Shared → Prop} {o : Obj} {n : String} (ho : s.heap.get? I = some o) (hc : o.cls = .type n)
    (hn : (["enumerate", "zip", "dict_itemiterator", "dict_reverseitemiterator", "odict_iterator", "itertools.zip_longest", "itertools.pairwise"] : List String).contains n = false) (h : Q () s) : wpAny M A (letOwnedTupleGo tgt (.ref I) v) Q E s := by
  rcases ht with ⟨x, p, rfl⟩ | ⟨es, k, p, rfl⟩
  · exact wpAny_pure h
  · cases v with
    | ref a =>
      refine wpAny_bind (wpAny_load ho ?_)
      rw [hc]
      cases o.data with
      | fields vs => dsimp only; rw [hn]; exact wpAny_pure h
      | _ => exact wpAny_pure h
    | _ => exact wpAny_pure h
theorem walk_itr (ht : TgtF tgt) {fp : List Addr} {n : Nat} {P : Nat → Value → Prop} {St : Nat → Heap → Prop} : Itr prog w tgt I [I] fun us H h => ∃ j, IterAt prog w H h I us fp n P St j where
  mono := fun ⟨j, x⟩ l hI hH hH' => ⟨j, x.W, (x.W { } rfl).frame j _ _ x.st (fun b hb o e => by
    rcases x.fp b hb with q | ⟨o', e'⟩
    · exact hI b (q ▸ .head _) o e
    · have := hH b o' e'
      rw [e] at this; cases this
      exact hH' b o (l b o e')), x.n, fun k v hj hp => (x.item k v hj hp).imp fun u q => ⟨q.1, q.2.mono l⟩, x.ex, fun b hb => (x.fp b hb).imp id fun q => q.imp fun o e => l b o e⟩
  live := fun ⟨j, x⟩ a ha => by
    obtain ⟨o, n, e, _⟩ := x.ex j _ x.st
    exact ⟨o, List.mem_singleton.mp ha ▸ e⟩
  self := fun hA ⟨j, x⟩ q => (x.W _ hA).self j _ _ _ x.st q
  next := fun {cx H ρ vr s u us P' Q} hp hw hA i ho ⟨j, x⟩ hP hQ => by
    subst hp; subst hw
    refine (x.W cx.A hA).item j s Q NoE (by have := x.n; rw [List.length_cons] at this; lia) x.st fun y h' tk hp st hk => ?_
    obtain ⟨u', hu, r⟩ := x.item 0 y (Nat.succ_pos _) hp
    cases hu
    obtain ⟨o, n, e, hc, hn⟩ := x.ex _ _ st
    refine hQ y _ (go_pure ht (s := { s with heap := h', toks := tk }) e hc hn (hP y _ H .rfl (i.extBut (ho I (.head _)) fun b ob hb e => hk b ob (fun q => hb (List.mem_singleton.mp q)) e) ho r ⟨j + 1, x.W, st, by have := x.n; rw [List.length_cons] at this; lia, fun k z hk2 hz => ?_, x.ex, x.fp⟩))
    exact x.item (k + 1) z (Nat.succ_lt_succ hk2) (by rw [show j + (k + 1) = j + 1 + k by lia]; exact hz)
  done := fun {cx H ρ vr s Q} hp hw hA i ho ⟨j, x⟩ h => by
    subst hp; subst hw
    refine (x.W cx.A hA).done s Q NoE (x.n ▸ x.st) fun h' tk hk => ?_
    exact h _ (i.extBut (ho I (.head _)) fun b o hb e => hk b o (fun q => hb (List.mem_singleton.mp q)) e)

/-- what may be gone through, and what it hands out -/
noncomputable def Iters (v : V) (vs : List V) : Prop := v.casesOn (motive_1 := fun _ => Prop) False (fun _ => False) (fun _ => False) (fun x => x.cps.all (· < 128) = true ∧ vs = x.cps.toList.map fun c => .str ⟨#[c]⟩) (fun ws => vs = ws) (fun ws => vs = ws) (fun _ _ => False)
  fun a b => Builtin.Range.small a b 1 = true ∧ vs = (List.range (b - a).toNat).map fun (i : Nat) => .int (a + (i : Int))

theorem Walks.tup {A : Around} (hh : A.handled = none) (I ax : Addr) (hne : ax ≠ I) (items : Array Value) :
    Walks prog w A I [I, ax] [I] items.size (fun i v => items[i]? = some v) (fun i h => h.IsTupleIter I ax i ∧ h.IsTuple ax items) where
  sub := fun b hb => List.mem_singleton.mp hb ▸ .head _
  frame := fun i h h' st hk => ⟨st.1.imp fun o r => ⟨hk I (.head _) o r.1, r.2⟩, st.2.imp fun o r => ⟨hk ax (.tail _ (.head _)) o r.1, r.2⟩⟩
  item := fun i s Q E hi st hQ => by
    refine wpAny_pyNext_tuple_item st.1 st.2 (x := items[i]) (Array.getElem?_eq_getElem hi) fun h' hit' hs' => ?_
    exact hQ _ h' s.toks (Array.getElem?_eq_getElem hi) ⟨hit', st.2.extBut hs'.extBut hne⟩ fun b o hb e => hs'.extBut b o (fun h => hb (h ▸ .head _)) e
  done := fun s Q E st hQ => wpAny_pyNext_tuple_end hh st.1 st.2 (by simp) fun h' he' => hQ h' s.toks fun b o hb e => he' b o (fun h => hb (h ▸ .head _)) e
  self := fun i s Q E st hQ => by
    refine wpAny_pyIter_slot st.1.typeIs PySem.F.slot_tuple_iterator_iter (wpAny_call_entry PySem.F.slot_tuple_iterator_iter st.1.typeIs PySem.F.entry_tuple_iterator_iter ?_ (PySem.F.args_tuple_iterator_iter_1 _))
    show wpAny _ _ (ret (.ref I)) _ _ s
    exact wpAny_pure ⟨_, rfl, "tuple_iterator", _, st.1.typeIs, PySem.F.slot_tuple_iterator_next.lookup, hQ⟩

theorem Off.one {a : Addr} (o : Off cx H ρ vr a) : Offs cx H ρ vr [a] := fun b h => List.mem_singleton.mp h ▸ o
theorem fp2 {I a : Addr} {o : Obj} (h : H a = some o) : ∀ b ∈ [I, a], b = I ∨ ∃ o, H b = some o := fun b hb => by
  rcases List.mem_cons.mp hb with q | q
  · exact .inl q
  · exact .inr ⟨o, List.mem_singleton.mp q ▸ h⟩
theorem fp1 {I : Addr} : ∀ b ∈ [I], b = I ∨ ∃ o, H b = some o := fun b hb => .inl (List.mem_singleton.mp hb)
theorem item_seq {its : List Value} (r : Reps H its vs) : ∀ (j : Nat) x, j < vs.length → its.toArray[0 + j]? = some x → ∃ v, vs[j]? = some v ∧ Rep H x v := fun j x _ e => r.get' (i := j) (by rw [Nat.zero_add, List.getElem?_toArray] at e; exact e)
theorem iter_start (ht : TgtF tgt) (hA : cx.A.handled = none) {x : Value} {v : V} (i : Inv cx H ρ vr s) (r : Rep H x v) (hi : Iters v vs) {K : Value → Shared → Prop}
    (k : ∀ I s' Z, Itr cx.prog cx.w tgt I [I] Z → Inv cx H ρ vr s' → Offs cx H ρ vr [I] → Z vs H s'.heap → K (.ref I) s') : Go cx (pyIter x) K s := by
  have done : ∀ {ob : Obj} {fp n P St}, IterAt cx.prog cx.w H (s.heap.push ob) s.heap.objs.size vs fp n P St 0 → K (.ref s.heap.objs.size) { s with heap := s.heap.push ob } := fun {ob fp n P St} t =>
    k _ { s with heap := s.heap.push ob } _ (walk_itr ht) (i.push ob) (Off.new i).one ⟨0, t⟩
  cases v with
  | lst ws =>
    cases (show vs = ws from hi)
    refine r.onLst fun a its n hH hr => ?_
    have ho := i.keepH _ _ hH
    exact wpAny_pyIter_list (items := its.toArray) ⟨_, ho, rfl, n, rfl⟩ (done ⟨fun A' hA' => Walks.list hA' s.heap.objs.size a (Nat.ne_of_lt (Heap.lt_size ho)) its.toArray, ⟨⟨_, Heap.get?_push_size _ rfl, rfl, rfl⟩, ⟨_, Heap.get?_push_of_some _ ho, rfl, n, rfl⟩⟩, (Nat.zero_add _).trans hr.size.symm, item_seq hr, fun i h st => st.1.imp fun o q => ⟨_, q.1, q.2.1, by decide⟩, fp2 hH⟩)
  | tup ws =>
    cases (show vs = ws from hi)
    refine r.onTup fun a its n hH hr => ?_
    have ho := i.keepH _ _ hH
    exact wpAny_pyIter_tuple (items := its.toArray) ⟨_, ho, rfl, n, rfl⟩ (done ⟨fun A' hA' => Walks.tup hA' s.heap.objs.size a (Nat.ne_of_lt (Heap.lt_size ho)) its.toArray, ⟨⟨_, Heap.get?_push_size _ rfl, rfl, rfl⟩, ⟨_, Heap.get?_push_of_some _ ho, rfl, n, rfl⟩⟩, (Nat.zero_add _).trans hr.size.symm, item_seq hr, fun i h st => st.1.imp fun o q => ⟨_, q.1, q.2.1, by decide⟩, fp2 hH⟩)
  | str x =>
    obtain ⟨ha, rfl⟩ := hi
    refine r.onStr fun t => ?_
    refine wpAny_pyIter_ascii ha (done ⟨fun A' hA' => Walks.strAscii hA' s.heap.objs.size x t, ⟨_, Heap.get?_push_size _ rfl, rfl, rfl⟩, by simp, fun j y hj hp => ?_, fun i h st => st.imp fun o q => ⟨_, q.1, q.2.1, by decide⟩, fp1⟩)
    obtain ⟨c, u, h1, rfl⟩ := hp
    simp at h1
    exact ⟨.str ⟨#[c]⟩, by simp [h1], .str⟩
  | rng a b =>
    obtain ⟨hs, rfl⟩ := hi
    refine r.onRng fun p t u w hH => ?_
    refine wpAny_pyIter_range (c := 1) (i.keepH _ _ hH) hs (done ⟨fun A' hA' => Walks.range hA' s.heap.objs.size a 1 (b - a).toNat, ?_, by simp, fun j y hj hp => ?_, fun i h st => ⟨_, _, st, rfl, by decide⟩, fp1⟩)
    · show IsRangeIter _ _ _ _ _
      rw [rangeSize_nat]; simpa using Heap.get?_push_size _ rfl
    · obtain ⟨t, rfl⟩ := hp
      simp only [List.length_map, List.length_range] at hj
      refine ⟨.int (a + j), by simp [hj], ?_⟩
      rw [show a + ((0 + j : Nat) : Int) * 1 = a + (j : Int) by simp]; exact .int
  | none => exact hi.elim
  | bool _ => exact hi.elim
  | int _ => exact hi.elim
  | obj _ _ => exact hi.elim

/-- what may come after an iterator has been made -/
noncomputable def KI (cx : Cx) (H : HF) (vr : Str → Option Value) (tgt : Expr) (Q : List V → Env' → Prop) (K : Value → Shared → Prop) : Prop :=
  ∀ I as Z s vs H' ρ', Itr cx.prog cx.w tgt I as Z → H.le H' → Inv cx H' ρ' vr s → Offs cx H' ρ' vr as → Z vs H' s.heap → Q vs ρ' → K (.ref I) s
/-- an expression that is gone through -/
noncomputable def Src (cx : Cx) (iter tgt : Expr) (ρ : Env') (Q : List V → Env' → Prop) : Prop := ∀ H vr s K, Inv cx H ρ vr s → KI cx H vr tgt Q K → Go cx (eval iter cx.env) (fun x s => Go cx (pyIter x) K s) s
inductive IterP (Q : List V → Prop) (v : V) : Prop
  | mk (vs : List V) (i : Iters v vs) (q : Q vs)
theorem src_of (c : Here cx g d ns b) (ht : TgtF tgt) {iter : Expr} {Q : List V → Env' → Prop} (h : Ev cx iter ρ fun v ρ₁ => IterP (fun vs => Q vs ρ₁) v) : Src cx iter tgt ρ Q := fun H vr s K i k =>
  h H vr s _ i fun x s1 v H1 ρ1 l1 i1 r1 q => q.rec fun vs hi q => iter_start ht c.ok.handled i1 r1 hi fun I s' Z T i' o z => k I [I] Z s' vs H1 ρ1 T l1 i' o z q

-- targets
inductive Tgt (ns : Names) (b : Bool) (tgt : Expr) (v : V) (ρ : Env') (Q : Env' → Prop) : Prop
  | name (x : Str) (p : Pos) (e : tgt = .Name x p) (h : Bind ns b x (.val v) ρ Q)
  | pair (x : Str) (p1 : Pos) (y : Str) (p2 : Pos) (k : Nat) (p3 : Pos) (u w : V) (e : tgt = .Tuple [.Name x p1, .Name y p2] k p3) (e2 : v = .tup [u, w]) (h : Bind ns b x (.val u) ρ fun ρ₁ => Bind ns b y (.val w) ρ₁ Q)
theorem tgt_assign (c : Here cx g d ns b) {v : V} {y : Value} {Q : Env' → Prop} {P : Unit → Shared → Prop} (i : Inv cx H ρ vr s) (h : Tgt ns b tgt v ρ Q) (r : Rep H y v) (hp : ∀ s' ρ' vr', Inv cx H ρ' vr' s' → Q ρ' → P () s') : Go cx (assign tgt cx.env y) P s := by
  cases h with
  | name x p e h => exact e ▸ wpAny_assign_Name (bind_store c i h r hp)
  | pair x p1 y p2 k p3 u w e e2 h =>
    subst e; subst e2
    refine r.onTup fun a its n hH hr => ?_
    refine hr.on2 (Ps := fun its => H a = some (tupO its n) → _) (fun x1 x2 r1 r2 hH => ?_) hH
    refine wpAny_assign_Tuple (items := #[x1, x2]) c.ok.handled ⟨_, i.keepH _ _ hH, rfl, n, rfl⟩ rfl rfl fun h' hk => ?_
    refine wpAny_assignInOrder_more (wpAny_assign_Name (bind_store c (i.extBut (t := s.toks) (Off.new i) fun b o hb e => hk b o hb e) h r1 fun s3 ρ3 vr3 i3 h3 => ?_))
    exact wpAny_assignInOrder_more (wpAny_assign_Name (bind_store c i3 h3 r2 fun s4 ρ4 vr4 i4 h4 => wpAny_assignInOrder_none (hp s4 ρ4 vr4 i4 h4)))

/-- a loop's promise -/
inductive LoopI (turn : (List V → Env' → Prop) → Prop) (Qn : Env' → Prop) (vs : List V) (ρ : Env') : Prop
  | mk (J : List V → Env' → Prop) (h0 : J vs ρ) (step : turn J) (fin : ∀ ρ, J [] ρ → Qn ρ)
inductive LF (cx : Cx) (H : HF) (as : List Addr) (Z : List V → HF → Heap → Prop) (J : List V → Env' → Prop) (m : Nat) (s : Shared) : Prop
  | mk (us : List V) (H' : HF) (ρ' : Env') (vr' : Str → Option Value) (l : H.le H') (i : Inv cx H' ρ' vr' s) (o : Offs cx H' ρ' vr' as) (z : Z us H' s.heap) (j : J us ρ') (e : us.length = m)
theorem x_for (c : Here cx g d ns b) {iter : Expr} {body : List Stmt} {pos : Pos} {Qn : Env' → Prop} {Qr : R → Env' → Prop}
    (h : Src cx iter tgt ρ (LoopI (fun J => ∀ u us ρ, J (u :: us) ρ → Tgt ns b tgt u ρ fun ρ₂ => ∀ cx' : Cx, Here cx' g d ns b → Ex cx' body ρ₂ (J us) Qr) Qn)) (hs : ∀ x, foldedSetIterable iter cx.env x = pure x := by intro _; rfl) : Ex1 cx (.For tgt iter body [] pos) ρ Qn Qr := fun H vr s K i kn kr => by
  refine wpAny_For (h H vr s _ i fun I as Z s2 vs H1 ρ1 T l1 i2 o2 z2 ⟨J, hJ, turn, fin⟩ => ?_) hs
  refine codeAny_forLoop_any (LF cx H as Z J) (fun m s3 ⟨us, H3, ρ3, vr3, l3, i3, o3, z3, hJ3, em⟩ => ?_) _ ⟨vs, H1, ρ1, vr, l1, i2, o2, z2, hJ, rfl⟩
  subst em
  refine Go.any ?_
  cases us with
  | nil => exact T.done rfl rfl c.ok.handled i3 o3 z3 fun s4 i4 => wpAny_execs_nil (kn s4 H3 ρ3 vr3 l3 i4 (fin ρ3 hJ3))
  | cons u us =>
    refine T.next (P := fun y s5 => Go cx (assign tgt cx.env y) _ s5) rfl rfl c.ok.handled i3 o3 z3 (fun y s4 H4 l4 i4 o4 r4 z4 => ?_) fun y s4 q => wpAny_mono q (fun _ s5 q => Go.any q) fun _ _ e => e.elim
    have hb : Offs cx H4 ρ3 vr3 [] := fun a h => nomatch h
    have c' := c.fix i4 hb
    refine tgt_assign c' i4.fix (turn u us ρ3 hJ3) r4 fun s5 ρ5 vr5 i5 h5 => ?_
    refine Go.any (cx := cx.withF (fixF cx H4 ρ3 vr3 s4 [])) ?_
    refine h5 _ c' H4 vr5 s5 _ i5 (fun s6 H6 ρ6 vr6 l6 i6 h6 => ?_) (fun x s6 r H6 ρ6 vr6 l6 i6 rr h6 => kr x s6 r H6 ρ6 vr6 (l3.trans (l4.trans l6)) (i6.back i4 hb) (rr.unF (fix_le i4 hb)) h6)
    obtain ⟨o6, z6⟩ := T.after (bs := []) i4 o4 z4 (fun _ _ h => nomatch h) l6 i6
    exact ⟨us.length, Nat.lt_succ_self _, us, H6, ρ6, vr6, l3.trans (l4.trans l6), i6.back i4 hb, o6, z6, h6, rfl⟩
end
end Mine

end
section
-- D8
open PySem PySem.W PySem.Calls PyProof.Rows
set_option Elab.async false
set_option linter.unusedVariables false
set_option maxRecDepth 100000
set_option genInjectivity false
set_option genSizeOfSpec false
namespace Mine

noncomputable abbrev testsSem (env : Env) (ifs : List Expr) : Sem Bool := forIn ifs true fun c r => if r = true then do let ok ← isTrue c env (eval c env); pure (ForInStep.yield ok) else pure (ForInStep.yield r)
/-- the tests of a clause -/
noncomputable def TestsP (cx : Cx) (ifs : List Expr) (ρ : Env') (Q : Bool → Env' → Prop) : Prop := ∀ H vr s K, Inv cx H ρ vr s → KB cx H vr Q K → Go cx (testsSem cx.env ifs) K s
theorem tests_nil {cx : Cx} {ρ : Env'} {Q : Bool → Env' → Prop} (h : Q true ρ) : TestsP cx [] ρ Q := fun H vr s K i k => wpAny_tests_nil (k _ s H ρ .rfl i h)
theorem tests_one {cx : Cx} {ρ : Env'} {t : Expr} {Q : Bool → Env' → Prop} (h : Tr cx t ρ Q) : TestsP cx [t] ρ Q := fun H vr s K i k => wpAny_tests_one (h H vr s K i k)
/-- one turn of a clause, before what G does -/
noncomputable def TurnP (g : Gl) (d : Nat) (ns : Names) (tgt : Expr) (ifs : List Expr) (G : Env' → List V → (List V → Env' → Prop) → Prop) (J : List V → List V → Env' → Prop) : Prop :=
  ∀ a u us ρ, J a (u :: us) ρ → Tgt ns true tgt u ρ fun ρ₂ => ∀ cx', Here cx' g d ns true → TestsP cx' ifs ρ₂ fun ok ρ₃ => Way ok (G ρ₃ a fun a' ρ₄ => J a' us ρ₄) (J a us ρ₃)
inductive LoopC (turn : (List V → List V → Env' → Prop) → Prop) (Q : List V → Env' → Prop) (acc vs : List V) (ρ : Env') : Prop
  | mk (J : List V → List V → Env' → Prop) (h0 : J acc vs ρ) (step : turn J) (fin : ∀ a ρ, J a [] ρ → Q a ρ)
/-- what the clauses of a comprehension do -/
noncomputable def GenP (g : Gl) (d : Nat) (ns : Names) (elt : Expr) (gs : List Comprehension) : Env' → List V → (List V → Env' → Prop) → Prop :=
  gs.rec (fun ρ acc Q => ∀ cx', Here cx' g d ns true → Ev cx' elt ρ fun y ρ' => acc.length < 100000 ∧ Q (acc ++ [y]) ρ')
    fun q _ ih ρ acc Q => (∀ env x, foldedSetIterable q.iter env x = pure x) ∧ ∀ cx', Here cx' g d ns true → Src cx' q.iter q.target ρ fun vs ρ₁ => LoopC (TurnP g d ns q.target q.ifs ih) Q acc vs ρ₁

section
variable {elt : Expr} {gens : List Comprehension} {scope : Scope} {pos : Pos} {k : Nat} {it acc : Value} {env : Env} {tgt iter : Expr} {ifs : List Expr}
noncomputable abbrev turnSem (elt : Expr) (gens : List Comprehension) (scope : Scope) (pos : Pos) (k : Nat) (it acc : Value) (env : Env) (tgt iter : Expr) (ifs : List Expr) (m : Sem Fin) : Sem Fin :=
  standAt iter.pos >>= fun _ => pyNext it >>= fun r => match r with
      | none => pure (.done .next)
      | some v => letOwnedTupleGo tgt it v >>= fun _ => assign tgt env v >>= fun _ => testsSem env ifs >>= fun ok =>
          if ok = true then m
          else again (.compLoop (.ListComp elt gens scope pos) k it acc env)
theorem compTurn_last (hg : gens[k]? = some ⟨tgt, iter, ifs, 0⟩) (hg' : gens[k + 1]? = none) :
    compTurn (.ListComp elt gens scope pos) k it acc env = turnSem elt gens scope pos k it acc env tgt iter ifs (do (do let x ← eval elt env; let _ ← call (.builtin "list.append") [acc, x]; pure ()); again (.compLoop (.ListComp elt gens scope pos) k it acc env)) := by
  unfold compTurn
  dsimp only
  rw [hg, hg']
  rfl
theorem compTurn_more {q : Comprehension} (hq : q.is_async = 0) (hg : gens[k]? = some ⟨tgt, iter, ifs, 0⟩) (hg' : gens[k + 1]? = some q) :
    compTurn (.ListComp elt gens scope pos) k it acc env = turnSem elt gens scope pos k it acc env tgt iter ifs (do
              let x ← eval q.iter env
              standAt q.iter.pos
              let x ← foldedSetIterable q.iter env x
              let i ← holding [x] (pyIter x)
              let _ ← runOwn (.compStart (.ListComp elt gens scope pos) (k + 1) i acc env) env
              again (.compLoop (.ListComp elt gens scope pos) k it acc env)) := by
  obtain ⟨t, i, f, z⟩ := q
  cases hq
  unfold compTurn
  dsimp only
  rw [hg, hg']
  rfl
theorem codeAny_compStart_at {prog : Program} {w : World} {A : Around} {R : Result → Shared → Prop} {s : Shared} {q : Comprehension} (hq : q.is_async = 0) (hg : gens[k]? = some q)
    (h0 : codeAny (model prog w) A (.compLoop (.ListComp elt gens scope pos) k it acc env) R s)
    (h : wpAny (model prog w) A (pyIter it) (fun it' s' => codeAny (model prog w) A (.compLoop (.ListComp elt gens scope pos) k it' acc env) R s') (notedBy (model prog w) A env fun x s' => R (.error x) s') s) :
    codeAny (model prog w) A (.compStart (.ListComp elt gens scope pos) k it acc env) R s := by
  obtain ⟨t, iter, f, z⟩ := q
  cases hq
  refine codeAny_of_tree ?_
  show wpAny _ _ ((compStart (.ListComp elt gens scope pos) k it acc env).onRaise (fun x => do noteFrame x env; standAt theWindowsPlace)) _ _ s
  refine wpAny_notedAt ?_
  unfold compStart
  rw [show clausesOf (.ListComp elt gens scope pos) = gens from rfl, hg]
  show wpAny _ _ (ask >>= _) _ _ s
  refine wpAny_bind (wpAny_askSetting (wpAny_ite ?_))
  split
  · exact wpAny_bind (wpAny_pure (wpAny_pure (And.intro rfl h0)))
  · refine wpAny_bind (wpAny_rule ?_); show wpAny _ _ (standAt iter.pos >>= _) _ _ s; exact wpAny_bind (wpAny_standAt (wpAny_bind (wpAny_mono h (fun it' s' h' => wpAny_pure (And.intro rfl h')) fun _ _ x => x)))
end

section
variable {cx : Cx} {g : Gl} {d : Nat} {ns : Names} {ρ ρ' : Env'} {H H' : HF} {vr vr' : Str → Option Value} {s s' : Shared} {I D : Addr} {as bs : List Addr} {Z : List V → HF → Heap → Prop} {acc us vs : List V} {tgt iter elt : Expr} {ifs : List Expr} {gens gs : List Comprehension} {scope : Scope} {pos : Pos} {k : Nat} {J : List V → List V → Env' → Prop} {K : Result → Shared → Prop}
theorem noOffs : Offs cx H ρ vr [] := fun a h => nomatch h
theorem not_nil {a : Addr} : a ∉ ([] : List Addr) := fun h => nomatch h
theorem AccAt.stay (a : AccAt cx H ρ vr s.heap D acc) (hn : D ∉ bs) (l : H.le H') (i' : Inv (cx.withF (fixF cx H ρ vr s bs)) H' ρ' vr' s') : AccAt cx H' ρ' vr' s'.heap D acc :=
  a.rec fun off o => o.rec fun its n f g q r => have st := off.stay hn q i'; ⟨st.1, its, n, f, st.1.H, st.2, r.mono l⟩
theorem AccAt.ground {cx' : Cx} (e : cx' = cx.withF cx'.F) {h : Heap} (a : AccAt cx H ρ vr h D acc) (hn : cx'.F D = none) : AccAt cx' H ρ vr h D acc := a.rec fun off o => ⟨off.ground e hn, o.ground hn⟩
theorem AccAt.live (a : AccAt cx H ρ vr s.heap D acc) : ∃ o, s.heap.get? D = some o := a.rec fun off o => o.rec fun its n f g q r => ⟨_, q⟩
theorem Off.fixed {a : Addr} {o : Obj} (f : Off cx H ρ vr a) (n : a ∉ bs) (e : s.heap.get? a = some o) : fixF cx H ρ vr s bs a = some o := (still_of (fun q => by
    rcases q with q | ⟨x, hm, hx⟩ | q | q
    · exact f.L q
    · exact f.C x hx
    · exact f.O q
    · exact n q) f.H).trans e

inductive LC (cx : Cx) (H : HF) (as : List Addr) (Z : List V → HF → Heap → Prop) (D : Addr) (J : List V → List V → Env' → Prop) (m : Nat) (s : Shared) : Prop
  | mk (acc us : List V) (H' : HF) (ρ' : Env') (vr' : Str → Option Value) (l : H.le H') (i : Inv cx H' ρ' vr' s) (o : Offs cx H' ρ' vr' as) (z : Z us H' s.heap) (a : AccAt cx H' ρ' vr' s.heap D acc) (j : J acc us ρ') (e : us.length = m)
/-- what is done where the tests hold -/
noncomputable def EmitP (cx : Cx) (as : List Addr) (Z : List V → HF → Heap → Prop) (D : Addr) (G : Env' → List V → (List V → Env' → Prop) → Prop) (C : Code) (m : Sem Fin) : Prop :=
  ∀ H ρ vr s acc us (P : List V → Env' → Prop) (K : Fin → Shared → Prop), Inv cx H ρ vr s → Offs cx H ρ vr as → Z us H s.heap → AccAt cx H ρ vr s.heap D acc → G ρ acc P →
    (∀ s' H' ρ' vr' acc', H.le H' → Inv cx H' ρ' vr' s' → Offs cx H' ρ' vr' as → Z us H' s'.heap → AccAt cx H' ρ' vr' s'.heap D acc' → P acc' ρ' → K (.again C) s') → Go cx m K s
theorem turn_run (c : Here cx g d ns true) (T : Itr cx.prog cx.w tgt I as Z) (hD : D ∉ as) {G : Env' → List V → (List V → Env' → Prop) → Prop} (hL : TurnP g d ns tgt ifs G J) {m : Sem Fin} (hm : EmitP cx as Z D G (.compLoop (.ListComp elt gens scope pos) k (.ref I) (.ref D) cx.env) m)
    (hT : compTurn (.ListComp elt gens scope pos) k (.ref I) (.ref D) cx.env = turnSem elt gens scope pos k (.ref I) (.ref D) cx.env tgt iter ifs m)
    (i : Inv cx H ρ vr s) (o : Offs cx H ρ vr as) (z : Z us H s.heap) (a : AccAt cx H ρ vr s.heap D acc) (hJ : J acc us ρ) (kk : ∀ s' H' ρ' vr' acc', H.le H' → Inv cx H' ρ' vr' s' → AccAt cx H' ρ' vr' s'.heap D acc' → J acc' [] ρ' → K (.ok .next) s') :
    codeAny (model cx.prog cx.w) cx.A (.compLoop (.ListComp elt gens scope pos) k (.ref I) (.ref D) cx.env) K s := by
  refine codeAny_loop rfl (LC cx H as Z D J) (fun n s0 ⟨acc0, us, H0, ρ0, vr0, l0, i, o, z, a, hJ, e⟩ => ?_) _ ⟨acc, us, H, ρ, vr, .rfl, i, o, z, a, hJ, rfl⟩
  subst e
  show wpAny _ cx.A ((compTurn (.ListComp elt gens scope pos) k (.ref I) (.ref D) cx.env).onRaise (fun x => do noteFrame x cx.env; theTreesLotGoes x)) _ _ s0
  refine wpAny_noted ?_
  rw [hT]
  refine Go.any (wpAny_bind (wpAny_standAt (wpAny_bind ?_)))
  cases us with
  | nil => exact T.done (cx := cx.withF (fixF cx H0 ρ0 vr0 s0 as)) rfl rfl c.ok.handled i.fix o.fix z fun s1 i1 => wpAny_pure (kk s1 H0 ρ0 vr0 acc0 l0 (i1.back i o) (a.stay hD .rfl i1) hJ)
  | cons u us =>
    refine T.next (cx := cx.withF (fixF cx H0 ρ0 vr0 s0 as)) (P := fun y s => Go cx (assign tgt cx.env y >>= fun _ => _) _ s) rfl rfl c.ok.handled i.fix o.fix z (fun y s1 H1 l1 i1 o1 r1 z1 => ?_) fun y s1 q => wpAny_bind q
    have i1' := i1.back i o
    have a1 := a.stay hD l1 i1
    have o1 : Offs cx H1 ρ0 vr0 as := fun a h => (o1 a h).unF (fix_le i o)
    clear i1 i o z a
    have c' := c.fix i1' noOffs
    refine wpAny_bind (tgt_assign c' i1'.fix (hL acc0 u us ρ0 hJ) r1 fun s2 ρ2 vr2 i2 h2 => wpAny_bind (h2 _ c' H1 vr2 s2 _ i2 fun ok s3 H3 ρ3 l3 i3 h3 => ?_))
    have i3' := i3.back i1' noOffs
    have tz := T.after i1' o1 z1 (fun a _ => not_nil) l3 i3
    have a3 := a1.stay not_nil l3 i3
    have l03 := l0.trans (l1.trans l3)
    clear i1' a1 o1 i2 i3
    cases ok with
    | false => exact wpAny_pure ⟨rfl, us.length, Nat.lt_succ_self _, acc0, us, H3, ρ3, vr2, l03, i3', tz.1, tz.2, a3, h3, rfl⟩
    | true => exact (hm H3 ρ3 vr2 s3 acc0 us _ _ i3' tz.1 tz.2 a3 h3 fun s4 H4 ρ4 vr4 acc4 l4 i4 o4 z4 a4 j4 => ⟨rfl, us.length, Nat.lt_succ_self _, acc4, us, H4, ρ4, vr4, l03.trans l4, i4, o4, z4, a4, j4, rfl⟩)

theorem emit_last {C : Code} (c : Here cx g d ns true) (T : Itr cx.prog cx.w tgt I as Z) (hD : D ∉ as) : EmitP cx as Z D (GenP g d ns elt []) C (do (do let x ← eval elt cx.env; let _ ← call (.builtin "list.append") [.ref D, x]; pure ()); again C) := fun H ρ vr s acc us P K i o z a h k => by
  refine wpAny_bind (wpAny_bind ((show ∀ cx', Here cx' g d ns true → Ev cx' elt ρ fun y ρ' => acc.length < 100000 ∧ P (acc ++ [y]) ρ' from h) _ (c.fix i noOffs) H vr s _ i.fix fun x s4 v H4 ρ4 l4 i4 r4 q => ?_))
  have i4' := i4.back i noOffs
  have tz := T.after i o z (fun a _ => not_nil) l4 i4
  obtain ⟨off, its, n, f1, f2, f3, f4⟩ := a.stay not_nil l4 i4
  clear i4 i o z a
  refine wpAny_bind (call_meets PySem.F.slot_list_append ⟨_, f3, rfl⟩ PySem.F.entry_list_append (PySem.F.args_list_append_2 _ _) (list_append D its.toArray n _ (f4.sz (Nat.le_of_lt q.1))) ⟨f3, ?_⟩)
  have hs : Heap.SameBut D s4.heap (s4.heap.update D (Obj.mapSeq (·.push x))) := Heap.SameBut.update ..
  have i5 := i4'.extBut (t := s4.toks) off fun b o hb e => (hs.2 b hb).trans e
  exact wpAny_pure (wpAny_pure (k _ H4 ρ4 vr (acc ++ [v]) l4 i5 tz.1 (T.mono tz.2 .rfl (fun a h ob e => (hs.2 a fun q => hD (q ▸ h)).trans e) i4'.keepH i5.keepH) ⟨off, its ++ [x], _, f1, f2, (IsL.update (items := its.toArray) f3 (·.push x)).trans (by rw [List.push_toArray]), f4.snoc r4⟩ q.2))

theorem loop_run : ∀ (gs : List Comprehension) (k : Nat) (tgt iter : Expr) (ifs : List Expr), gens.drop k = ⟨tgt, iter, ifs, 0⟩ :: gs → (∀ q ∈ gs, q.is_async = 0) →
    ∀ {cx : Cx} {H ρ vr s I as Z acc us J K}, Here cx g d ns true → Itr cx.prog cx.w tgt I as Z → D ∉ as → TurnP g d ns tgt ifs (GenP g d ns elt gs) J → Inv cx H ρ vr s → Offs cx H ρ vr as → Z us H s.heap → AccAt cx H ρ vr s.heap D acc → J acc us ρ →
      (∀ s' H' ρ' vr' acc', H.le H' → Inv cx H' ρ' vr' s' → AccAt cx H' ρ' vr' s'.heap D acc' → J acc' [] ρ' → K (.ok .next) s') → codeAny (model cx.prog cx.w) cx.A (.compLoop (.ListComp elt gens scope pos) k (.ref I) (.ref D) cx.env) K s := by
  intro gs
  induction gs with
  | nil =>
    intro k tgt iter ifs hd hz cx H ρ vr s I as Z acc us J K c T hD hL i o z a hJ kk
    refine turn_run (iter := iter) c T hD hL (emit_last c T hD) (compTurn_last ?_ ?_) i o z a hJ kk
    · have := congrArg (·[0]?) hd
      rwa [List.getElem?_drop] at this
    · have := congrArg (·[1]?) hd
      rwa [List.getElem?_drop] at this
  | cons q gs ih =>
    intro k tgt iter ifs hd hz cx H ρ vr s I as Z acc us J K c T hD hL i o z a hJ kk
    have hg : gens[k]? = some ⟨tgt, iter, ifs, 0⟩ := by
      have := congrArg (·[0]?) hd
      rwa [List.getElem?_drop] at this
    have hgk : gens[k + 1]? = some q := by
      have := congrArg (·[1]?) hd
      rwa [List.getElem?_drop] at this
    have hdk : gens.drop (k + 1) = q :: gs := by
      have := congrArg (List.drop 1) hd
      rwa [List.drop_drop] at this
    have hq : q.is_async = 0 := hz q (.head _)
    · refine turn_run (iter := iter) c T hD hL (fun H ρ vr s acc us P K i o z a h k' => ?_) (compTurn_more hq hg hgk) i o z a hJ kk
      obtain ⟨hfold, h⟩ := h
      refine wpAny_bind (wpAny_mono (h _ (c.fix i noOffs) H vr s _ i.fix fun I' as' Z' s5 vs' H5 ρ5 T' l5 i5 o5 z5 ⟨J', hJ', hL', hfin⟩ => ?_) (fun x s' q => wpAny_bind (wpAny_standAt (wpAny_bind (wpAny_of_eq (hfold _ x) (wpAny_bind (wpAny_holding q)))))) fun _ _ e => e)
      have dis : ∀ {a : Addr} {ob : Obj}, Off cx H ρ vr a → s.heap.get? a = some ob → a ∉ as' := fun {a ob} f e q => by
        have := (o5 a q).F
        rw [show (cx.withF (fixF cx H ρ vr s [])).F a = some ob from f.fixed not_nil e] at this; cases this
      have hDn : D ∉ as' := a.rec fun off o => o.rec fun its n f g q r => dis off q
      have tz := T.after i o z (fun a _ => not_nil) l5 i5
      have a5 := a.stay not_nil l5 i5
      have i5' := i5.back i noOffs
      have hI : ∀ a ∈ as, a ∉ D :: as' := fun a h q => by
        rcases List.mem_cons.mp q with q | q
        · exact hD (q ▸ h)
        · obtain ⟨ob, e⟩ := T.live z a h
          exact dis (o a h) e q
      have o5' : Offs cx H5 ρ5 vr (D :: as') := fun b q => by
        rcases List.mem_cons.mp q with q | q
        · exact q ▸ a5.rec fun off o => off
        · exact (o5 b q).unF (fix_le i noOffs)
      clear i5 i z a o dis o5
      have c2 := c.fix i5' o5'
      have i6 : Inv _ H5 ρ5 vr s5 := i5'.fix (as := D :: as')
      have inner := ih (k + 1) q.target q.iter q.ifs (hdk.trans (by obtain ⟨_, _, _, _⟩ := q; cases hq; rfl)) (fun p hp => hz p (.tail _ hp)) (cx := cx.withF (fixF cx H5 ρ5 vr s5 (D :: as'))) (K := fun r s' => r = .ok .next ∧ K (.again (.compLoop (.ListComp elt gens scope pos) k (.ref I) (.ref D) cx.env)) s') c2 T' hDn hL' i6 (fun b h => o5'.fix b (.tail _ h)) z5 (a5.ground rfl (still_not (.inr (.inr (.inr (.head _)))))) hJ'
        fun s6 H6 ρ6 vr6 acc6 l6 i6 a6 h6 => by
          have tz6 := T.after i5' tz.1 tz.2 hI l6 i6
          exact ⟨rfl, k' s6 H6 ρ6 vr6 acc6 (l5.trans l6) (i6.back i5' o5') tz6.1 tz6.2 (AccAt.ground (cx := cx.withF (fixF cx H5 ρ5 vr s5 (D :: as'))) (cx' := cx) rfl a6 (a5.rec fun off o => off.F)) (hfin _ _ h6)⟩
      refine wpAny_bind (wpAny_runOwn (codeAny_mono (codeAny_compStart_at (prog := cx.prog) (w := cx.w) (A := cx.A) hq hgk inner (T'.self c.ok.handled z5 inner)) fun r s6 ⟨e, h⟩ => ?_))
      subst e
      exact wpAny_pure h
end
end Mine

end
section
-- D9
open PySem PySem.W PySem.Calls PyProof.Rows
set_option Elab.async false
set_option linter.unusedVariables false
set_option maxRecDepth 100000
set_option genInjectivity false
set_option genSizeOfSpec false
namespace Mine

/-- the cells that a comprehension takes from around -/
noncomputable def closL (cells : List (Str × Addr)) (ns : Names) : List (Str × Addr) → List (Str × Addr) := ns.rec id fun p _ ih cs => ih (bif p.2 == .free then (p.1, (cells.lookup p.1).getD 0) :: cs else cs)
theorem clos_eq {scope : Scope} {env : Env} (h : ∀ x, (x, NameKind.free) ∈ scope.names → ∃ c, env.cells.lookup x = some c) : closureFor scope env = pure (closL env.cells scope.names []) := by
  unfold closureFor
  have main : ∀ (ns : Names) (cs : List (Str × Addr)), (∀ x, (x, NameKind.free) ∈ ns → ∃ c, env.cells.lookup x = some c) →
      (forIn ns cs (fun (x : Str × NameKind) r => (match x with | (name, kind) => if (kind == NameKind.free) = true then (do let a ← cellOf env name; pure (ForInStep.yield ((name, a) :: r))) else pure (ForInStep.yield r))) : Sem (List (Str × Addr))) = pure (closL env.cells ns cs) := by
    intro ns
    induction ns with
    | nil => intro cs _; rfl
    | cons p ns ih =>
      intro cs h
      obtain ⟨n, k⟩ := p
      rw [List.forIn_cons]
      dsimp only
      have ih := fun cs => ih cs fun x hx => h x (.tail _ hx)
      cases k with
      | free =>
        obtain ⟨c, hc⟩ := h n (.head _)
        have : cellOf env n = pure c := by unfold cellOf; rw [hc]
        show (if (true : Bool) = true then _ else _) >>= _ = _
        rw [if_pos rfl, this]
        refine (ih _).trans (congrArg pure ?_)
        show closL env.cells ns _ = closL env.cells ns ((n, (env.cells.lookup n).getD 0) :: cs)
        rw [hc]; rfl
      | _ => exact ih cs
  have := main scope.names [] h
  simp only [bind_pure_comp] at this ⊢
  first | (rw [this]; done) | (simp only [this]; rfl) | (rw [this]; rfl)
section
variable {cells : List (Str × Addr)} {x : Str} {a : Addr}
theorem closL_mem : ∀ (ns : Names) (cs : List (Str × Addr)), (x, a) ∈ closL cells ns cs → (x, a) ∈ cs ∨ ((x, NameKind.free) ∈ ns ∧ a = (cells.lookup x).getD 0) := fun ns => by
  induction ns with
  | nil => exact fun cs h => .inl h
  | cons p ns ih =>
    obtain ⟨n, k⟩ := p
    intro cs h
    rcases ih _ h with h | h
    · cases k with
      | free =>
        rcases List.mem_cons.mp h with e | h
        · cases e; exact .inr ⟨.head _, rfl⟩
        · exact .inl h
      | _ => exact .inl h
    · exact .inr ⟨.tail _ h.1, h.2⟩
theorem closL_has : ∀ (ns : Names) (cs : List (Str × Addr)), ((x, NameKind.free) ∈ ns ∨ (cs.lookup x).isSome = true) → ((closL cells ns cs).lookup x).isSome = true := fun ns => by
  induction ns with
  | nil => exact fun cs h => h.elim (fun h => nomatch h) id
  | cons p ns ih =>
    obtain ⟨n, k⟩ := p
    intro cs h
    refine ih _ ?_
    have key : (cs.lookup x).isSome = true → ((bif k == .free then (n, (cells.lookup n).getD 0) :: cs else cs).lookup x).isSome = true := fun q => by
      clear h
      cases k with
      | free =>
        show (List.lookup x (_ :: cs)).isSome = true
        rw [List.lookup_cons]
        cases x == n <;> first | rfl | exact q
      | _ => exact q
    rcases h with h | h
    · rcases List.mem_cons.mp h with e | h
      · cases e
        refine .inr ?_
        show (List.lookup x (_ :: cs)).isSome = true
        rw [List.lookup_cons, beq_self_eq_true x]; rfl
      · exact .inl h
    · exact .inr (key h)
end
theorem cellsFrom_app : ∀ (ns : Names) (n : Nat) (acc : List (Str × Addr)), cellsFrom n ns acc = cellsFrom n ns [] ++ acc := fun ns => by
  induction ns with
  | nil => exact fun _ _ => rfl
  | cons p r ih =>
    obtain ⟨x, k⟩ := p
    intro n acc
    cases k with
    | cell =>
      show cellsFrom (n + 1) r ((x, n) :: acc) = cellsFrom (n + 1) r [(x, n)] ++ acc
      rw [ih (n + 1) ((x, n) :: acc), ih (n + 1) [(x, n)], List.append_assoc]; rfl
    | _ => exact ih n acc
theorem lookup_relabel {env : Env} {x : Str} {k : NameKind} : ∀ {names : Names}, names.lookup x = some k →
    (names.map fun (n, k) => if (k == NameKind.free && env.scope.kind == .function && env.kindOf n == some .cell) then (n, NameKind.cell) else (n, k)).lookup x =
      some (if (k == NameKind.free && env.scope.kind == .function && env.kindOf x == some .cell) then .cell else k) := fun {names} => by
  induction names with
  | nil => exact fun h => nomatch h
  | cons p r ih =>
    obtain ⟨n, k'⟩ := p
    intro h
    show List.lookup x ((if (k' == NameKind.free && env.scope.kind == .function && env.kindOf n == some .cell) = true then (n, NameKind.cell) else (n, k')) :: _) = _
    rw [List.lookup_cons] at h
    by_cases hx : x = n
    · subst hx
      rw [beq_self_eq_true x] at h
      have e := Option.some.inj h
      subst e
      by_cases q : (k' == NameKind.free && env.scope.kind == .function && env.kindOf x == some .cell) = true
      · rw [if_pos q, if_pos q, List.lookup_cons, beq_self_eq_true x]
      · rw [if_neg q, if_neg q, List.lookup_cons, beq_self_eq_true x]
    · rw [beq_eq_false_iff_ne.mpr hx] at h
      refine Eq.trans ?_ (ih h)
      by_cases q : (k' == NameKind.free && env.scope.kind == .function && env.kindOf n == some .cell) = true
      · rw [if_pos q, List.lookup_cons, beq_eq_false_iff_ne.mpr hx]
      · rw [if_neg q, List.lookup_cons, beq_eq_false_iff_ne.mpr hx]

/-- a comprehension's names may be read so -/
noncomputable def compNamesOk (ns : Names) : Bool := ns.all fun p => !(p.1 == ("__debug__" : Str)) && !(p.1 == ("__classdict__" : Str)) && !(p.2 == .globalExplicit)
noncomputable def freeIn (ns nc : Names) : Bool := nc.all fun p => !(p.2 == .free) || ns.any fun q => q.1 == p.1 && (q.2 == .cell || q.2 == .free)
structure CompOk (ns : Names) (scope : Scope) : Prop where
  nd : (scope.names.map (·.1)).Nodup
  ok : compNamesOk scope.names = true
  fr : freeIn ns scope.names = true
  kind : scope.kind = .function
/-- where a comprehension's names stand around -/
noncomputable def compAt : Names → Names → List (Option Nat) → Bool
  | _, [], [] => true
  | ns, _ :: nc, none :: js => compAt ns nc js
  | ns, p :: nc, some j :: js => p.2 == .free && (ns[j]?).any (·.1 == p.1) && compAt ns nc js
  | _, _, _ => false
noncomputable def slotV (o : Option (Option Slot)) : Option Slot := match o with
  | some (some (.val v)) => some (.val v)
  | _ => none
/-- its slots at the start -/
noncomputable def compEnv (ρ : Env') (js : List (Option Nat)) : Env' := js.map fun j => j.elim none fun j => slotV ρ[j]?
theorem slotV_some {o : Option (Option Slot)} {sl : Slot} (h : slotV o = some sl) : o = some (some sl) ∧ ∃ v, sl = .val v := by
  cases o with
  | none => cases h
  | some o => cases o with
    | none => cases h
    | some q => cases q with
      | val v => cases h; exact ⟨rfl, v, rfl⟩
      | own ws => cases h
theorem compAt_of {ns : Names} {ρ : Env'} : ∀ {nc : Names} {js : List (Option Nat)}, compAt ns nc js = true → js.length = nc.length ∧ ∀ (i : Nat) (x : Str) (k : NameKind) (sl : Slot), nc[i]? = some (x, k) → (compEnv ρ js)[i]? = some (some sl) → k = .free ∧ ∃ (v : V) (k' : NameKind) (j : Nat), sl = Slot.val v ∧ ns[j]? = some (x, k') ∧ ρ[j]? = some (some (Slot.val v)) := fun {nc} => by
  induction nc with
  | nil =>
    intro js h
    cases js with
    | nil => exact ⟨rfl, fun i x k sl e => nomatch e⟩
    | cons o js => cases o <;> cases h
  | cons p nc ih =>
    intro js h
    cases js with
    | nil => cases h
    | cons o js =>
      cases o with
      | none =>
        obtain ⟨a, b⟩ := ih (js := js) h
        refine ⟨congrArg (· + 1) a, fun i x k sl h1 h2 => ?_⟩
        cases i with
        | zero => cases h2
        | succ i => exact b i x k sl h1 h2
      | some j =>
        obtain ⟨h0, h⟩ := Bool.and_eq_true_iff.mp (show (p.2 == .free && (ns[j]?).any (·.1 == p.1) && compAt ns nc js) = true from h)
        obtain ⟨a, b⟩ := ih (js := js) h
        refine ⟨congrArg (· + 1) a, fun i x k sl h1 h2 => ?_⟩
        cases i with
        | zero =>
          cases h1
          obtain ⟨hk, hn⟩ := Bool.and_eq_true_iff.mp h0
          obtain ⟨e, v, rfl⟩ := slotV_some (Option.some.inj h2)
          refine ⟨by simpa using hk, v, ?_⟩
          cases q : ns[j]? with
          | none => rw [q] at hn; cases hn
          | some p' =>
            rw [q] at hn
            refine ⟨p'.2, j, rfl, ?_, e⟩
            rw [q, ← show p'.1 = x by simpa using hn]
        | succ i => exact b i x k sl h1 h2

section
variable {cx : Cx} {g : Gl} {d : Nat} {ns : Names} {b : Bool} {ρ : Env'} {H : HF} {vr : Str → Option Value} {s : Shared} {scope : Scope}
theorem freeIn_of {nc : Names} (h : freeIn ns nc = true) {x : Str} (hx : (x, NameKind.free) ∈ nc) : (x, NameKind.cell) ∈ ns ∨ (x, NameKind.free) ∈ ns := by
  have := List.all_eq_true.mp h _ hx
  simp only [beq_self_eq_true, Bool.not_true, Bool.false_or] at this
  obtain ⟨⟨y, k⟩, hm, hq⟩ := List.any_eq_true.mp this
  simp only [Bool.and_eq_true, Bool.or_eq_true, beq_iff_eq] at hq
  obtain ⟨rfl, rfl | rfl⟩ := hq
  · exact .inl hm
  · exact .inr hm
theorem newEnv_cells {M : Model} {A : Around} {E : Value → Shared → Prop} {globals : Addr} {cl : List (Str × Addr)} {qual : Str} {outer : Env} {Q : Env → Shared → Prop}
    (h : Q (newEnv scope s.heap.objs.size globals (cellsFrom (s.heap.objs.size + 1) scope.names cl) qual none .none (some outer) builtinsNs) { s with heap := pushCells (s.heap.push { cls := .type "dict", data := .dict #[] }) scope.names }) :
    wpAny M A (newFunctionEnv scope globals cl [] qual none .none (some outer)) Q E s := by
  simp only [newFunctionEnv, Option.isSome_some, if_true]
  refine wpAny_bind (wpAny_alloc (wpAny_bind (wpAny_layCells _ (fun name kind cells => by cases hkc : kind == NameKind.cell <;> simp [hkc]) _ _ _ _ ?_)))
  rw [show ({ s with heap := s.heap.push { cls := .type "dict", data := .dict #[] } } : Shared).heap.objs.size = s.heap.objs.size + 1 from Heap.size_push .., List.forIn_nil]
  exact wpAny_bind (wpAny_pure (wpAny_pure h))
/-- the cells of a comprehension -/
noncomputable def compL (cells : List (Str × Addr)) (ns : Names) (C : Addr) : List (Str × Addr) := cellsFrom (C + 1) ns (closL cells ns [])
noncomputable def compCx (cx : Cx) (scope : Scope) (H : HF) (h : Heap) (C : Addr) (as : List Addr) : Cx :=
  { cx with env := compEnvC scope (compL cx.env.cells scope.names C) C cx.env, names := scope.names, F := stillF (· ∈ as) H h, wr := true, pin := none, kept := (scope.names.filter fun p => p.2 == .free).map (·.1) }

theorem CompOk.one (F : CompOk ns scope) {x : Str} {k k' : NameKind} (h1 : (x, k) ∈ scope.names) (h2 : (x, k') ∈ scope.names) : k = k' :=
  Option.some.inj ((lookup_of_nodup F.nd h1).symm.trans (lookup_of_nodup F.nd h2))
theorem CompOk.cells (F : CompOk ns scope) (c : Here cx g d ns b) {x : Str} (hx : (x, NameKind.free) ∈ scope.names) : ∃ a, cx.env.cells.lookup x = some a := by
  rcases freeIn_of F.fr hx with h | h
  · exact (c.ok.kCell x (c.names.symm ▸ h)).2
  · exact (c.ok.kFree x (c.names.symm ▸ h)).2
theorem CompOk.clos (F : CompOk ns scope) (c : Here cx g d ns b) {x : Str} {a : Addr} (e : (closL cx.env.cells scope.names []).lookup x = some a) : (x, NameKind.free) ∈ scope.names ∧ cx.env.cells.lookup x = some a := by
  rcases closL_mem _ _ (PySem.mem_of_lookup e) with h | ⟨h1, h2⟩
  · nomatch h
  · obtain ⟨c', hc'⟩ := F.cells c h1
    rw [hc'] at h2; exact ⟨h1, h2 ▸ hc'⟩
theorem compL_look (cells : List (Str × Addr)) (nc : Names) (C : Addr) (x : Str) : (compL cells nc C).lookup x = ((cellsFrom (C + 1) nc []).lookup x).or ((closL cells nc []).lookup x) := by
  unfold compL; rw [cellsFrom_app, List.lookup_append]
theorem CompOk.look (F : CompOk ns scope) (c : Here cx g d ns b) {C : Addr} {x : Str} {a : Addr} (e : (compL cx.env.cells scope.names C).lookup x = some a) :
    ((x, NameKind.free) ∈ scope.names ∧ cx.env.cells.lookup x = some a) ∨ ((x, NameKind.cell) ∈ scope.names ∧ (x, a) ∈ cellsFrom (C + 1) scope.names []) := by
  rw [compL_look] at e
  cases q : (cellsFrom (C + 1) scope.names []).lookup x with
  | some a' =>
    rw [q] at e; cases e
    exact .inr ⟨(cellsFrom_mem _ _ _ (PySem.mem_of_lookup q)).resolve_left (fun h => nomatch h), PySem.mem_of_lookup q⟩
  | none => rw [q] at e; exact .inl (F.clos c e)
theorem CompOk.lookF (F : CompOk ns scope) (c : Here cx g d ns b) (C : Addr) {x : Str} (hx : (x, NameKind.free) ∈ scope.names) : ∃ a, (compL cx.env.cells scope.names C).lookup x = some a ∧ cx.env.cells.lookup x = some a := by
  obtain ⟨a, ha⟩ := Option.isSome_iff_exists.mp (closL_has (cells := cx.env.cells) scope.names [] (.inl hx))
  refine ⟨a, ?_, (F.clos c ha).2⟩
  rw [compL_look]
  cases q : (cellsFrom (C + 1) scope.names []).lookup x with
  | some a' => exact nomatch F.one hx ((cellsFrom_mem _ _ _ (PySem.mem_of_lookup q)).resolve_left fun h => nomatch h)
  | none => exact ha
theorem comp_here (F : CompOk ns scope) (c : Here cx g d ns b) (i : Inv cx H ρ vr s) {as : List Addr} (o : Offs cx H ρ vr as) (C : Addr) : Here (compCx cx scope H s.heap C as) g d scope.names true := by
  have ok := c.ok
  have hk : ∀ x k, (x, k) ∈ scope.names → (compCx cx scope H s.heap C as).env.kindOf x = some (if (k == NameKind.free && cx.env.scope.kind == .function && cx.env.kindOf x == some .cell) then .cell else k) := fun x k hm => lookup_relabel (lookup_of_nodup F.nd hm)
  have hall0 := fun p hp => Bool.and_eq_true_iff.mp (List.all_eq_true.mp F.ok p hp)
  have hall := fun p hp => Bool.and_eq_true_iff.mp (hall0 p hp).1
  refine ⟨⟨⟨ok.handled, ok.depth, ok.units, F.kind, ok.globals, ok.builtins, fun hp q => ok.base hp fun a ob e => q a ob ?_, fun x hm => hk x _ hm, fun x hm => ⟨hk x _ hm, ?_⟩, fun x hm => ?_, fun x hm => hk x _ hm, fun x a ha => ?_, F.nd, fun x k hm => ?_, (fun x a e => nomatch e), fun x hm hf => ?_⟩, c.inn.prog, c.inn.w, c.inn.K, c.inn.d⟩, rfl, rfl, fun x j h => nomatch (hall0 _ (List.mem_of_getElem? h)).2⟩
  · exact (still_of (fun z => by rw [(o a z).F] at e; cases e) (i.FH a ob e)).trans (i.keepF a ob e)
  · exact Option.isSome_iff_exists.mp (cellsFrom_some scope.names (C + 1) (closL cx.env.cells scope.names []) (.inl (lookup_of_nodup F.nd hm)))
  · obtain ⟨a, ha, hb⟩ := F.lookF c C hm
    refine ⟨?_, a, ha⟩
    rw [hk x _ hm]
    by_cases q : (NameKind.free == NameKind.free && cx.env.scope.kind == .function && cx.env.kindOf x == some .cell) = true
    · rw [if_pos q]; exact .inl rfl
    · rw [if_neg q]; exact .inr ⟨rfl, by have := (hall _ hm).2; rwa [Bool.not_eq_true'] at this⟩
  · rcases F.look c ha with ⟨q, _⟩ | ⟨q, _⟩
    · rw [hk x _ q]
      by_cases z : (NameKind.free == NameKind.free && cx.env.scope.kind == .function && cx.env.kindOf x == some .cell) = true
      · rw [if_pos z]; exact fun e => nomatch e
      · rw [if_neg z]; exact fun e => nomatch e
    · rw [hk x _ q]; exact fun e => nomatch e
  · have := (hall _ hm).1
    rwa [Bool.not_eq_true'] at this
  · obtain ⟨⟨y, k⟩, hy, rfl⟩ := List.mem_map.mp hf
    obtain ⟨hy1, hy2⟩ := List.mem_filter.mp hy
    have : k = .free := by simpa using hy2
    subst this
    exact nomatch F.one hm hy1
/-- the variables of a comprehension at its start -/
noncomputable def compVr (scope : Scope) (vr : Str → Option Value) : Str → Option Value := fun x => if scope.names.lookup x = some .free then vr x else none
theorem comp_inv (F : CompOk ns scope) (c : Here cx g d ns b) (i : Inv cx H ρ vr s) {as : List Addr} (o : Offs cx H ρ vr as) {js : List (Option Nat)} (hj : compAt ns scope.names js = true) {C : Addr} {h₁ : Heap} (hC : s.heap.objs.size ≤ C)
    (hns : h₁.Ns C fun _ => none) (hcs : CellsOk h₁ (C + 1) (cellsFrom (C + 1) scope.names [])) (keep : ∀ b o, s.heap.get? b = some o → h₁.get? b = some o) :
    Inv (compCx cx scope H s.heap C as) H (compEnv ρ js) (compVr scope vr) { s with heap := h₁ } ∧ ∀ a o', Off cx H ρ vr a → (s.heap.get? a = none → a < C) → h₁.get? a = some o' → (a ∈ as ∨ s.heap.get? a = none) → Off (compCx cx scope H s.heap C as) H (compEnv ρ js) (compVr scope vr) a := by
  have hcc := comp_here F c i o C
  have new : ∀ a, C ≤ a → s.heap.get? a = none := fun a ha => by
    cases e : s.heap.get? a with
    | none => rfl
    | some o' => exact absurd (Heap.lt_size e) (Nat.not_lt.mpr (Nat.le_trans hC ha))
  have hFn : ∀ a, s.heap.get? a = none → stillF (· ∈ as) H s.heap a = none := fun a e => none_of_le (F' := s.heap.get?) (fun a o e => (still_get e).2.2) e
  have hHn : ∀ a, s.heap.get? a = none → H a = none := fun a e => none_of_le (F' := s.heap.get?) i.keepH e
  have own : ∀ {x a}, (x, a) ∈ cellsFrom (C + 1) scope.names [] → h₁.IsCell a none ∧ C < a := fun {x a} h => hcs.empty x a h
  have vF : ∀ x, (x, NameKind.free) ∈ scope.names → compVr scope vr x = vr x := fun x hx => if_pos (lookup_of_nodup F.nd hx)
  obtain ⟨hl, hval⟩ := compAt_of (ρ := ρ) hj
  have noOwn : ∀ a, ¬ OwnA (compCx cx scope H s.heap C as) (compEnv ρ js) (compVr scope vr) a := fun a ⟨j, y, k, ws, h1, h2, _⟩ => by
    obtain ⟨_, v, _, _, e, _⟩ := hval j y k _ h1 h2
    cases e
  refine ⟨⟨i.gens, (fun x a e => nomatch e), i.os, fun a ob e => keep a ob (still_get e).2.2, fun a ob e => keep a ob (i.keepH a ob e), fun a ob e => (still_get e).2.1, ⟨_, hns, fun x hx => ?_⟩, fun x a ha => ?_, fun x y a h1 h2 => ?_, ⟨hFn C (new C (Nat.le_refl _)), hHn C (new C (Nat.le_refl _))⟩, fun x a ha => ?_,
    (List.length_map ..).trans hl, fun j x k sl h1 h2 => ?_, fun j1 j2 a o1 o2 => absurd ⟨j1, o1⟩ (noOwn a)⟩, fun a o' f hlt e hor => ?_⟩
  · show none = compVr scope vr x
    unfold compVr
    by_cases q : scope.names.lookup x = some .free
    · obtain ⟨a', ha', _⟩ := F.lookF c C (PySem.mem_of_lookup q)
      exact absurd hx (hcc.ok.cellKind x a' ha')
    · rw [if_neg q]
  · rcases F.look c ha with ⟨q1, q2⟩ | ⟨q1, q2⟩
    · rw [vF x q1]
      exact (i.cell x a q2).imp fun ob q => ⟨keep _ _ q.1, q.2⟩
    · rw [show compVr scope vr x = none from if_neg (show scope.names.lookup x ≠ some .free from fun q => nomatch F.one q1 (PySem.mem_of_lookup q))]
      exact (own q2).1
  · rcases F.look c h1 with ⟨q1, q2⟩ | ⟨q1, q2⟩ <;> rcases F.look c h2 with ⟨q3, q4⟩ | ⟨q3, q4⟩
    · exact i.cellsApart x y a q2 q4
    · obtain ⟨o', e', _⟩ := i.cell x a q2
      rw [new a (Nat.le_of_lt (own q4).2)] at e'; cases e'
    · obtain ⟨o', e', _⟩ := i.cell y a q4
      rw [new a (Nat.le_of_lt (own q2).2)] at e'; cases e'
    · exact name_of_addr hcs.apart q2 q4
  · rcases F.look c ha with ⟨q1, q2⟩ | ⟨q1, q2⟩
    · exact ⟨(i.offC x a q2).1, fun hw => absurd (List.mem_map.mpr ⟨(x, .free), List.mem_filter.mpr ⟨q1, rfl⟩, rfl⟩) hw.2⟩
    · have n0 := new a (Nat.le_of_lt (own q2).2)
      exact ⟨hHn a n0, fun _ => hFn a n0⟩
  · obtain ⟨rfl, v, k', j', rfl, e1, e2⟩ := hval j x k sl h1 h2
    rw [vF x (List.mem_of_getElem? h1)]
    exact i.vars j' x k' _ (c.names.symm ▸ e1) e2
  · refine ⟨hor.elim (fun q => still_not q) (hFn a), f.H, fun q => ?_, fun x ha => ?_, noOwn a⟩
    · subst q
      exact Nat.lt_irrefl _ (hlt (new _ (Nat.le_refl _)))
    · rcases F.look c ha with ⟨q1, q2⟩ | ⟨q1, q2⟩
      · exact f.C x q2
      · exact Nat.lt_irrefl a (Nat.lt_trans (hlt (new a (Nat.le_of_lt (own q2).2))) (own q2).2)
end
end Mine

end
section
-- D10
open PySem PySem.W PySem.Calls PyProof.Rows
set_option Elab.async false
set_option linter.unusedVariables false
set_option maxRecDepth 100000
set_option genInjectivity false
set_option genSizeOfSpec false
namespace Mine

section
variable {cx : Cx} {g : Gl} {d : Nat} {ns : Names} {b : Bool} {ρ : Env'} {H : HF} {vr : Str → Option Value} {s : Shared} {scope : Scope} {elt tgt iter : Expr} {ifs : List Expr} {gs : List Comprehension} {pos : Pos} {Qf : List V → Env' → Prop} {use : Option (Value → Sem Unit)} {Qv : Value → Shared → Prop} {x : Str}

/-- what a comprehension needs: where its names stand around, and the loop over the first clause -/
inductive CompP (g : Gl) (d : Nat) (ns nc : Names) (elt tgt : Expr) (ifs : List Expr) (gs : List Comprehension) (Q : List V → Prop) (vs : List V) (ρ : Env') : Prop
  | mk (js : List (Option Nat)) (hj : compAt ns nc js = true) (h : LoopC (TurnP g d nc tgt ifs (GenP g d nc elt gs)) (fun a _ => Q a) [] vs (compEnv ρ js))
theorem comp_core (c : Here cx g d ns b) (F : CompOk ns scope) (i₀ : Inv cx H ρ vr s) (h : Src cx iter tgt ρ fun vs ρ => CompP g d ns scope.names elt tgt ifs gs (fun a => Qf a ρ) vs ρ) (hz : ∀ q ∈ gs, q.is_async = 0) (hs : ∀ x, foldedSetIterable iter cx.env x = pure x)
    (fin : ∀ s' H' ρ a D C, H.le H' → Inv cx H' ρ vr s' → FreshR cx H' ρ vr s'.heap (.ref D) a → Off cx H' ρ vr C → (∃ m, s'.heap.Ns C m) → D ≠ C → Qf a ρ → compPost (model cx.prog cx.w) cx.A NoE use Qv (.ref D) C (.ok .next) s') :
    Go cx (comprehension (.ListComp elt (⟨tgt, iter, ifs, 0⟩ :: gs) scope pos) scope cx.env (firstIterPos (⟨tgt, iter, ifs, 0⟩ :: gs) pos) (newList []) false (eval iter cx.env) use) Qv s := by
  refine wpAny_comprehension_free (cl := closL cx.env.cells scope.names []) rfl hs (clos_eq fun x => F.cells c) F.kind (fun x hx hl => lookup_of_nodup F.nd (by obtain ⟨n, k⟩ := x; cases hl; exact hx)) (h H vr s _ i₀ fun I as Z s2 vs H1 ρ T l1 i2 o2 z2 ⟨js, hj, J, hJ, hL, hfin⟩ => ?_)
  refine wpAny_newObj_type (newEnv_cells ?_)
  dsimp only
  have nD := get?_size s2.heap
  have hsz : (s2.heap.push (lstO [] 0)).objs.size = s2.heap.objs.size + 1 := Heap.size_push ..
  have hns₁ : (pushCells ((s2.heap.push (lstO [] 0)).push { cls := .type "dict", data := .dict #[] }) scope.names).Ns (s2.heap.push (lstO [] 0)).objs.size (fun _ => none) := (Heap.Ns.new (s2.heap.push (lstO [] 0)) (.type "dict")).keeps (pushCells_keeps _ _)
  have okc := cellsFrom_ok scope.names ((s2.heap.push (lstO [] 0)).push { cls := .type "dict", data := .dict #[] }) ((s2.heap.push (lstO [] 0)).objs.size + 1) [] ⟨fun _ _ hm => (nomatch hm), List.Pairwise.nil⟩ (by rw [Heap.size_push ((s2.heap.push (lstO [] 0)))]; exact Nat.le_refl _)
  rw [Heap.size_push (s2.heap.push (lstO [] 0))] at okc
  have hgrow : ∀ b o, (s2.heap.push (lstO [] 0)).get? b = some o → (pushCells ((s2.heap.push (lstO [] 0)).push { cls := .type "dict", data := .dict #[] }) scope.names).get? b = some o := fun b o e => pushCells_keeps _ _ b o (Heap.get?_push_of_some _ e)
  have accH := hgrow s2.heap.objs.size (lstO [] 0) (Heap.get?_push_size _ rfl)
  have old : ∀ b o, s2.heap.get? b = some o → _ := fun b o e => hgrow b o (Heap.get?_push_of_some _ e)
  show codeAny _ _ (.compStart _ 0 (.ref I) (.ref s2.heap.objs.size) (compCx cx scope H1 s2.heap (s2.heap.push (lstO [] 0)).objs.size as).env) (compPost _ _ _ _ _ (.ref s2.heap.objs.size) (s2.heap.push (lstO [] 0)).objs.size) _
  generalize pushCells ((s2.heap.push (lstO [] 0)).push { cls := .type "dict", data := .dict #[] }) scope.names = h₁ at okc hns₁ hgrow accH old ⊢
  have oD : Off cx H1 ρ vr s2.heap.objs.size := .fresh i2 nD
  have oC : Off cx H1 ρ vr (s2.heap.push (lstO [] 0)).objs.size := .fresh i2 (by
    rw [hsz]
    cases e : s2.heap.get? (s2.heap.objs.size + 1) with
    | none => rfl
    | some o' => exact absurd (Heap.lt_size e) (Nat.not_lt.mpr (Nat.le_succ _)))
  have hDC : s2.heap.objs.size < (s2.heap.push (lstO [] 0)).objs.size := by rw [hsz]; exact Nat.lt_succ_self _
  clear hgrow hsz
  obtain ⟨ic, hoff⟩ := comp_inv F c i2 o2 hj (Nat.le_of_lt hDC) hns₁ okc old
  have zc := T.mono z2 .rfl (fun a _ ob e => old a ob e) i2.keepH ic.keepH
  have run : codeAny _ _ _ (compPost (model cx.prog cx.w) cx.A NoE use Qv (.ref s2.heap.objs.size) (s2.heap.push (lstO [] 0)).objs.size) { s2 with heap := h₁ } := loop_run (gens := ⟨tgt, iter, ifs, 0⟩ :: gs) (elt := elt) (scope := scope) (pos := pos) gs 0 tgt iter ifs rfl hz (comp_here F c i2 o2 _) T (fun q => (T.live z2 _ q).elim fun ob e => by rw [nD] at e; cases e) hL ic
    (fun a h => (T.live z2 a h).elim fun ob e => hoff a ob (o2 a h) (fun q => by rw [q] at e; cases e) (old a ob e) (.inl h)) zc ⟨hoff _ _ oD (fun _ => hDC) accH (.inr nD), [], 0, (hoff _ _ oD (fun _ => hDC) accH (.inr nD)).F, oD.H, accH, .nil⟩ hJ fun s' H' ρ' vr' acc' l i' a' hq => by
      obtain ⟨off, its, n, f1, f2, f3, f4⟩ := a'
      exact fin s' H' ρ acc' _ _ (l1.trans l) (i2.after i'.gens i'.os o2 l i'.keepH fun a o e => ⟨i'.keepF a o e, i'.FH a o e⟩) ⟨_, rfl, ⟨its, n, oD.F, f2, f3, f4⟩, oD.O⟩ ⟨oC.F, i'.offL.2, oC.L, oC.C, oC.O⟩ (i'.ns.imp fun m h => h.1) (Nat.ne_of_lt hDC) (hfin _ _ hq)
  exact codeAny_compStart_at (k := 0) rfl rfl run (T.self c.ok.handled zc run)

theorem FreshR.keep {h h' : Heap} {y : Value} {vs : List V} (f : FreshR cx H ρ vr h y vs) (hk : ∀ a o, y = .ref a → h.get? a = some o → h'.get? a = some o) : FreshR cx H ρ vr h' y vs := f.rec fun a e o n => ⟨a, e, o.mono .rfl o.off.2 fun ob => hk a ob e, n⟩
theorem f_comp (c : Here cx g d ns b) (F : CompOk ns scope) (h : Src cx iter tgt ρ fun vs ρ => CompP g d ns scope.names elt tgt ifs gs (fun a => Qf a ρ) vs ρ) (hz : ∀ q ∈ gs, q.is_async = 0) (hs : ∀ x, foldedSetIterable iter cx.env x = pure x := by intro _; rfl) :
    EvF cx (.ListComp elt (⟨tgt, iter, ifs, 0⟩ :: gs) scope pos) ρ Qf := fun H vr s K i k => by
  rw [eval_ListComp]
  exact comp_core (use := none) c F i h hz hs fun s' H' ρ' a D C l i' f o ⟨m, hm⟩ hDC q => ⟨m, hm, fun h' hs' => k _ _ a H' ρ' l (i'.extBut (t := s'.toks) o fun b ob hb e => (hs'.2 b hb).trans e) (f.keep fun a' ob e he => (hs'.2 a' fun q => hDC ((Value.ref.inj e).trans q)).trans he) q⟩
theorem blk (ok : cx.Ok) : cx.env.blockKind = .function := by unfold Env.blockKind; rw [ok.fkind]; rfl
theorem swap_yes (c : Here cx g d ns b) {gens : List Comprehension} {pos' : Pos} {n : Nat} (hx : (x, NameKind.local) ∈ ns) (hl : (pos'.line == pos.line) = true)
    (hn : (scope.names.any fun p => p.1 == x && (p.2 == .local || p.2 == .cell)) = false) : swapsWith (.ListComp elt gens scope pos) (some (.Name x pos')) n cx.env = pure true := by
  show (pure (cx.env.blockKind == .function && cx.env.kindOf x == some .local && pos'.line == pos.line && !(scope.names.any fun (n, k) => n == x && (k == .local || k == .cell))) : Sem Bool) = pure true
  rw [blk c.ok, c.ok.kLocal x (c.names.symm ▸ hx), hl, show (scope.names.any fun (n, k) => n == x && (k == .local || k == .cell)) = false from hn]
  rfl
theorem swap_no (c : Here cx g d ns b) {gens : List Comprehension} {pos' : Pos} {n : Nat} (hx : (x, NameKind.cell) ∈ ns) : swapsWith (.ListComp elt gens scope pos) (some (.Name x pos')) n cx.env = pure false := by
  show (pure (cx.env.blockKind == .function && cx.env.kindOf x == some .local && pos'.line == pos.line && !(scope.names.any fun (n, k) => n == x && (k == .local || k == .cell))) : Sem Bool) = pure false
  rw [(c.ok.kCell x (c.names.symm ▸ hx)).1, show (some NameKind.cell == some NameKind.local) = false from rfl, Bool.and_false]
  rfl
/-- a comprehension that is bound to a name at once -/
theorem x_compL (c : Here cx g d ns b) (F : CompOk ns scope) {pos' spos : Pos} {Qn : Env' → Prop} {Qr : R → Env' → Prop} (hx : (x, NameKind.local) ∈ ns) (hl : (pos'.line == pos.line) = true) (hn : (scope.names.any fun p => p.1 == x && (p.2 == .local || p.2 == .cell)) = false)
    (h : Src cx iter tgt ρ fun vs ρ => CompP g d ns scope.names elt tgt ifs gs (fun a => Bind ns b x (.own a) ρ Qn) vs ρ) (hz : ∀ q ∈ gs, q.is_async = 0) (hs : ∀ x, foldedSetIterable iter cx.env x = pure x := by intro _; rfl) :
    Ex1 cx (.Assign [.Name x pos'] (.ListComp elt (⟨tgt, iter, ifs, 0⟩ :: gs) scope pos) spos) ρ Qn Qr := fun H vr s K i kn kr => by
  rw [exec_Assign_Name_used _ _ _ _ (swap_yes c hx hl hn)]
  refine wpAny_bind (wpAny_standAt (wpAny_bind ?_))
  refine wpAny_bind (wpAny_mono (comp_core (use := some (assign (.Name x pos') cx.env)) (Qv := fun _ s' => K .next s') c F i h hz hs fun s' H' ρ' a D C l i' f o ⟨m, om, es, ep, hom, hrest⟩ hDC q => ?_) (fun _ s' hq => wpAny_pure (wpAny_pure hq)) fun _ _ f => f)
  obtain ⟨j, k, hn, hk, q⟩ := q
  show wpAny _ cx.A (assign (.Name x pos') cx.env (.ref D)) _ _ s'
  refine wpAny_assign_Name (i'.store c.ok (c.names.symm ▸ hn) (sl := .own a) f (c.wr.symm ▸ hk) fun s2 i2 hk2 => ?_)
  have eC := hk2 C om o.L o.C hom
  refine ⟨m, ⟨om, es, ep, eC, hrest⟩, fun h' hs' => kn _ H' _ _ l (i2.extBut (t := s2.toks) ⟨o.F, o.H, o.L, o.C, fun ⟨j, oA⟩ => ?_⟩ fun b ob hb e => (hs'.2 b hb).trans e) q⟩
  obtain ⟨ws, its, n, g1, g2, g3, g4⟩ := i2.at oA
  rw [eC] at g3; cases g3
  exact nomatch hrest.1
theorem x_compC (c : Here cx g d ns b) (F : CompOk ns scope) {pos' spos : Pos} {Qn : Env' → Prop} {Qr : R → Env' → Prop} (hx : (x, NameKind.cell) ∈ ns)
    (h : Src cx iter tgt ρ fun vs ρ => CompP g d ns scope.names elt tgt ifs gs (fun a => Bind ns b x (.val (.lst a)) ρ Qn) vs ρ) (hz : ∀ q ∈ gs, q.is_async = 0) (hs : ∀ x, foldedSetIterable iter cx.env x = pure x := by intro _; rfl) :
    Ex1 cx (.Assign [.Name x pos'] (.ListComp elt (⟨tgt, iter, ifs, 0⟩ :: gs) scope pos) spos) ρ Qn Qr := x_assign c (Ev_of_EvF (f_comp c F h hz hs)) (swap_no c hx)
end
end Mine

end
section
-- D11
open PySem PySem.W PySem.Calls PyProof.Rows
set_option Elab.async false
set_option linter.unusedVariables false
set_option maxRecDepth 100000
set_option genInjectivity false
set_option genSizeOfSpec false
namespace Mine
/-- what enumerate hands out -/
noncomputable def en (k : Nat) : List V → List V
  | [] => []
  | u :: us => .tup [.int k, u] :: en (k + 1) us
/-- an enumerate and its iterator, at a list that stands -/
inductive EnAt (H : HF) (h : Heap) (e it : Addr) (us : List V) (k : Nat) : Prop
  | mk (ne : e ≠ it) (old : Value) (en : IsEnum h e it k old) (l : Addr) (its : List Value) (n : Nat) (all : List V) (hl : H l = some (lstO its n)) (r : Reps H its all) (d : all.drop k = us) (li : h.IsListIter it l k)
section
variable {cx : Cx} {g : Gl} {d : Nat} {ns : Names} {b : Bool} {ρ : Env'} {H : HF} {vr : Str → Option Value} {s : Shared} {prog : Program} {w : World} {e it : Addr} {elts : List Expr} {kk : Nat} {tp : Pos}
theorem enum_itr : Itr prog w (.Tuple elts kk tp) e [e, it] fun vs H h => ∃ us k, vs = en k us ∧ EnAt H h e it us k where
  mono := fun ⟨us, k, ev, ⟨ne, old, q, l, its, n, all, hl, r, d, li⟩⟩ le hI hH hH' => ⟨us, k, ev, ne, old, hI e (.head _) _ q, l, its, n, all, le _ _ hl, r.mono le, d, li.at (hI it (.tail _ (.head _)))⟩
  live := fun ⟨us, k, ev, ⟨ne, old, q, l, its, n, all, hl, r, d, li⟩⟩ a ha => by
    rcases List.mem_cons.mp ha with z | z
    · exact ⟨_, z ▸ q⟩
    · rw [List.mem_singleton.mp z]; exact li.imp fun o q => q.1
  self := fun hA ⟨us, k, ev, ⟨ne, old, q, l, its, n, all, hl, r, d, li⟩⟩ hq => wpAny_pyIter_enum q hq
  next := fun {cx H ρ vr s u' us' P Q} hp hw hA i ho ⟨us, k, ev, ⟨ne, old, he, l, its, n, all, q1, q3, q4, q5⟩⟩ hP hQ => by
    subst hp; subst hw
    have oe := ho e (.head _)
    have ot := ho it (.tail _ (.head _))
    cases us with
    | nil => cases ev
    | cons u us =>
      cases ev
      obtain ⟨val, hv, hr⟩ := q3.get (show all[k]? = some u by have := congrArg (·[0]?) q4; rwa [List.getElem?_drop] at this)
      have hl := i.keepH _ _ q1
      have hle : l ≠ e := fun q => by rw [q, oe.H] at q1; cases q1
      have hli : l ≠ it := fun q => by rw [q, ot.H] at q1; cases q1
      refine wpAny_pyNext_enum_item (items := its.toArray) he q5 ⟨_, hl, rfl, n, rfl⟩ (List.getElem?_toArray.trans hv) ne fun h1 ho1 hi1 hT hsz hk => ?_
      have oT := Off.new i
      have heT : e ≠ s.heap.objs.size := Nat.ne_of_lt (Heap.lt_size he)
      have hiT : it ≠ s.heap.objs.size := q5.elim fun o q => Nat.ne_of_lt (Heap.lt_size q.1)
      refine hQ _ _ (wpAny_letOwnedTupleGo_enum (s := { s with heap := h1, toks := s.toks + 1 }) ho1 fun h2 he2 hs2 => ?_)
      have i2 : Inv cx H ρ vr { s with heap := h2, toks := s.toks + 1 } := i.extO fun b ob nb q => (hs2.2 b fun z => nb (z ▸ oe)).trans (hk b ob (fun z => nb (z ▸ oe)) (fun z => nb (z ▸ ot)) q)
      have i3 := i2.freeze ((hs2.2 _ (Ne.symm heT)).trans hT) oT
      have le := le_put (o := { cls := .type "tuple", data := .seq #[.int k s.toks, val] }) oT.H
      have grow : ∀ a, a ≠ s.heap.objs.size → Off cx H ρ vr a → Off cx (H.put s.heap.objs.size { cls := .type "tuple", data := .seq #[.int k s.toks, val] }) ρ vr a := fun a n o => ⟨o.F, (put_ne n).trans o.H, o.L, o.C, o.O⟩
      refine hP _ _ _ le i3 (fun a ha => ?_) (.tup (its := [.int k s.toks, val]) (n := 0) put_self (.cons .int (.cons (hr.mono le) .nil))) ⟨us, k + 1, rfl, ne, _, he2, l, its, n, all, le _ _ q1, q3.mono le, ?_, hi1.at fun ob q => (hs2.2 it (Ne.symm ne)).trans q⟩
      · rcases List.mem_cons.mp ha with z | z
        · rw [z]; exact grow e heT oe
        · rw [List.mem_singleton.mp z]; exact grow it hiT ot
      · have := congrArg (List.drop 1) q4
        rwa [List.drop_drop] at this
  done := fun {cx H ρ vr s Q} hp hw hA i ho ⟨us, k, ev, ⟨ne, old, he, l, its, n, all, q1, q3, q4, q5⟩⟩ h => by
    subst hp; subst hw
    cases us with
    | cons u us => cases ev
    | nil =>
      refine wpAny_pyNext_enum_end (items := its.toArray) hA he q5 ⟨_, i.keepH _ _ q1, rfl, n, rfl⟩ ?_ fun h' hx => h _ (i.extBut (t := s.toks) (ho it (.tail _ (.head _))) hx)
      exact Array.getElem?_eq_none (q3.size ▸ List.drop_eq_nil_iff.mp q4)
/-- enumerate of a list, gone through -/
theorem src_enum (c : Here cx g d ns b) {iter : Expr} {fp pos : Pos} {Q : List V → Env' → Prop} (e1 : nsIn g.K mainGlobals ("enumerate" : Str) = some none) (hm : (("enumerate" : Str), NameKind.globalImplicit) ∈ ns)
    (h : Evs cx pos [iter] ρ fun vs ρ₁ => ∃ ws, vs = [.lst ws] ∧ Q (en 0 ws) ρ₁) (hplain : (backTo pos (starEach [iter] cx.env)).any (·.1) = false := by rfl) : Src cx (.Call (.Name "enumerate" fp) [iter] [] pos) (.Tuple elts kk tp) ρ Q := fun H vr s K i k =>
  wpAny_Call_NameR (load_built c i hm e1 (v := .type "enumerate") rfl (by decide) (callWith_built rfl h i (fun xs s1 vs H1 ρ1 l1 i1 r1 ⟨ws, ev, q⟩ => by
    subst ev
    refine r1.on1 fun x rx => ?_
    refine rx.onLst fun a its n h1 t1 => ?_
    refine call_enumerate_list (items := its.toArray) ⟨_, i1.keepH _ _ h1, rfl, n, rfl⟩ fun h' hE hI hsz hk => ?_
    have n1 : s1.heap.get? (s1.heap.objs.size + 1) = none := by
      cases q : s1.heap.get? (s1.heap.objs.size + 1) with
      | none => rfl
      | some o => exact absurd (Heap.lt_size q) (Nat.not_lt.mpr (Nat.le_succ _))
    refine wpAny_pyIter_enum hE (k _ _ _ _ _ H1 ρ1 enum_itr l1 (i1.ext (t := s1.toks) hk) (fun b hb => ?_) ⟨ws, 0, rfl, Nat.succ_ne_self _, _, hE, a, its, n, ws, h1, t1, rfl, hI⟩ q)
    rcases List.mem_cons.mp hb with z | z
    · rw [z]; exact Off.fresh i1 n1
    · rw [List.mem_singleton.mp z]; exact Off.new i1) hplain))
end
end Mine

end
section
-- D12
open PySem PySem.W PySem.Calls PyProof.Rows
set_option Elab.async false
set_option linter.unusedVariables false
set_option maxRecDepth 100000
set_option genInjectivity false
set_option genSizeOfSpec false
namespace Mine
noncomputable def hiV (o : Option Int) : V := o.elim .none .int
/-- plain data -/
noncomputable def pd (v : V) : PyData := V.rec (motive_1 := fun _ => PyData) (motive_2 := fun _ => List PyData) (motive_3 := fun _ => Unit) (motive_4 := fun _ => Unit)
  .none .bool .int .str (fun _ => .tuple) (fun _ => .list) (fun _ _ _ => .none) (fun _ _ => .none) [] (fun _ _ a as => a :: as) () (fun _ _ _ _ => ()) (fun _ _ _ => ()) v
noncomputable def pds (vs : List V) : List PyData := V.rec_1 (motive_1 := fun _ => PyData) (motive_2 := fun _ => List PyData) (motive_3 := fun _ => Unit) (motive_4 := fun _ => Unit)
  .none .bool .int .str (fun _ => .tuple) (fun _ => .list) (fun _ _ _ => .none) (fun _ _ => .none) [] (fun _ _ a as => a :: as) () (fun _ _ _ _ => ()) (fun _ _ _ => ()) vs
noncomputable def isD (v : V) : Bool := V.rec (motive_1 := fun _ => Bool) (motive_2 := fun _ => Bool) (motive_3 := fun _ => Unit) (motive_4 := fun _ => Unit)
  true (fun _ => true) (fun _ => true) PyData.strOk (fun _ a => a) (fun _ a => a) (fun _ _ _ => false) (fun _ _ => false) true (fun _ _ a as => a && as) () (fun _ _ _ _ => ()) (fun _ _ _ => ()) v
noncomputable def isDs (vs : List V) : Bool := V.rec_1 (motive_1 := fun _ => Bool) (motive_2 := fun _ => Bool) (motive_3 := fun _ => Unit) (motive_4 := fun _ => Unit)
  true (fun _ => true) (fun _ => true) PyData.strOk (fun _ a => a) (fun _ a => a) (fun _ _ _ => false) (fun _ _ => false) true (fun _ _ a as => a && as) () (fun _ _ _ _ => ()) (fun _ _ _ => ()) vs
/-- equal for the language -/
noncomputable def same (a b : V) : Bool := PyData.eqv (pd a) (pd b)
noncomputable abbrev dep (v : V) : Nat := (pd v).depth
/-- data that may be compared -/
structure Dat (n : Nat) (v : V) : Prop where
  ok : isD v = true
  dep : dep v ≤ n
section
variable {H : HF} {h : Heap}
theorem rep_reads (k : ∀ a o, H a = some o → h.get? a = some o) : ∀ {v : V} {x : Value}, Rep H x v → isD v = true → ∃ as, Reads h x (pd v) as := fun {v} =>
  V.rec (motive_1 := fun v => ∀ {x : Value}, Rep H x v → isD v = true → ∃ as, Reads h x (pd v) as) (motive_2 := fun vs => ∀ {xs : List Value}, Reps H xs vs → isDs vs = true → ∃ as, ReadsAll h xs (pds vs) as) (motive_3 := fun _ => True) (motive_4 := fun _ => True)
    (fun r _ => r.onNone ⟨_, .none⟩) (fun b _ r _ => r.onBool ⟨_, .bool b⟩) (fun i _ r _ => r.onInt fun t => ⟨_, .int i t⟩) (fun s _ r _ => r.onStr fun t => ⟨_, .str s t⟩)
    (fun _ ih _ r h => r.onTup fun a its n e t => (ih t h).imp fun _ q => .tuple (k _ _ e) rfl rfl q) (fun _ ih _ r h => r.onLst fun a its n e t => (ih t h).elim fun _ q => ⟨_, .list (k _ _ e) rfl rfl q⟩)
    (fun _ _ _ _ _ h => nomatch h) (fun _ _ _ _ h => nomatch h) (fun r _ => r.onNil ⟨_, .nil⟩)
    (fun _ _ ih ihs _ r h => have h := Bool.and_eq_true_iff.mp h; r.onCons fun x ys a b => (ih a h.1).elim fun _ p => (ihs b h.2).elim fun _ q => ⟨_, .cons p q⟩) trivial (fun _ _ _ _ => trivial) (fun _ _ _ => trivial) v
theorem isD_lay : ∀ {v : V}, isD v = true → (pd v).canLay0 = true := fun {v} =>
  V.rec (motive_1 := fun v => isD v = true → (pd v).canLay0 = true) (motive_2 := fun vs => isDs vs = true → PyData.canLayAll0 (pds vs) = true) (motive_3 := fun _ => True) (motive_4 := fun _ => True)
    (fun _ => rfl) (fun _ _ => rfl) (fun _ _ => rfl) (fun _ h => h) (fun _ ih => ih) (fun _ ih => ih) (fun _ _ _ h => nomatch h) (fun _ _ h => nomatch h) (fun _ => rfl)
    (fun _ _ ih ihs h => have h := Bool.and_eq_true_iff.mp h; Bool.and_eq_true_iff.mpr ⟨ih h.1, ihs h.2⟩) trivial (fun _ _ _ _ => trivial) (fun _ _ _ => trivial) v
end
section
variable {cx : Cx} {g : Gl} {d : Nat} {ns : Names} {b : Bool} {ρ : Env'} {Q : V → Prop} {Qb : Bool → Prop}
theorem o_add_int {a b : Int} (h : Q (.int (a + b))) : Op2 cx .Add (.int a) (.int b) Q := fun H ρ vr s x y K i r1 r2 k => r1.onInt fun _ => r2.onInt fun _ => PyProof.Rows.add_int (k _ _ _ H .rfl (i.toks _) .int h)
theorem o_sub_int {a b : Int} (h : Q (.int (a - b))) : Op2 cx .Sub (.int a) (.int b) Q := fun H ρ vr s x y K i r1 r2 k => r1.onInt fun _ => r2.onInt fun _ => PyProof.Rows.sub_int (k _ _ _ H .rfl (i.toks _) .int h)
theorem o_mul_int {a b : Int} (hm : IntMulOk a b) (h : Q (.int (a * b))) : Op2 cx .Mult (.int a) (.int b) Q := fun H ρ vr s x y K i r1 r2 k => r1.onInt fun _ => r2.onInt fun _ => PyProof.Rows.mul_int (k _ _ _ H .rfl (i.toks _) .int h) hm
theorem o_mod_int {a b : Int} (hb : b ≠ 0) (h : Q (.int (a.fmod b))) : Op2 cx .Mod (.int a) (.int b) Q := fun H ρ vr s x y K i r1 r2 k => r1.onInt fun _ => r2.onInt fun _ => PyProof.Rows.mod_int hb (k _ _ _ H .rfl (i.toks _) .int h)
theorem o_fdiv_int {a b : Int} (hb : b ≠ 0) (hp : Builtin.divisionGoesByPylong a b = false) (h : Q (.int (a.fdiv b))) : Op2 cx .FloorDiv (.int a) (.int b) Q := fun H ρ vr s x y K i r1 r2 k => r1.onInt fun _ => r2.onInt fun _ => PyProof.Rows.floordiv_int hb (k _ _ _ H .rfl (i.toks _) .int h) (.inl hp)
theorem o_pow_int {a n : Int} (hn : 0 ≤ n) (hsz : (Builtin.Int.intBits a : Int) * n ≤ 2 ^ 27) (h : Q (.int (a ^ n.toNat))) : Op2 cx .Pow (.int a) (.int n) Q := fun H ρ vr s x y K i r1 r2 k => r1.onInt fun _ => r2.onInt fun _ => PyProof.Rows.pow_int hn hsz (k _ _ _ H .rfl (i.toks _) .int h)
theorem o_add_str {a b : Str} (hs : a.length + b.length ≤ sizeLine) (h : Q (.str (a ++ b))) : Op2 cx .Add (.str a) (.str b) Q := fun H ρ vr s x y K i r1 r2 k => r1.onStr fun _ => r2.onStr fun _ => PyProof.Rows.add_str (fun t tk => k _ _ _ H .rfl (i.toks _) .str h) hs
theorem o_add_list {as bs : List V} (hs : as.length + bs.length ≤ 100000) (h : Q (.lst (as ++ bs))) : Op2 cx .Add (.lst as) (.lst bs) Q := fun H ρ vr s x y K i r1 r2 k => by
  refine r1.onLst fun a its n1 h1 t1 => ?_
  refine r2.onLst fun b its2 n2 h2 t2 => ?_
  refine PySem.P.add_list (n := n1) (n2 := n2) (i.keepH _ _ h1) (i.keepH _ _ h2) ?_ (by rw [t1.size, t2.size]; exact Nat.le_trans hs (by decide))
  exact i.alloc (o := { cls := .type "list", data := .seq (its.toArray ++ its2.toArray) }) rfl fun H' l i' e => k _ _ _ H' l i' (.lst (n := 0) (e.trans (by rw [List.append_toArray])) ((Reps.append t2 t1).mono l)) h

-- comparisons
theorem units_64 (c : Here cx g d ns b) : cx.A.units + 64 < cLine := by have := c.ok.units; lia
theorem Dat.shaped {v : V} {n : Nat} (h : Dat n v) (hn : n ≤ 64 := by decide) : PySem.SeqAt.shaped (pd v) = true := by
  unfold PySem.SeqAt.shaped
  rw [isD_lay h.ok]; simpa using Nat.le_trans h.dep hn
theorem c_eq (c : Here cx g d ns b) {x y : V} (hx : Dat 64 x) (hy : Dat 64 y) (h : Qb (same x y)) : Cmp cx .Eq x y Qb := fun H ρ vr s a e K i r1 r2 k =>
  (rep_reads i.keepH r1 hx.ok).elim fun _ q1 => (rep_reads i.keepH r2 hy.ok).elim fun _ q2 => PyProof.Rows.eq_dataH q1 q2 hx.shaped hy.shaped (units_64 c) (k _ _ H .rfl i h)
theorem c_ne (c : Here cx g d ns b) {x y : V} (hx : Dat 64 x) (hy : Dat 64 y) (h : Qb (!same x y)) : Cmp cx .NotEq x y Qb := fun H ρ vr s a e K i r1 r2 k =>
  (rep_reads i.keepH r1 hx.ok).elim fun _ q1 => (rep_reads i.keepH r2 hy.ok).elim fun _ q2 => PyProof.Rows.ne_dataH q1 q2 hx.shaped hy.shaped (units_64 c) (k _ _ H .rfl i h)
theorem pds_any {x : V} : ∀ {us : List V}, (pds us).any (fun y => PyData.eqv y (pd x)) = us.any fun u => same u x := fun {us} => by
  induction us with
  | nil => rfl
  | cons u us ih => exact congrArg (same u x || ·) ih
theorem c_notIn (c : Here cx g d ns b) {x : V} {us : List V} (hx : Dat 64 x) (hy : isDs us = true) (h : Qb (!us.any fun u => same u x)) : Cmp cx .NotIn x (.lst us) Qb := fun H ρ vr s a e K i r1 r2 k =>
  (rep_reads i.keepH r1 hx.ok).elim fun _ q1 => (rep_reads (v := .lst us) i.keepH r2 hy).elim fun _ q2 => PySem.SeqAt.notIn_list_reads q2 q1 (isD_lay (v := .lst us) hy) (isD_lay hx.ok)
    (Nat.lt_of_le_of_lt (Nat.add_le_add_left (Nat.le_trans (Nat.min_le_right _ _) hx.dep) _) (show cx.A.units + 1 + 64 < cLine by have := c.ok.units; lia)) (pds_any (x := x) ▸ k _ _ H .rfl i h)
theorem c_le_int {x y : Int} (h : Qb (decide (x ≤ y))) : Cmp cx .LtE (.int x) (.int y) Qb := fun H ρ vr s a c K i r1 r2 k => r1.onInt fun _ => r2.onInt fun _ => PyProof.Rows.le_int (k _ _ H .rfl i h)
theorem c_ge_int {x y : Int} (h : Qb (decide (y ≤ x))) : Cmp cx .GtE (.int x) (.int y) Qb := fun H ρ vr s a c K i r1 r2 k => r1.onInt fun _ => r2.onInt fun _ => PyProof.Rows.ge_int (k _ _ H .rfl i h)
theorem c_ne_int {x y : Int} (h : Qb (x != y)) : Cmp cx .NotEq (.int x) (.int y) Qb := fun H ρ vr s a c K i r1 r2 k => r1.onInt fun _ => r2.onInt fun _ => PyProof.Rows.ne_int (k _ _ H .rfl i h)
noncomputable def isN (v : V) : Bool := v.casesOn (motive_1 := fun _ => Bool) true (fun _ => false) (fun _ => false) (fun _ => false) (fun _ => false) (fun _ => false) (fun _ _ => false) (fun _ _ => false)
theorem rep_isN {H : HF} {x : Value} {v : V} (r : Rep H x v) : (x == .none) = isN v := by
  cases v with
  | none => exact r.onNone rfl
  | bool b => exact r.onBool rfl
  | int i => exact r.onInt fun _ => rfl
  | str i => exact r.onStr fun _ => rfl
  | tup vs => exact r.onTup fun _ _ _ _ _ => rfl
  | lst vs => exact r.onLst fun _ _ _ _ _ => rfl
  | obj c fs => exact r.onObj fun _ _ _ _ _ _ _ => rfl
  | rng a b => exact r.onRng fun _ _ _ _ _ => rfl
theorem c_is_none {x : V} (h : Qb (isN x)) : Cmp cx .Is x .none Qb := fun H ρ vr s a c K i r1 r2 k => r2.onNone (PySem.is_none (rep_isN r1 ▸ k _ _ H .rfl i h))
theorem c_isNot_none {x : V} (h : Qb (!isN x)) : Cmp cx .IsNot x .none Qb := fun H ρ vr s a c K i r1 r2 k => r2.onNone (PySem.isNot_none (rep_isN r1 ▸ k _ _ H .rfl i h))
theorem same_hi : ∀ (a b : Option Int), same (hiV a) (hiV b) = decide (a = b)
  | none, none => rfl
  | none, some _ => rfl
  | some _, none => rfl
  | some i, some j => show (i == j) = _ by rw [show (i == j) = decide (i = j) from rfl]; exact decide_eq_decide.mpr ⟨congrArg some, Option.some.inj⟩
theorem hi_dat (a : Option Int) : Dat 64 (hiV a) := by cases a <;> exact ⟨rfl, Nat.zero_le _⟩
theorem c_ne_hi (c : Here cx g d ns b) {x y : Option Int} (h : Qb (!decide (x = y))) : Cmp cx .NotEq (hiV x) (hiV y) Qb := c_ne c (hi_dat _) (hi_dat _) (same_hi x y ▸ h)
theorem c_eq_hi (c : Here cx g d ns b) {x y : Option Int} (h : Qb (decide (x = y))) : Cmp cx .Eq (hiV x) (hiV y) Qb := c_eq c (hi_dat _) (hi_dat _) (same_hi x y ▸ h)

-- truth
theorem t_bool {c : Bool} (h : Qb c) : Tru cx (.bool c) Qb := fun H ρ vr s x K i r k => r.onBool (wpAny_truthy_bool (k _ _ H .rfl i h))
theorem Reps.empty {H : HF} {its : List Value} {vs : List V} (t : Reps H its vs) : (!its.toArray.isEmpty) = !vs.isEmpty := by
  cases vs with
  | nil => exact t.onNil rfl
  | cons v vs => exact t.onCons fun _ _ _ _ => rfl
theorem t_tup {vs : List V} (hl : vs.length ≤ 100000) (h : Qb (!vs.isEmpty)) : Tru cx (.tup vs) Qb := fun H ρ vr s x K i r k => r.onTup fun a its n h1 t =>
  PyProof.Rows.truthy_tuple (items := its.toArray) ⟨_, i.keepH _ _ h1, rfl, n, rfl⟩ (by rw [t.size]; lia) (t.empty ▸ k _ _ H .rfl (i.toks _) h)
theorem t_lst {vs : List V} (hl : vs.length ≤ 100000) (h : Qb (!vs.isEmpty)) : Tru cx (.lst vs) Qb := fun H ρ vr s x K i r k => r.onLst fun a its n h1 t =>
  wpAny_truthy_list (items := its.toArray) ⟨_, i.keepH _ _ h1, rfl, n, rfl⟩ (by rw [t.size]; lia) (t.empty ▸ k _ _ H .rfl (i.toks _) h)
theorem ev_neg {e : Expr} {pos : Pos} {Q : V → Env' → Prop} (h : Ev cx e ρ fun v ρ₁ => ∃ n, v = .int n ∧ Q (.int (-n)) ρ₁) : Ev cx (.UnaryOp .USub e pos) ρ Q := fun H vr s K i k =>
  wpAny_UnaryOp (h H vr s _ i fun x s1 v H1 ρ1 l1 i1 r1 ⟨n, e, q⟩ => (show Rep H1 x (.int n) from e ▸ r1).onInt fun _ => PyProof.Rows.neg_int (k _ _ _ H1 ρ1 l1 (i1.toks _) .int q))

-- built-ins
theorem b_len_tup {vs : List V} (hl : vs.length ≤ 100000) (h : Q (.int vs.length)) : Op cx [.tup vs] (fun xs => call (.builtin "len") xs) Q := fun H ρ vr s xs K i r k => r.on1 fun x r => r.onTup fun a its n h1 t =>
  PyProof.Rows.len_tuple (items := its.toArray) ⟨_, i.keepH _ _ h1, rfl, n, rfl⟩ (by rw [t.size]; lia) (t.size.symm ▸ k _ _ _ H .rfl (i.toks _) .int h)
theorem b_len_lst {vs : List V} (hl : vs.length ≤ 100000) (h : Q (.int vs.length)) : Op cx [.lst vs] (fun xs => call (.builtin "len") xs) Q := fun H ρ vr s xs K i r k => r.on1 fun x r => r.onLst fun a its n h1 t =>
  Calls.call_len_list (items := its.toArray) ⟨_, i.keepH _ _ h1, rfl, n, rfl⟩ (by rw [t.size]; lia) (t.size.symm ▸ k _ _ _ H .rfl (i.toks _) .int h)
theorem b_len_str {x : Str} (hl : x.length ≤ 100000) (h : Q (.int x.length)) : Op cx [.str x] (fun xs => call (.builtin "len") xs) Q := fun H ρ vr s xs K i r k => r.on1 fun x r => r.onStr fun _ =>
  PyProof.Rows.len_str (by lia) (k _ _ _ H .rfl (i.toks _) .int h)
theorem b_max (c : Here cx g d ns b) {m n : Int} (h : Q (.int (max m n))) : Op cx [.int m, .int n] (fun xs => call (.builtin "max") xs) Q := fun H ρ vr s xs K i r k => r.on2 fun x y r1 r2 => r1.onInt fun t => r2.onInt fun u =>
  max_two_ints c.ok.handled fun h' tk hk => k _ _ (.int (max m n)) H .rfl (i.ext (t := tk) hk) (by
    by_cases q : n > m
    · rw [if_pos q, Int.max_eq_right (Int.le_of_lt q)]; exact .int
    · rw [if_neg q, Int.max_eq_left (Int.not_lt.mp q)]; exact .int) h
theorem b_min (c : Here cx g d ns b) {m n : Int} (h : Q (.int (min m n))) : Op cx [.int m, .int n] (fun xs => call (.builtin "min") xs) Q := fun H ρ vr s xs K i r k => r.on2 fun x y r1 r2 => r1.onInt fun t => r2.onInt fun u =>
  min_two_ints c.ok.handled fun h' tk hk => k _ _ (.int (min m n)) H .rfl (i.ext (t := tk) hk) (by
    by_cases q : n < m
    · rw [if_pos q, Int.min_eq_right (Int.le_of_lt q)]; exact .int
    · rw [if_neg q, Int.min_eq_left (Int.not_lt.mp q)]; exact .int) h
theorem b_int {n : Int} (h : Q (.int n)) : Op cx [.int n] (fun xs => call (.type "int") xs) Q := fun H ρ vr s xs K i r k => r.on1 fun x r => r.onInt fun t => call_int_int (k _ _ _ H .rfl i .int h)
theorem b_abs {n : Int} (h : Q (.int (if n < 0 then -n else n))) : Op cx [.int n] (fun xs => call (.builtin "abs") xs) Q := fun H ρ vr s xs K i r k => r.on1 fun x r => r.onInt fun t => PyProof.Rows.call_abs_int fun u tk => k _ _ _ H .rfl (i.toks _) .int h
theorem b_ord {n : Nat} (h : Q (.int n)) : Op cx [.str ⟨#[n]⟩] (fun xs => call (.builtin "ord") xs) Q := fun H ρ vr s xs K i r k => r.on1 fun x r => r.onStr fun t => PySem.P.ord_of_char (k _ _ _ H .rfl (i.toks _) .int h)
theorem b_chr {n : Int} (hn : 0 ≤ n) (hn2 : n ≤ 0x10FFFF) (h : Q (.str ⟨#[n.toNat]⟩)) : Op cx [.int n] (fun xs => call (.builtin "chr") xs) Q := fun H ρ vr s xs K i r k => r.on1 fun x r => r.onInt fun t => PySem.P.chr_of_int (by simp; lia) (k _ _ _ H .rfl (i.toks _) .str h)
theorem b_range1 {n : Int} (h : Q (.rng 0 n)) : Op cx [.int n] (fun xs => call (.type "range") xs) Q := fun H ρ vr s xs K i r k => r.on1 fun x r => r.onInt fun t => PySem.call_range_1 ((i.toks (s.toks + 1 + 1)).alloc (o := rangeObj 0 n s.toks _ (s.toks + 1)) rfl fun H' l i' e => k _ _ _ H' l i' (.rng e) h)
theorem b_range2 {m n : Int} (h : Q (.rng m n)) : Op cx [.int m, .int n] (fun xs => call (.type "range") xs) Q := fun H ρ vr s xs K i r k => r.on2 fun x y r1 r2 => r1.onInt fun t => r2.onInt fun u => PySem.call_range_2 ((i.toks (s.toks + 1)).alloc (o := rangeObj m n _ _ s.toks) rfl fun H' l i' e => k _ _ _ H' l i' (.rng e) h)
end
end Mine

end
section
-- D13
open PySem PySem.W PySem.Calls PyProof.Rows
set_option Elab.async false
set_option linter.unusedVariables false
set_option maxRecDepth 100000
set_option genInjectivity false
set_option genSizeOfSpec false
namespace Mine
theorem Reps.drop {H : HF} : ∀ {vs : List V} {xs : List Value}, Reps H xs vs → ∀ k : Nat, Reps H (xs.drop k) (vs.drop k) := fun {vs} => by
  induction vs with
  | nil => intro xs r k; refine r.onNil ?_; rw [List.drop_nil, List.drop_nil]; exact .nil
  | cons v vs ih => intro xs r k; cases k with
    | zero => exact r
    | succ k => exact r.onCons fun _ _ _ b => ih b k
theorem Reps.take {H : HF} : ∀ {vs : List V} {xs : List Value}, Reps H xs vs → ∀ k : Nat, Reps H (xs.take k) (vs.take k) := fun {vs} => by
  induction vs with
  | nil => intro xs r k; refine r.onNil ?_; rw [List.take_nil, List.take_nil]; exact .nil
  | cons v vs ih => intro xs r k; cases k with
    | zero => exact .nil
    | succ k => exact r.onCons fun _ _ a b => .cons a (ih b k)
noncomputable def pick (l : List V) (lo hi : Option Int) : List V := (l.drop (kms_lo lo l.length)).take (kms_hi hi l.length - kms_lo lo l.length)
theorem Reps.pick {H : HF} {xs : List Value} {vs : List V} (r : Reps H xs vs) (lo hi : Option Int) : Reps H (kms_pick xs lo hi) (pick vs lo hi) := by
  unfold kms_pick Mine.pick
  rw [r.length]
  exact (r.drop _).take _
theorem Reps.at {H : HF} {its : List Value} {vs : List V} (r : Reps H its vs) {j : Nat} {u : V} {P : Prop} (h : vs[j]? = some u) (k : ∀ x, its.toArray[j]? = some x → Rep H x u → P) : P := (r.get h).elim fun x q => k x (List.getElem?_toArray.trans q.1) q.2
/-- an item at an index -/
inductive Item (v k u : V) : Prop
  | tup (vs : List V) (n : Int) (j : Nat) (e : v = .tup vs) (e2 : k = .int n) (a1 : -(2 ^ 63) ≤ n) (a2 : n < 2 ^ 63) (a3 : seqIndex? n vs.length = some j) (a4 : vs[j]? = some u)
  | lst (vs : List V) (n : Int) (e : v = .lst vs) (e2 : k = .int n) (a1 : 0 ≤ n) (a2 : n < 2 ^ 63) (a4 : vs[n.toNat]? = some u)
/-- the item of a list at a place told from its start or its end -/
noncomputable def PlaceP (m : Nat) (n : Int) (j : Nat) : Prop := (0 ≤ n ∧ n < 2 ^ 63 ∧ n.toNat = j) ∨ (n < 0 ∧ -(m : Int) ≤ n ∧ -(2 ^ 63) ≤ n ∧ (n + m).toNat = j)

section
variable {cx : Cx} {g : Gl} {d : Nat} {ns : Names} {b : Bool} {ρ : Env'} {H : HF} {vr : Str → Option Value} {s : Shared} {pos : Pos} {Q : V → Env' → Prop} {Qn : Env' → Prop} {Qr : R → Env' → Prop} {value slice : Expr} {x : Str} {j : Nat} {k : NameKind} {vs : List V}

theorem Item.run {y z : Value} {v k u : V} {K : Value → Shared → Prop} (h : Item v k u) (i : Inv cx H ρ vr s) (hs : ∀ o i : Value, subscripted slice false o i = operate [o, i] (getItem o i)) (r : Rep H y v) (r2 : Rep H z k) (kk : ∀ x, Rep H x u → K x s) : Go cx (subscriptTail value slice y z) K s := by
  cases h with
  | tup vs m j e e2 a1 a2 a3 a4 =>
    subst e; subst e2
    refine r.onTup fun a its n h t => ?_
    refine r2.onInt fun tk => ?_
    refine t.at a4 fun x hx rx => ?_
    exact tail_any (T := "tuple") ⟨_, i.keepH _ _ h, rfl⟩ slot_tuple_getitem.lookup (PyProof.Rows.getItem_tuple ⟨_, i.keepH _ _ h, rfl, n, rfl⟩ a1 a2 (t.size ▸ a3) hx (kk _ rx)) (hs _ _)
  | lst vs m e e2 a1 a2 a4 =>
    subst e; subst e2
    refine r.onLst fun a its n h t => ?_
    refine r2.onInt fun tk => ?_
    refine t.at a4 fun x hx rx => ?_
    exact tail_any (T := "list") ⟨_, i.keepH _ _ h, rfl⟩ PySem.F.slot_list_getitem.lookup (wpAny_getItem_list ⟨_, i.keepH _ _ h, rfl, n, rfl⟩ a1 a2 hx (kk _ rx)) (hs _ _)
inductive ItemP (Q : V → Prop) (v k : V) : Prop
  | mk (u : V) (h : Item v k u) (q : Q u)
theorem e_sub (h : Ev cx value ρ fun v ρ₁ => Ev cx slice ρ₁ fun k ρ₂ => ItemP (fun u => Q u ρ₂) v k) (hs : ∀ o i : Value, subscripted slice false o i = operate [o, i] (getItem o i) := by intro _ _; rfl) : Ev cx (.Subscript value slice pos) ρ Q := fun H vr s K i kk =>
  Subscript_ (h H vr s _ i fun x s1 v H1 ρ1 l1 i1 r1 h1 => h1 H1 vr s1 _ i1 fun y s2 k H2 ρ2 l2 i2 r2 q => q.rec fun u hit q => hit.run i2 hs (r1.mono l2) r2 fun z rz => kk z s2 u H2 ρ2 (l1.trans l2) i2 rz q)

/-- an item of a list that the frame alone holds -/
inductive OwnItem (ρ : Env') (j : Nat) (Q : V → Prop) (v : V) (ρ₁ : Env') : Prop
  | mk (n : Int) (ij : Nat) (vs : List V) (u : V) (e : v = .int n) (hr : ρ₁[j]? = some (some (.own vs))) (hp : PlaceP vs.length n ij) (hu : vs[ij]? = some u) (q : Q u)
theorem e_subO (c : Here cx g d ns b) {pos₀ : Pos} (hn : ns[j]? = some (x, k)) (hk : plainK k = true) (h0 : ρ[j]? = some (some (.own vs))) (h : Ev cx slice ρ fun v ρ₁ => OwnItem ρ j (fun u => Q u ρ₁) v ρ₁)
    (hs : ∀ o i : Value, subscripted slice false o i = operate [o, i] (getItem o i) := by intro _ _; rfl) : Ev cx (.Subscript (.Name x pos₀) slice pos) ρ Q := fun H vr s K i kk => by
  have hn' : cx.names[j]? = some (x, k) := c.names.symm ▸ hn
  obtain ⟨a, e, _⟩ := i.vars j x k _ hn' h0
  refine Subscript_ (load_name c i hn hk e (h H vr s _ i fun y s2 kv H2 ρ2 l2 i2 r2 ⟨m, ij, ws, u, ev, hr, hp, hu, q⟩ => ?_))
  subst ev
  obtain ⟨a', e', its, n, g1, g2, g3, g4⟩ := i2.vars j x k _ hn' hr
  rw [e] at e'; cases e'
  refine r2.onInt fun tk => ?_
  refine g4.at hu fun z hz rz => ?_
  refine tail_any (T := "list") ⟨_, g3, rfl⟩ PySem.F.slot_list_getitem.lookup ?_ (hs _ _)
  rcases hp with ⟨a1, a2, a3⟩ | ⟨a1, a2, a3, a4⟩
  · exact wpAny_getItem_list ⟨_, g3, rfl, n, rfl⟩ a1 a2 (a3 ▸ hz) (kk z s2 u H2 ρ2 l2 i2 rz q)
  · exact wpAny_getItem_list_neg ⟨_, g3, rfl, n, rfl⟩ a1 (g4.size ▸ a2) a3 (by rw [g4.size, a4]; exact hz) (kk z s2 u H2 ρ2 l2 i2 rz q)
theorem e_lenOwn (c : Here cx g d ns b) {fp pos₀ : Pos} (e1 : nsIn g.K mainGlobals ("len" : Str) = some none) (hm : (("len" : Str), NameKind.globalImplicit) ∈ ns) (hn : ns[j]? = some (x, k)) (hk : plainK k = true) (h0 : ρ[j]? = some (some (.own vs))) (hl : vs.length ≤ 100000) (hq : Q (.int vs.length) ρ) :
    Ev cx (.Call (.Name "len" fp) [.Name x pos₀] [] pos) ρ Q := fun H vr s K i kk => by
  obtain ⟨a, e, its, n, f1, f2, f3, f4⟩ := i.vars j x k _ (c.names.symm ▸ hn) h0
  refine wpAny_Call_NameR (load_built c i hm e1 boot_len (by decide) (callWith_args (P := fun _ => True) (fun h _ => machine_keeps rfl) ?_))
  exact wpAny_items_cons (load_name c i hn hk e (wpAny_items_nil ⟨trivial, Calls.call_len_list (items := its.toArray) ⟨_, f3, rfl, n, rfl⟩ (by rw [f4.size]; lia) (f4.size.symm ▸ kk _ _ _ H ρ .rfl (i.toks _) .int hq)⟩))

-- slices
/-- a part of a slice -/
noncomputable def EvP (cx : Cx) (o : Option Expr) (ρ : Env') (Q : V → Env' → Prop) : Prop := ∀ H vr s K, Inv cx H ρ vr s → KE cx H vr Q K → Go cx (evalPart o cx.env) K s
theorem evp_some {e : Expr} (h : Ev cx e ρ Q) : EvP cx (some e) ρ Q := h
theorem evp_none (h : Q .none ρ) : EvP cx none ρ Q := fun H vr s K i k => wpAny_pure (k _ s _ H ρ .rfl i .none h)
theorem part_is {H : HF} {x : Value} {o : Option Int} (r : Rep H x (hiV o)) : IsPart x o := by
  cases o with
  | none => exact r.onNone .none
  | some i => exact r.onInt fun t => .int i t
inductive SliceP (Q : List V → Prop) (v l u : V) : Prop
  | mk (vs : List V) (lo hi : Option Int) (e : v = .lst vs) (hl : vs.length ≤ 100000) (e1 : l = hiV lo) (e2 : u = hiV hi) (q : Q (pick vs lo hi))
theorem e_slice {lower upper : Option Expr} {p pos₀ : Pos} (h : Ev cx (.Name x pos₀) ρ fun v ρ₁ => EvP cx lower ρ₁ fun l ρ₂ => EvP cx upper ρ₂ fun u ρ₃ => SliceP (fun w => Q (.lst w) ρ₃) v l u) : Ev cx (.Subscript (.Name x pos₀) (.Slice lower upper none p) pos) ρ Q := fun H vr s K i k =>
  wpAny_Subscript_list_slice (h H vr s _ i fun x s1 v H1 ρ1 l1 i1 r1 h1 => h1 H1 vr s1 _ i1 fun y s2 l H2 ρ2 l2 i2 r2 h2 => h2 H2 vr s2 _ i2 fun z s3 u H3 ρ3 l3 i3 r3 ⟨vs, lo, hi, e, hn, e1, e2, q⟩ => by
    subst e; subst e1; subst e2
    refine (r1.mono (l2.trans l3)).onLst fun a its n h1 t1 => ?_
    refine ⟨a, its.toArray, lo, hi, rfl, ⟨_, i3.keepH _ _ h1, rfl, n, rfl⟩, t1.sz hn, part_is (r2.mono l3), part_is r3, ?_⟩
    exact (i3.push (t := s3.toks) { cls := .type "slice", data := .fields #[y, z, .none] }).alloc (o := { cls := .type "list", data := .seq (slicePick its.toArray lo hi none) }) rfl fun H5 l5 i5 e5 => by
      have e6 : H5 (s3.heap.objs.size + 1) = some (lstO (kms_pick its lo hi) 0) := (congrArg H5 (Heap.size_push ..).symm).trans (e5.trans (by rw [kms_pick_eq]))
      exact k _ _ _ H5 ρ3 (l1.trans (l2.trans (l3.trans l5))) i5 (.lst e6 ((t1.pick lo hi).mono l5)) q)
/-- a tuple from its second item on -/
theorem e_slice1_tup {k : Nat} {p p1 pos₀ : Pos} (h : Ev cx (.Name x pos₀) ρ fun v ρ₁ => ∃ vs, v = .tup vs ∧ (1 ≤ vs.length ∧ vs.length ≤ 100000) ∧ Q (.tup (vs.drop 1)) ρ₁) : Ev cx (.Subscript (.Name x pos₀) (.Slice (some (.Constant (.int 1) k p1)) none none p) pos) ρ Q := fun H vr s K i kk => by
  refine wpAny_Subscript_Slice (T := "tuple") slot_tuple_getitem.lookup (h H vr s _ i fun x s1 v H1 ρ1 l1 i1 r1 ⟨vs, e, hn, q⟩ => wpAny_Slice ?_)
  subst e
  rw [evalPart_some, evalPart_none]
  refine wpAny_Constant_int (wpAny_pure (wpAny_pure ?_))
  refine r1.onTup fun a its n h1 t1 => ?_
  have i4 := i1.push (t := s1.toks + 1) { cls := .type "slice", data := .fields #[.int 1 s1.toks, .none, .none] }
  have ha := i4.keepH _ _ h1
  exact ⟨⟨_, ha, rfl⟩, PyProof.Rows.getItem_tuple_from (items := its.toArray) (a := 1) ⟨_, ha, rfl, n, rfl⟩ (Heap.IsSliceOf.new ..) (Nat.le_refl _) (by rw [t1.size]; exact hn.1)
    (i4.alloc (o := { cls := .type "tuple", data := .seq (its.toArray.toList.drop 1).toArray }) rfl fun H5 l5 i5 e5 => kk _ _ _ H5 ρ1 (l1.trans l5) i5 (.tup (n := 0) e5 ((t1.drop 1).mono l5)) q) (t1.sz hn.2)⟩

theorem pick_1 (v : V) (vs : List V) : pick (v :: vs) (some 1) none = vs := by simp [pick, kms_lo, kms_hi]
theorem pick_to (vs : List V) (n : Int) (h : 0 ≤ n) : pick vs none (some n) = vs.take n.toNat := by
  unfold pick kms_lo kms_hi
  simp only [List.drop_zero, Nat.sub_zero]
  rw [if_neg (by lia)]
  rcases Nat.le_total n.toNat vs.length with q | q
  · rw [Nat.min_eq_left q]
  · rw [Nat.min_eq_right q, List.take_of_length_le q, List.take_length]

/-- isinstance(.., tuple), of data -/
noncomputable def isT (v : V) : Bool := v.casesOn (motive_1 := fun _ => Bool) false (fun _ => false) (fun _ => false) (fun _ => false) (fun _ => true) (fun _ => false) (fun _ _ => false) (fun _ _ => false)
noncomputable def atomT (v : V) : Bool := v.casesOn (motive_1 := fun _ => Bool) true (fun _ => true) (fun _ => true) (fun _ => true) (fun _ => true) (fun _ => false) (fun _ _ => false) (fun _ _ => false)
theorem e_isTuple (c : Here cx g d ns b) {e : Expr} {fp tp : Pos} (e1 : nsIn g.K mainGlobals ("isinstance" : Str) = some none) (e2 : nsIn g.K mainGlobals ("tuple" : Str) = some none) (m1 : (("isinstance" : Str), NameKind.globalImplicit) ∈ ns) (m2 : (("tuple" : Str), NameKind.globalImplicit) ∈ ns)
    (h : Ev cx e ρ fun v ρ₁ => atomT v = true ∧ Q (.bool (isT v)) ρ₁) (he : starEach (e :: [.Name "tuple" tp]) cx.env = (false, eval e cx.env) :: starEach [.Name "tuple" tp] cx.env := by rfl)
    (hplain : (backTo pos (starEach [e, .Name "tuple" tp] cx.env)).any (·.1) = false := by rfl) : Ev cx (.Call (.Name "isinstance" fp) [e, .Name "tuple" tp] [] pos) ρ Q := fun H vr s K i k => by
  refine wpAny_Call_NameR (load_built c i m1 e1 (v := .builtin "isinstance") rfl (by decide) (callWith_args (P := fun _ => True) (fun h _ => machine_keeps rfl) (wpAny_items_cons (h H vr s _ i fun x s1 v H1 ρ1 l1 i1 r1 q => ?_) he) hplain))
  refine wpAny_items_cons (load_built c i1 m2 e2 (v := .type "tuple") rfl (by decide) (wpAny_items_nil ⟨trivial, ?_⟩))
  obtain ⟨ht, q⟩ := q
  cases v with
  | none => exact r1.onNone (IsiPair.NoneType_tuple (k _ _ _ H1 ρ1 l1 (i1.toks _) .bool q))
  | bool b => exact r1.onBool (IsiPair.bool_tuple (k _ _ _ H1 ρ1 l1 (i1.toks _) .bool q))
  | int n => exact r1.onInt fun t => IsiPair.int_tuple (k _ _ _ H1 ρ1 l1 (i1.toks _) .bool q)
  | str n => exact r1.onStr fun t => IsiPair.str_tuple (k _ _ _ H1 ρ1 l1 (i1.toks _) .bool q)
  | tup vs => exact r1.onTup fun a its n h1 t1 => IsiPair.tuple_tuple (i1.keepH _ _ h1) rfl (k _ _ _ H1 ρ1 l1 i1 .bool q)
  | lst _ => cases ht
  | obj _ _ => cases ht
  | rng _ _ => cases ht
end
end Mine

end
section
-- D14
open PySem PySem.W PySem.Calls PyProof.Rows
set_option Elab.async false
set_option linter.unusedVariables false
set_option maxRecDepth 100000
set_option genInjectivity false
set_option genSizeOfSpec false
namespace Mine

theorem Fields.len {H : HF} : ∀ {fs : List (Str × V)} {es : List DictEntry}, Fields H es fs → es.length = fs.length := fun {fs} => by
  induction fs with
  | nil => exact fun r => r.onNil rfl
  | cons p fs ih => exact fun r => r.onCons fun _ _ _ _ _ b => congrArg (· + 1) (ih b)
theorem Fields.put {H : HF} {name : Str} {hsh : Int} {t : Tok} {x : Value} {v : V} (r : Rep H x v) : ∀ {fs : List (Str × V)} {es : List DictEntry}, Fields H es fs → fs.lookup name = none → Fields H (putL name hsh (.str name t) x es) (fs ++ [(name, v)]) := fun {fs} => by
  induction fs with
  | nil => exact fun q _ => q.onNil (.cons rfl r .nil)
  | cons p fs ih =>
    intro es q
    refine q.onCons fun e ys t hk hr q h => ?_
    rw [List.lookup_cons] at h
    by_cases hb : name = p.1
    · rw [beq_iff_eq.mpr hb] at h; cases h
    · rw [beq_eq_false_iff_ne.mpr hb] at h
      unfold putL
      rw [isStr_of hk name, beq_eq_false_iff_ne.mpr (Ne.symm hb)]
      exact .cons hk hr (ih q h)

-- an attribute of this name goes into the own dict
structure SetOk (K : Frag) (C : Addr) (name : Str) : Prop where
  hs : findIn K (.ref C) "__setattr__" = some (some (.builtin "object.__setattr__"))
  hp : plainOver K C = true
  ht : takerIn K C name = some none
  hh : (clsIn K C).any (·.hasDict) = true
-- an object that is being made
inductive InitAt (cx : Cx) (H : HF) (ρ : Env') (vr : Str → Option Value) (h : Heap) (x dx C : Addr) (fs : List (Str × V)) : Prop
  | mk (ox : Off cx H ρ vr x) (od : Off cx H ρ vr dx) (ne : x ≠ dx) (hx : h.get? x = some (instObj C dx)) (es : List DictEntry) (n : Nat) (hd : h.get? dx = some (dictOf es n)) (hf : Fields H es fs) (hl : es.length ≤ 100)

section
variable {cx : Cx} {g : Gl} {d : Nat} {ns : Names} {b : Bool} {ρ ρ' : Env'} {H H' : HF} {vr vr' : Str → Option Value} {s s' : Shared} {x dx C f : Addr} {fs : List (Str × V)} {self : Str} {Qi : List (Str × V) → Prop} {rest : List Stmt} {vs : List V}

theorem InitAt.after (i : Inv cx H ρ vr s) (I : InitAt cx H ρ vr s.heap x dx C fs) (l : H.le H') (i' : Inv (cx.withF (fixF cx H ρ vr s [])) H' ρ' vr' s') : InitAt cx H' ρ' vr' s'.heap x dx C fs :=
  I.rec fun ox od ne hx es n hd hf hl => have a := ox.stay not_nil hx i'; have b := od.stay not_nil hd i'; ⟨a.1, b.1, ne, a.2, es, n, b.2, hf.mono l, hl⟩
theorem set_new (c : Here cx g d ns b) {name : Str} {val : Value} {v : V} (i : Inv cx H ρ vr s) (I : InitAt cx H ρ vr s.heap x dx C fs) (hl : fs.lookup name = none) (hz : fs.length ≤ 50)
    (r : Rep H val v) (so : SetOk g.K C name) {Q : Unit → Shared → Prop} (h : ∀ s', Inv cx H ρ vr s' → InitAt cx H ρ vr s'.heap x dx C (fs ++ [(name, v)]) → Q () s') : Go cx (setAttr (.ref x) name val) Q s := by
  have X := (c.base i).k
  obtain ⟨ox, od, ne, hx, es, n, hd, hf, hlen⟩ := I
  have IA : InstAt s.heap x (instObj C dx) C (some (dictOf es n)) := ⟨hx, rfl, rfl, hd⟩
  refine set_plain X IA so.hs (osa_open (s := { s with toks := s.toks + 1 }) X IA so.hp so.ht fun bb => ?_)
  obtain ⟨cd, hc, hd'⟩ := any_some so.hh
  refine wpAny_bind (wpAny_pure (wpAny_bind (wpAny_bind (wpAny_loadPart hx (wpAny_bind (Looks.here (s := { s with toks := s.toks + 1 }) (looks_clsIn X hc) ?_))))))
  rw [hd']
  refine wpAny_pure (a := some dx) (wpAny_bind (wpAny_pure (wpAny_bind ?_)))
  unfold nsSet
  refine wpAny_bind (wpAny_bind (wpAny_askSetting (wpAny_pure (wpAny_bind (wpAny_mkText (wpAny_bind (wpAny_loadPart hd ?_)))))))
  have cc : (!es.toArray.any (·.key.isStr name) && es.toArray.any (·.refKey)) = false := by
    rw [← Array.any_toList, ← Array.any_toList, show es.toArray.toList = es by simp, (hf.miss hl).2, Bool.and_false]
  dsimp only
  rw [aRefKeyMayBeTheName_at, cc]
  refine wpAny_updatePart hd ?_
  have hs : Heap.SameBut dx s.heap (s.heap.update dx (Obj.putName name (PyData.keyHash cx.w.params name) (.str name (s.toks + 1)) val)) := Heap.SameBut.update ..
  have D' : (s.heap.update dx (Obj.putName name (PyData.keyHash cx.w.params name) (.str name (s.toks + 1)) val)).get? dx = some (dictOf (putL name (PyData.keyHash cx.w.params name) (.str name (s.toks + 1)) val es) (putN name es n)) := by
    rw [← putName_dict]
    exact Heap.get?_update_self _ hd (by rw [putName_dict]; rfl)
  have hf' := Fields.put (hsh := PyData.keyHash cx.w.params name) (t := s.toks + 1) r hf hl
  have hlen' : (putL name (PyData.keyHash cx.w.params name) (.str name (s.toks + 1)) val es).length ≤ 51 := by
    rw [hf'.len, List.length_append]; exact Nat.add_le_add_right hz 1
  refine wpAny_bind (wpAny_lookBehind D' (by exact pastItsLine_dict (by rw [List.size_toArray, sizeLine_eq]; lia)) (wpAny_pure ?_))
  exact h _ (i.extBut (t := s.toks + 1 + 1) od fun b o hb e => (hs.2 b hb).trans e) ⟨ox, od, ne, (hs.2 _ ne).trans hx, _, _, D', hf', Nat.le_trans hlen' (by decide)⟩

/-- the body of an __init__ -/
noncomputable def KX (cx : Cx) (H : HF) (x dx C : Addr) (Q : List (Str × V) → Prop) (K : Flow → Shared → Prop) : Prop := ∀ s H' ρ' vr' fs', H.le H' → Inv cx H' ρ' vr' s → InitAt cx H' ρ' vr' s.heap x dx C fs' → Q fs' → K .next s
theorem KX.le {H₁ : HF} {K : Flow → Shared → Prop} (k : KX cx H x dx C Qi K) (l : H.le H₁) : KX cx H₁ x dx C Qi K := fun s H' ρ' vr' fs' l' => k s H' ρ' vr' fs' (l.trans l')
noncomputable def ExI (cx : Cx) (self : Str) (x dx C : Addr) (sts : List Stmt) (ρ : Env') (fs : List (Str × V)) (Q : List (Str × V) → Prop) : Prop :=
  ∀ H vr s K, Inv cx H ρ vr s → InitAt cx H ρ vr s.heap x dx C fs → vr self = some (.ref x) → KX cx H x dx C Q K → Go cx (execs sts cx.env) K s
theorem i_nil (h : Qi fs) : ExI cx self x dx C [] ρ fs Qi := fun H vr s K i I _ k => wpAny_execs_nil (k s H ρ vr fs .rfl i I h)
theorem i_set (c : Here cx g d ns b) {y attr : Str} {j j' : Nat} {k : NameKind} {v : V} {p1 p2 p3 p4 : Pos} (hn : ns[j]? = some (y, k)) (hk : plainK k = true) (hr : ρ[j]? = some (some (.val v))) (hself : ns[j']? = some (self, .local))
    (hl : fs.lookup attr = none) (hz : fs.length ≤ 50) (so : SetOk g.K C attr) (h : ExI cx self x dx C rest ρ (fs ++ [(attr, v)]) Qi) (hs : swapsWith (.Name y p1) (some (.Attribute (.Name self p2) attr p3)) p4.line cx.env = pure false := by rfl) :
    ExI cx self x dx C (.Assign [.Attribute (.Name self p2) attr p3] (.Name y p1) p4 :: rest) ρ fs Qi := fun H vr s K i I hvr kk => by
  obtain ⟨val, e, r⟩ := i.vars j y k _ (c.names.symm ▸ hn) hr
  exact wpAny_execs_cons (plainObj_wpAny_Assign_Attribute (load_name c i hn hk e (load_name c i hself rfl hvr (set_new c i I hl hz r so fun s' i' I' => h H vr s' K i' I' hvr kk))) hs)
theorem i_if (c : Here cx g d ns b) {t : Expr} {body : List Stmt} {p : Pos} (ht : ∀ cx' : Cx, Here cx' g d ns b → Tr cx' t ρ fun bb ρ₁ => bb = false ∧ ρ₁ = ρ) (h : ExI cx self x dx C rest ρ fs Qi) : ExI cx self x dx C (.If t body [] p :: rest) ρ fs Qi := fun H vr s K i I hvr kk =>
  wpAny_execs_cons (wpAny_If (ht _ (c.fix i noOffs) H vr s _ i.fix fun bb s1 H1 ρ1 l1 i1 q => by
    obtain ⟨rfl, rfl⟩ := q
    exact wpAny_execs_nil (h H1 vr s1 K (i1.back i noOffs) (I.after i l1 i1) hvr (kk.le l1))))

/-- an __init__'s promise -/
noncomputable def FnI (g : Gl) (d : Nat) (f C : Addr) (vs : List V) (fs : List (Str × V)) (Q : List (Str × V) → Prop) : Prop :=
  ∀ cx : Cx, cx.In g d → ∀ H ρ vr s xs x dx K, Inv cx H ρ vr s → InitAt cx H ρ vr s.heap x dx C fs → Reps H xs vs → (∀ s' H' fs', H.le H' → Inv cx H' ρ vr s' → InitAt cx H' ρ vr s'.heap x dx C fs' → Q fs' → K (.ok (.ret .none)) s') →
    codeAny (model cx.prog cx.w) cx.A (.call (.ref f) ⟨.ref x :: xs, []⟩) K s
theorem FnI.mono {d' : Nat} {P' : List (Str × V) → Prop} (q : FnI g d f C vs fs Qi) (hd : d ≤ d') (hp : ∀ fs, Qi fs → P' fs) : FnI g d' f C vs fs P' :=
  fun cx hc H ρ vr s xs x dx K i I r k => q cx { hc with d := Nat.le_trans hd hc.d } H ρ vr s xs x dx K i I r fun s' H' fs' l i' I' p => k s' H' fs' l i' I' (hp _ p)
theorem init_intro {fd : FuncData} {body : List Stmt} {nt : Names} (F : FnOk g f fd (vs.length + 1) body) (hn : fd.scope.names = (self, .local) :: nt)
    (hbody : ∀ (cx : Cx) (x dx : Addr), Here cx g d ((self, .local) :: nt) true → ExI cx self x dx C body (none :: initEnv nt vs) fs Qi) : FnI g (d + 1) f C vs fs Qi := by
  intro cx hc H ρ vr s xs x dx K i I r k
  obtain ⟨ox, od, ne, hx, es, n, hd, hf, hlen⟩ := I
  refine enter F hc i (xs := .ref x :: xs) (congrArg (· + 1) r.length) (S := fun a => a = x ∨ a = dx) (pin := none) (fun a e => ?_) (fun _ _ e => nomatch e) (fun _ _ e => nomatch e) fun cx' s₁ vr₁ hc' hns hw hpin he hF hv i₁ hk hO back => ?_
  · rcases e with rfl | rfl
    · exact ⟨ox, by rw [hx]; exact fun e => nomatch e⟩
    · exact ⟨od, by rw [hd]; exact fun e => nomatch e⟩
  rw [hn] at hns i₁ hv
  have i₂ : Inv cx' H (none :: initEnv nt vs) vr₁ s₁ := i₁.reenv (by rw [hns]; exact congrArg (· + 1) (init_len nt vs)) fun j y k sl h1 h2 => by
    cases j with
    | zero => cases h2
    | succ j =>
      obtain ⟨v, e, hv'⟩ := init_at _ _ _ h2
      obtain ⟨z, hz, rz⟩ := r.get hv'
      rw [hns] at h1
      exact ⟨v, e, z, hv (j + 1) y k z h1 hz, rz⟩
  have no : ∀ a j, ¬ OwnAt cx' (none :: initEnv nt vs) vr₁ j a := fun a j ⟨y, k, us, h1, h2, _⟩ => by
    cases j with
    | zero => cases h2
    | succ j =>
      obtain ⟨v, e, _⟩ := init_at _ _ _ h2
      cases e
  refine hbody cx' x dx ⟨hc', hns, hw, fun y j h => ?_⟩ H vr₁ s₁ _ i₂ ⟨hO x (.inl rfl) _ (no x), hO dx (.inr rfl) _ (no dx), ne, hk _ _ hx, es, n, hk _ _ hd, hf, hlen⟩ (hv 0 self .local _ rfl rfl) fun s' H' ρ' vr' fs' l j I' q => ?_
  · have := List.all_eq_true.mp (Bool.and_eq_true_iff.mp F.names).1 _ (hn ▸ List.mem_of_getElem? h)
    cases this
  · obtain ⟨ox', od', _, hx', es', n', hd', hf', hlen'⟩ := I'
    exact k s' H' fs' l (back H' ρ' vr' s' l j) ⟨⟨ox.F, ox'.H, ox.L, ox.C, ox.O⟩, ⟨od.F, od'.H, od.L, od.C, od.O⟩, ne, hx', es', n', hd', hf', hlen'⟩ q

/-- Base.__init__(self, y) -/
theorem i_super (c : Here cx g d ns b) {y k : Str} {kd : NameKind} {j j' : Nat} {v : V} {B : Addr} {p0 p1 p2 p3 apos pos : Pos} {pl : Sem Bool} (hm : (k, NameKind.globalImplicit) ∈ ns) (hk : nsIn g.K mainGlobals k = some (some (.ref B)))
    (s1 : specialIn g.K (.ref B) "__getattribute__" = some (some (.builtin "type.__getattribute__"))) (s2 : readsIn g.K B (.type "type") = true) (s3 : findCls g.K (.ref B) (.type "type") "__init__" = some (.val (.ref f))) (s5 : keepIn g.K (.ref f) = true)
    (hself : ns[j']? = some (self, .local)) (hn : ns[j]? = some (y, kd)) (hkd : plainK kd = true) (hr : ρ[j]? = some (some (.val v))) (hf : FnI g d f C [v] fs fun fs' => ExI cx self x dx C rest ρ fs' Qi)
    (hs : swapsWith (.Call (.Attribute (.Name k p0) "__init__" apos) [.Name self p1, .Name y p2] [] pos) none p3.line cx.env = pure false := by rfl) (hplain : (backTo pos (starEach [.Name self p1, .Name y p2] cx.env)).any (·.1) = false := by rfl)
    (he : eval (.Call (.Attribute (.Name k p0) "__init__" apos) [.Name self p1, .Name y p2] [] pos) cx.env = (do
      let ov ← eval (.Name k p0) cx.env
      standAt apos.atName
      let (f, first) ← holding [ov] (getMethod ov "__init__" pl)
      callWith pos f first (backTo pos (starEach [.Name self p1, .Name y p2] cx.env)) []) := by rfl) :
    ExI cx self x dx C (.Expr (.Call (.Attribute (.Name k p0) "__init__" apos) [.Name self p1, .Name y p2] [] pos) p3 :: rest) ρ fs Qi := fun H vr s K i I hvr kk => by
  have X := (c.base i).k
  obtain ⟨val, e, r⟩ := i.vars j y kd _ (c.names.symm ▸ hn) hr
  refine wpAny_execs_cons (wpAny_Expr (MethodCall_ (pl := pl) (load_glob c i hm hk (method_cls X s1 (cls_value X s2 s3 rfl ?_))) he) (by show (cx.env.scope.kind == .module && _) = false; rw [c.ok.fkind]; rfl) hs)
  have i1 := i.toks (s.toks + 1)
  refine callWith_args (P := g.K.In) (keeps_K s5) (wpAny_items_cons (load_name c i1 hself rfl hvr (wpAny_items_cons (load_name c i1 hn hkd e (wpAny_items_nil ⟨X, ?_⟩))))) hplain
  exact wpAny_call (hf cx c.inn H ρ vr _ [val] x dx _ i1 I (.cons r .nil) fun s' H' fs' l i' I' hq => hq H' vr s' _ i' I' hvr (kk.le l))

-- making an object
noncomputable def Cx.under (cx : Cx) (A : Around) (d : Nat) : Cx := { cx with A := A, d := d }
theorem Inv.under (A : Around) (d : Nat) (i : Inv cx H ρ vr s) : Inv (cx.under A d) H ρ vr s :=
  ⟨i.gens, i.drawn, i.os, i.keepF, i.keepH, i.FH, i.ns, i.cell, i.cellsApart, i.offL, i.offC, i.len, i.vars, fun i1 i2 a o1 o2 => i.own1 i1 i2 a (o1.rec fun y k ws p q r => ⟨y, k, ws, p, q, r⟩) (o2.rec fun y k ws p q r => ⟨y, k, ws, p, q, r⟩)⟩
theorem Off.under {a : Addr} (A : Around) (d : Nat) (o : Off cx H ρ vr a) : Off (cx.under A d) H ρ vr a := ⟨o.F, o.H, o.L, o.C, fun ⟨j, y, k, ws, p, q, r⟩ => o.O ⟨j, y, k, ws, p, q, r⟩⟩
theorem InitAt.under {h : Heap} (A : Around) (d : Nat) (I : InitAt cx H ρ vr h x dx C fs) : InitAt (cx.under A d) H ρ vr h x dx C fs := I.rec fun ox od ne hx es n hd hf hl => ⟨ox.under A d, od.under A d, ne, hx, es, n, hd, hf, hl⟩
theorem Inv.unUnder {A : Around} {d : Nat} (i : Inv (cx.under A d) H ρ vr s) : Inv cx H ρ vr s := Inv.under (cx := cx.under A d) cx.A cx.d i
theorem InitAt.unUnder {A : Around} {d : Nat} {h : Heap} (i : InitAt (cx.under A d) H ρ vr h x dx C fs) : InitAt cx H ρ vr h x dx C fs := InitAt.under (cx := cx.under A d) cx.A cx.d i
theorem tc_weight (C : Addr) (rest : List Value) : (Code.builtin "type.__call__" ⟨.ref C :: rest, []⟩).weight ≤ 4 ∧ (Code.builtin "type.__call__" ⟨.ref C :: rest, []⟩).cUnits ≤ 12 := by
  refine ⟨?_, ?_⟩
  · show Code.weight _ ≤ 4
    have : Code.weight (.builtin "type.__call__" ⟨.ref C :: rest, []⟩) = Code.weight (.builtin "type.__call__" ⟨.ref 0 :: [], []⟩) := by rfl
    rw [this]; decide +kernel
  · have : Code.cUnits (.builtin "type.__call__" ⟨.ref C :: rest, []⟩) = Code.cUnits (.builtin "type.__call__" ⟨.ref 0 :: [], []⟩) := by rfl
    rw [this]; decide +kernel
theorem freeze_inst (i : Inv cx H ρ vr s) (I : InitAt cx H ρ vr s.heap x dx C fs) {P : Prop} (k : ∀ H', H.le H' → Inv cx H' ρ vr s → Rep H' (.ref x) (.obj C fs) → P) : P := by
  obtain ⟨ox, od, ne, hx, es, n, hd, hf, hl⟩ := I
  have l1 := le_put (o := dictOf es n) od.H
  have ox' : Off cx (H.put dx (dictOf es n)) ρ vr x := ⟨ox.F, (put_ne ne).trans ox.H, ox.L, ox.C, ox.O⟩
  have l2 := le_put (o := instObj C dx) ox'.H
  exact k _ (l1.trans l2) ((i.freeze hd od).freeze hx ox') (.obj put_self (l2 _ _ put_self) (hf.mono (l1.trans l2)))
/-- a call of an own class -/
inductive Make (g : Gl) (d : Nat) (C : Addr) (vs : List V) (P : List (Str × V) → Prop) : Prop
  | own (hm : makesIn g.K C = true) (fI : Addr) (hi : findIn g.K (.ref C) "__init__" = some (some (.ref fI))) (hf : typeIn g.K (.ref fI) = some (.type "function")) (mk : FnI g d fI C vs [] P)
  | plain (hm : makesIn g.K C = true) (hi : findIn g.K (.ref C) "__init__" = some (some (.builtin "object.__init__"))) (e : vs = []) (p : P [])
theorem Make.mono {P' : List (Str × V) → Prop} (h : Make g d C vs Qi) (hp : ∀ fs, Qi fs → P' fs) : Make g d C vs P' := h.rec (fun hm fI hi hf mk => .own hm fI hi hf (mk.mono (Nat.le_refl _) hp)) fun hm hi e p => .plain hm hi e (hp _ p)
theorem make_run (c : Here cx g (d + 1) ns b) (mk : Make g d C vs Qi) (i : Inv cx H ρ vr s) {xs : List Value} (r : Reps H xs vs) {K : Result → Shared → Prop} (k : ∀ y s' fs H', H.le H' → Inv cx H' ρ vr s' → Rep H' y (.obj C fs) → Qi fs → K (.ok (.ret y)) s') :
    codeAny (model cx.prog cx.w) cx.A (.call (.ref C) ⟨xs, []⟩) K s := by
  have X := (c.base i).k
  have o1 := Off.new i
  have o2 : Off cx H ρ vr (s.heap.objs.size + 1) := Off.fresh i (by
    cases q : s.heap.get? (s.heap.objs.size + 1) with
    | none => rfl
    | some o => exact absurd (Heap.lt_size q) (Nat.not_lt.mpr (Nat.le_succ _)))
  have hx : ((s.heap.push emptyDict).push (instObj C s.heap.objs.size)).get? (s.heap.objs.size + 1) = some (instObj C s.heap.objs.size) := Heap.get?_push_at (by rw [Heap.size_push]) rfl
  have hd : ((s.heap.push emptyDict).push (instObj C s.heap.objs.size)).get? s.heap.objs.size = some emptyDict := Heap.get?_push_of_some _ (Heap.get?_push_size _ rfl)
  have i1 : Inv cx H ρ vr { s with heap := (s.heap.push emptyDict).push (instObj C s.heap.objs.size) } := i.ext (t := s.toks) fun _ _ q => Heap.get?_push_of_some _ (Heap.get?_push_of_some _ q)
  have I1 : InitAt cx H ρ vr ((s.heap.push emptyDict).push (instObj C s.heap.objs.size)) (s.heap.objs.size + 1) s.heap.objs.size C [] := ⟨o2, o1, Nat.succ_ne_self _, hx, [], 0, hd, .nil, Nat.zero_le _⟩
  have fin : ∀ {H' s' fs}, H.le H' → Inv cx H' ρ vr s' → InitAt cx H' ρ vr s'.heap (s.heap.objs.size + 1) s.heap.objs.size C fs → Qi fs → K (.ok (.ret (.ref (s.heap.objs.size + 1)))) s' := fun l i' I' p => freeze_inst i' I' fun H2 l2 i2 r2 => k _ _ _ H2 (l.trans l2) i2 r2 p
  clear o1 o2
  rcases mk with ⟨hm, fI, hi, hf, mk⟩ | ⟨hm, hi, rfl, p⟩
  · refine make_core (makes_of X hm) (looks_findIn X hi) (fun self => bind_fn X self hf) (.inl rfl) ?_
    have hw := tc_weight C xs
    have ok := c.ok
    have hcd := c.inn.d
    have hin : (cx.under (cx.A.under (.builtin "type.__call__" ⟨.ref C :: xs, []⟩)) (cx.d - 1)).In g d := ⟨{ ok with
        depth := by
          have := ok.depth
          show cx.A.depth + _ + 4 * (cx.d - 1) + 4 < recursionLimit
          lia
        units := by
          have := ok.units
          show cx.A.units + _ + 12 * (cx.d - 1) + 140 < cLine
          lia }, c.inn.prog, c.inn.w, c.inn.K, by show d ≤ cx.d - 1; lia⟩
    exact mk _ hin H ρ vr _ xs _ _ _ (i1.under _ _) (I1.under _ _) r fun s' H' fs' l i' I' p => ⟨rfl, fin l i'.unUnder I'.unUnder p⟩
  · refine r.onNil (Ps := fun xs => codeAny _ _ (.call (.ref C) ⟨xs, []⟩) K s) ?_
    have Y := makes_of (M := model cx.prog cx.w) X hm
    refine make_core Y (looks_findIn X hi) (fun self => Looks.of_pure (oi_bind self)) (.inr ⟨rfl, rfl⟩) ?_
    have t1 : Looks (model cx.prog cx.w) ((s.heap.push emptyDict).push (instObj C s.heap.objs.size)) (typeOf (.ref (s.heap.objs.size + 1))) (.ref C) := (Looks.ld hx).andThen .now
    have t2 : Looks (model cx.prog cx.w) ((s.heap.push emptyDict).push (instObj C s.heap.objs.size)) (isInstance (.ref (s.heap.objs.size + 1)) (.type "object")) true := t1.andThen (Y.top.keeps fun b o e => Heap.get?_push_of_some _ (Heap.get?_push_of_some _ e))
    refine codeAny_call_builtin oi_plain entry_oi (@check_slot (model cx.prog cx.w) _ _ _ "object.__init__" "object" "__init__" (.ref (s.heap.objs.size + 1)) [] [] _ oi_kind oi_split t2 (oi_args (.ref (s.heap.objs.size + 1))) ?_)
    rw [oi_run]
    exact wpAny_pure (And.intro rfl (fin .rfl i1 I1 p))
theorem e_make (c : Here cx g d ns b) {f : Str} {fp pos : Pos} {args : List Expr} {Q : V → Env' → Prop} (hm : (f, NameKind.globalImplicit) ∈ ns) (hf : nsIn g.K mainGlobals f = some (some (.ref C))) (hk : keepIn g.K (.ref C) = true) (hd : 3 ≤ d)
    (h : Evs cx pos args ρ fun vs ρ₁ => Make g 2 C vs fun fs => Q (.obj C fs) ρ₁) (hplain : (backTo pos (starEach args cx.env)).any (·.1) = false := by rfl) : Ev cx (.Call (.Name f fp) args [] pos) ρ Q := fun H vr s K i k =>
  wpAny_Call_NameR (load_glob c i hm hf (callWith_fn c hk i h (fun xs s' vs H' ρ' l i' r q => wpAny_call (make_run (d := 2) ⟨{ c.inn with d := Nat.le_trans hd c.inn.d }, c.names, c.wr, c.pin⟩ q i' r fun y s2 fs H2 l2 i2 r2 p => k y s2 _ H2 ρ' (l.trans l2) i2 r2 p)) hplain))
end
end Mine

end
section
-- D15
open PySem PySem.W PySem.Calls PyProof.Rows
set_option Elab.async false
set_option linter.unusedVariables false
set_option maxRecDepth 100000
set_option genInjectivity false
set_option genSizeOfSpec false
namespace Mine
section
variable {prog : Program} {w : World} {A : Around} {E : Value → Shared → Prop} {s : Shared}
theorem setItem_own {l : Addr} {items : Array Value} {n j : Nat} {k : Int} {t : Tok} {v : Value} {Q : Unit → Shared → Prop} (hl : s.heap.get? l = some { cls := .type "list", data := .seq items n })
    (hj : (0 ≤ k ∧ k < 2 ^ 63 ∧ k.toNat = j) ∨ (k < 0 ∧ -(items.size : Int) ≤ k ∧ -(2 ^ 63) ≤ k ∧ (k + items.size).toNat = j)) (hn : j < items.size)
    (hQ : ∀ n', (s.heap.update l (Obj.mapSeq (·.setIfInBounds j v))).get? l = some { cls := .type "list", data := .seq (items.setIfInBounds j v) n' } → Heap.SameBut l s.heap (s.heap.update l (Obj.mapSeq (·.setIfInBounds j v))) → Q () { s with heap := s.heap.update l (Obj.mapSeq (·.setIfInBounds j v)) }) :
    wpAny (model prog w) A (setItem (.ref l) (.int k t) v) Q E s := by
  have hL : s.heap.IsList l items := ⟨_, hl, rfl, n, rfl⟩
  have hfin := hQ _ (IsL.update (items := items) hl (·.setIfInBounds j v)) (Heap.SameBut.update ..)
  have hx' : items[j]? = some items[j] := Array.getElem?_eq_getElem hn
  unfold setItem
  try with_reducible refine wpAny_holding ?_
  first | refine wpAny_bind (wpAny_pure ?_) | skip
  refine wpAny_bind (wpAny_sequenceKey hL.typeIs (by decide) ?_)
  refine wpAny_bind (wpAny_callSpecial?_slot (name := Str.ofString "__setitem__") hL.typeIs slot_list_setitem
    (wpAny_call_entry slot_list_setitem hL.typeIs entry_list_setitem ?_ (args_list_setitem _ _ _)))
  show wpAny _ _ (Builtin.List.listSubscript? (.int k t) >>= _) _ _ s
  rcases hj with ⟨h0, hfit, hjj⟩ | ⟨h0, h1, hfit, hjj⟩
  · refine wpAny_bind (wpAny_listSubscript_int (fitsIndex_of h0 hfit) ?_)
    clear hfit
    obtain ⟨j', rfl⟩ := Int.eq_ofNat_of_zero_le h0
    obtain rfl : j' = j := hjj
    show wpAny _ _ ((seqItemAt l j' >>= fun r => pure (r.map (j', ·))) >>= _) _ _ s
    refine wpAny_bind (wpAny_bind (wpAny_seqItemAt hl rfl (wpAny_pure ?_)))
    rw [hx']
    show wpAny _ _ (setSeqItemAt l j' v >>= _) _ _ s
    refine wpAny_bind (wpAny_setSeqItemAt hl rfl ?_)
    first
      | exact wpAny_bind (wpAny_pure (wpAny_pure ⟨.none, rfl, wpAny_pure hfin⟩))
      | exact wpAny_pure ⟨.none, rfl, wpAny_pure hfin⟩
  · refine wpAny_bind (wpAny_listSubscript_int (fitsIndex_neg h0 hfit) ?_)
    clear hfit
    have hidx := PySem.seqIndex_neg h0 h1
    obtain ⟨m, rfl⟩ : ∃ j : Nat, k = Int.negSucc j := by
      cases k with
      | ofNat n => exact absurd h0 (Int.not_lt.mpr (Int.ofNat_nonneg n))
      | negSucc n => exact ⟨n, rfl⟩
    show wpAny _ _ ((Builtin.List.listItems (.ref l) >>= fun xs => pure ((seqIndex? (Int.negSucc m) xs.size).bind fun i => xs[i]?.map (i, ·))) >>= _) _ _ s
    refine wpAny_bind (wpAny_bind ?_)
    show wpAny _ _ (seqItems? (.ref l) >>= _) _ _ s
    refine wpAny_bind (wpAny_seqItems hl rfl (wpAny_pure (wpAny_pure ?_)))
    rw [hidx, hjj]
    simp only [Option.bind_some, hx', Option.map_some]
    show wpAny _ _ (setSeqItemAt l j v >>= _) _ _ s
    refine wpAny_bind (wpAny_setSeqItemAt hl rfl ?_)
    first
      | exact wpAny_bind (wpAny_pure (wpAny_pure ⟨.none, rfl, wpAny_pure hfin⟩))
      | exact wpAny_pure ⟨.none, rfl, wpAny_pure hfin⟩
end


/-- the own lists set aside -/
noncomputable def dropOwn : Env' → Env' := List.map fun o => slotV (some o)
theorem dropOwn_val {ρ : Env'} {i : Nat} {sl : Slot} (h : (dropOwn ρ)[i]? = some (some sl)) : ρ[i]? = some (some sl) ∧ ∃ v, sl = .val v := by
  unfold dropOwn at h
  rw [List.getElem?_map] at h
  obtain ⟨o, e1, e2⟩ := Option.map_eq_some_iff.mp h
  obtain ⟨e, v, q⟩ := slotV_some e2
  exact ⟨e1.trans e, v, q⟩
noncomputable def isAtom (v : V) : Bool := v.casesOn (motive_1 := fun _ => Bool) true (fun _ => true) (fun _ => true) (fun _ => true) (fun _ => false) (fun _ => false) (fun _ _ => false) (fun _ _ => false)
theorem Rep.atom {H H' : HF} {x : Value} {v : V} (r : Rep H x v) (h : isAtom v = true) : Rep H' x v := by
  cases v with
  | none => exact r
  | bool b => exact r
  | int n => exact r
  | str n => exact r
  | tup vs => cases h
  | lst _ => cases h
  | obj _ _ => cases h
  | rng _ _ => cases h
section
variable {cx : Cx} {g : Gl} {d : Nat} {ns : Names} {b : Bool} {ρ : Env'} {H : HF} {vr : Str → Option Value} {s : Shared} {pos : Pos} {Q : V → Env' → Prop} {Qb : Bool → Env' → Prop} {Qn : Env' → Prop} {Qr : R → Env' → Prop} {value slice e : Expr} {x y : Str} {j : Nat} {k : NameKind} {vs : List V}
/-- a list of the frame's own is read as a value, for a while -/
theorem borrow (c : Here cx g d ns b) (i : Inv cx H ρ vr s) (hn : ns[j]? = some (x, k)) (h0 : ρ[j]? = some (some (.own vs))) {P : Prop}
    (q : ∀ H₁, Inv cx H₁ ((dropOwn ρ).set j (some (.val (.lst vs)))) vr s → (∀ {H' s'}, H₁.le H' → Inv (cx.withF (fixF cx H₁ ((dropOwn ρ).set j (some (.val (.lst vs)))) vr s [])) H' ((dropOwn ρ).set j (some (.val (.lst vs)))) vr s' → Inv cx H ρ vr s') → P) : P := by
  have hn' : cx.names[j]? = some (x, k) := c.names.symm ▸ hn
  obtain ⟨a, e, its, n, f1, f2, f3, f4⟩ := i.vars j x k _ hn' h0
  have i1 : Inv cx H (dropOwn ρ) vr s := i.reenv ((List.length_map ..).trans i.len) fun j x k sl h1 h2 => by
    obtain ⟨h3, v, rfl⟩ := dropOwn_val h2
    exact ⟨v, rfl, i.vars j x k _ h1 h3⟩
  have o1 : Off cx H (dropOwn ρ) vr a := i1.off f3 f1 f2 fun ⟨j', y, k', ws, h1, h2, _⟩ => by
    obtain ⟨_, v, e⟩ := dropOwn_val h2
    cases e
  have lp := le_put (o := lstO its n) f2
  have i3 := (i1.freeze f3 o1).reslot c.ok hn' (o := some (.lst vs)) fun v e' => by cases e'; exact ⟨_, e, .lst put_self (f4.mono lp)⟩
  refine q _ i3 fun {H' s'} l i' => ?_
  have jj := i'.back i3 noOffs
  refine { gens := jj.gens, drawn := i.drawn, os := jj.os, keepF := jj.keepF, keepH := fun a o e => jj.keepH a o (l a o (lp a o e)), FH := i.FH, ns := jj.ns, cell := jj.cell, cellsApart := i.cellsApart, offL := i.offL, offC := i.offC, len := i.len, vars := fun j' y k' sl h1 h2 => ?_, own1 := i.own1 }
  have r := i.vars j' y k' sl h1 h2
  cases sl with
  | val v => exact r
  | own ws =>
    obtain ⟨a', e', its', n', g1, g2, g3, g4⟩ := r
    refine ⟨a', e', its', n', g1, g2, ?_, g4⟩
    by_cases q : a' = a
    · subst q
      rw [f3] at g3; rw [← g3]
      exact jj.keepH _ _ (l _ _ put_self)
    · exact (Off.stay (i3.off g3 g1 ((put_ne q).trans g2) fun ⟨j2, y2, k2, ws2, p1, p2, _⟩ => by
        by_cases hj : j = j2
        · subst hj
          rw [List.getElem?_set_self (((List.length_map ..).trans i.len) ▸ (List.getElem?_eq_some_iff.mp hn').1)] at p2; cases p2
        · rw [List.getElem?_set_ne hj] at p2
          obtain ⟨_, v, e⟩ := dropOwn_val p2
          cases e) not_nil g3 i').2
theorem tr_borrow (c : Here cx g d ns b) (hn : ns[j]? = some (x, k)) (h0 : ρ[j]? = some (some (.own vs))) (h : ∀ cx' : Cx, Here cx' g d ns b → Tr cx' e ((dropOwn ρ).set j (some (.val (.lst vs)))) fun bb ρ₁ => ρ₁ = (dropOwn ρ).set j (some (.val (.lst vs))) ∧ Qb bb ρ) : Tr cx e ρ Qb := fun H vr s K i k =>
  borrow c i hn h0 fun H₁ i1 back => h _ (c.fix i1 noOffs) H₁ vr s K i1.fix fun bb s' H' ρ' l i' q => k bb s' H ρ .rfl (back l (q.1 ▸ i')) q.2
theorem e_borrow (c : Here cx g d ns b) (hn : ns[j]? = some (x, k)) (h0 : ρ[j]? = some (some (.own vs))) (h : ∀ cx' : Cx, Here cx' g d ns b → Ev cx' e ((dropOwn ρ).set j (some (.val (.lst vs)))) fun v ρ₁ => ρ₁ = (dropOwn ρ).set j (some (.val (.lst vs))) ∧ isAtom v = true ∧ Q v ρ) : Ev cx e ρ Q := fun H vr s K i k =>
  borrow c i hn h0 fun H₁ i1 back => h _ (c.fix i1 noOffs) H₁ vr s K i1.fix fun y s' v H' ρ' l i' r q => k y s' v H ρ .rfl (back l (q.1 ▸ i')) (r.atom q.2.1) q.2.2

/-- an item of an own list is stored -/
inductive SetP (ρ : Env') (j : Nat) (v : V) (Q : Env' → Prop) (iv : V) (ρ₁ : Env') : Prop
  | mk (n : Int) (ij : Nat) (vs : List V) (e : iv = .int n) (hr : ρ₁[j]? = some (some (.own vs))) (hp : PlaceP vs.length n ij) (hl : ij < vs.length) (q : Q (ρ₁.set j (some (.own (vs.set ij v)))))
theorem x_setI (c : Here cx g d ns b) {pos₀ pos₁ : Pos} (hn : ns[j]? = some (x, k)) (hk : plainK k = true) (h : Ev cx value ρ fun v ρ₁ => OwnP ρ₁ j fun _ => Ev cx slice ρ₁ fun iv ρ₂ => SetP ρ₁ j v Qn iv ρ₂)
    (hs : swapsWith value (some (.Subscript (.Name x pos₀) slice pos₁)) pos.line cx.env = pure false := by rfl) : Ex1 cx (.Assign [.Subscript (.Name x pos₀) slice pos₁] value pos) ρ Qn Qr := fun H vr s K i kn kr => by
  have hn' : cx.names[j]? = some (x, k) := c.names.symm ▸ hn
  refine wpAny_Assign_Subscript (h H vr s _ i fun z s1 v H1 ρ1 l1 i1 r1 ⟨vs, h0, h1⟩ => ?_) hs
  obtain ⟨a, e, _⟩ := i1.vars j x k _ hn' h0
  refine load_name c i1 hn hk e (h1 H1 vr s1 _ i1 fun y s2 iv H2 ρ2 l2 i2 r2 ⟨m, ij, ws, ev, hr, hp, hlt, q⟩ => ?_)
  subst ev
  obtain ⟨a', e', its, n, g1, g2, g3, g4⟩ := i2.vars j x k _ hn' hr
  rw [e] at e'; cases e'
  refine r2.onInt fun tk => ?_
  exact setItem_own (items := its.toArray) g3 (j := ij) (g4.size.symm ▸ hp) (g4.size.symm ▸ hlt) fun n2 hu hsb => kn _ H2 _ vr (l1.trans l2) (i2.own_upd (t := s2.toks) c.ok hn' hr e (fun b o hb e => (hsb.2 b hb).trans e) (hu.trans (by rw [List.setIfInBounds_toArray])) (Reps.set (r1.mono l2) g4 ij)) q

/-- a call that lends a list of the frame's own -/
theorem e_callP (c : Here cx g d ns b) {f : Str} {a : Addr} {fp xp : Pos} {args : List Expr} {vs₀ : List V} (hm : (f, NameKind.globalImplicit) ∈ ns) (hf : nsIn g.K mainGlobals f = some (some (.ref a))) (hkp : keepIn g.K (.ref a) = true) (hn : ns[j]? = some (x, k)) (hk : plainK k = true) (h0 : ρ[j]? = some (some (.own vs₀)))
    (h : Evs cx pos args ρ fun us ρ₁ => OwnP ρ₁ j fun vs => FnP g d a us vs fun v vs' => Q v (ρ₁.set j (some (.own vs')))) (hplain : (backTo pos (starEach (.Name x xp :: args) cx.env)).any (·.1) = false := by rfl) :
    Ev cx (.Call (.Name f fp) (.Name x xp :: args) [] pos) ρ Q := fun H vr s K i kk => by
  have hn' : cx.names[j]? = some (x, k) := c.names.symm ▸ hn
  obtain ⟨ax, ev, _⟩ := i.vars j x k _ hn' h0
  refine wpAny_Call_NameR (load_glob c i hm hf (callWith_args (P := g.K.In) (keeps_K hkp) (wpAny_items_cons (load_name c i hn hk ev (h H vr s _ i fun xs s1 us H1 ρ1 l1 i1 r1 ⟨vs, hr, hF⟩ => ⟨(c.base i1).k, ?_⟩))) hplain))
  refine own_fresh c.ok i1 hn' hr fun y e i2 ⟨ay, ey, o, no⟩ => ?_
  rw [ev] at e; cases e; cases ey
  refine wpAny_call (hF cx c.inn H1 _ vr s1 xs ax _ i2 ⟨o.rec fun its n f1 f2 f3 f4 => i2.off f3 f1 f2 no, o⟩ r1 fun z s2 v vs' H' l' i' o' rr q => kk z s2 v H' _ (l1.trans l') ?_ rr q)
  have := i'.take c.ok hn' ev o' (by rw [List.set_set]; exact no)
  rwa [List.set_set] at this

/-- two names are bound to the items of a pair, in their order -/
theorem x_unpack (c : Here cx g d ns b) {p q r : Pos} {k : Nat} (h : Ev cx value ρ fun v ρ₁ => Tgt ns b (.Tuple [.Name x p, .Name y q] k r) v ρ₁ Qn) (hs : swapsWithSole [.Tuple [.Name x p, .Name y q] k r] value pos.line cx.env = pure false := by rfl)
    (hw : swappedStores [.Tuple [.Name x p, .Name y q] k r] value cx.env = pure none := by rfl) : Ex1 cx (.Assign [.Tuple [.Name x p, .Name y q] k r] value pos) ρ Qn Qr := fun H vr s K i kn kr =>
  PyProof.Rows.Assign_Tuple (h H vr s _ i fun z s1 v H1 ρ1 l1 i1 r1 q => tgt_assign c i1 q r1 fun s2 ρ2 vr2 i2 h2 => kn s2 H1 ρ2 vr2 l1 i2 h2) hs hw
/-- .. and in the turned order -/
inductive PairP (Q : V → V → Prop) (v : V) : Prop
  | mk (u w : V) (e : v = .tup [u, w]) (q : Q u w)
theorem x_swap2 (c : Here cx g d ns b) {p q r : Pos} {k : Nat} (h : Ev cx value ρ fun v ρ₁ => PairP (fun u w => Bind ns b y (.val w) ρ₁ fun ρ₂ => Bind ns b x (.val u) ρ₂ Qn) v) (hw : swappedStores [.Tuple [.Name x p, .Name y q] k r] value cx.env = pure (some [x, y]))
    (hs : swapsWithSole [.Tuple [.Name x p, .Name y q] k r] value pos.line cx.env = pure false := by rfl) : Ex1 cx (.Assign [.Tuple [.Name x p, .Name y q] k r] value pos) ρ Qn Qr := fun H vr s K i kn kr =>
  PyProof.Rows.Assign_Tuple_swapped (h H vr s _ i fun z s1 v H1 ρ1 l1 i1 r1 ⟨u, w, e, hb⟩ => by
    subst e
    refine r1.onTup fun a its n hH hr => ?_
    refine hr.on2 (Ps := fun its => H1 a = some (tupO its n) → _) (fun x1 x2 r1 r2 hH => ?_) hH
    refine unpackItems_tuple (items := #[x1, x2]) c.ok.handled ⟨_, i1.keepH _ _ hH, rfl, n, rfl⟩ fun h' hk => ?_
    refine wpAny_assignInOrder_more (t := bindName cx.env y) (wpAny_bindName (bind_store c (i1.extBut (t := s1.toks) (Off.new i1) fun b o hb e => hk b o hb e) hb r2 fun s3 ρ3 vr3 i3 h3 => ?_))
    exact wpAny_assignInOrder_more (t := bindName cx.env x) (wpAny_bindName (bind_store c i3 h3 r1 fun s4 ρ4 vr4 i4 h4 => wpAny_assignInOrder_none (kn s4 H1 ρ4 vr4 l1 i4 h4)))) hs hw
theorem swap2_yes (c : Here cx g d ns b) {x y : Str} {p q r r' : Pos} {k k' : Nat} {e1 e2 : Expr} (hx : (x, NameKind.local) ∈ ns) (hy : (y, NameKind.local) ∈ ns) (hq : (q.line == p.line) = true) (hxy : ([x, y].eraseDups.length != 2) = false)
    (h1 : ([e1, e2].any fun | .Starred .. => true | _ => false) = false) (h2 : [e1, e2].all (foldedForSure 8) = false) (h3 : [e1, e2].all (constantsAlone 8) = false) :
    swappedStores [.Tuple [.Name x p, .Name y q] k r] (.Tuple [e1, e2] k' r') cx.env = pure (some [x, y]) := by
  have b1 := blk c.ok
  have kx := c.ok.kLocal x (c.names.symm ▸ hx)
  have ky := c.ok.kLocal y (c.names.symm ▸ hy)
  have hlp : (p.line == p.line) = true := by simp
  unfold swappedStores
  dsimp only
  refine (if_neg (by rw [b1]; simp)).trans ?_
  refine (if_neg (by rw [Bool.not_eq_true]; exact h1)).trans ?_
  simp only [List.filterMap_cons, List.filterMap_nil, kx, ky, List.head?_cons, Option.map_some, Option.getD_some, show (Expr.Name x p).pos = p from rfl, hlp, hq, beq_self_eq_true, Bool.and_self, Bool.and_true, if_true]
  refine (if_neg (by rw [Bool.not_eq_true]; exact hxy)).trans ?_
  rw [h2, h3]
  rfl

theorem x_swapB (c : Here cx g d ns b) {e1 e2 : Expr} {p q r r' : Pos} {k k' : Nat} (hx : (x, NameKind.local) ∈ ns) (hy : (y, NameKind.local) ∈ ns) (hq : (q.line == p.line) = true) (hxy : ([x, y].eraseDups.length != 2) = false)
    (h1 : ([e1, e2].any fun | .Starred .. => true | _ => false) = false) (h2 : [e1, e2].all (foldedForSure 8) = false) (h3 : [e1, e2].all (constantsAlone 8) = false)
    (h : Ev cx (.Tuple [e1, e2] k' r') ρ fun v ρ₁ => PairP (fun u w => Bind ns b y (.val w) ρ₁ fun ρ₂ => Bind ns b x (.val u) ρ₂ Qn) v)
    (hs : swapsWithSole [.Tuple [.Name x p, .Name y q] k r] (.Tuple [e1, e2] k' r') pos.line cx.env = pure false := by rfl) : Ex1 cx (.Assign [.Tuple [.Name x p, .Name y q] k r] (.Tuple [e1, e2] k' r') pos) ρ Qn Qr :=
  x_swap2 c h (swap2_yes c hx hy hq hxy h1 h2 h3) hs
/-- the names are cells: the pair is made, then taken apart -/
theorem swap2_no (c : Here cx g d ns b) {x y : Str} {p q r r' : Pos} {k k' : Nat} {vs : List Expr} (hx : (x, NameKind.cell) ∈ ns) (h1 : (vs.any fun | .Starred .. => true | _ => false) = false) (hl : vs.length = 2) :
    swappedStores [.Tuple [.Name x p, .Name y q] k r] (.Tuple vs k' r') cx.env = pure none := by
  have b1 := blk c.ok
  have kx := (c.ok.kCell x (c.names.symm ▸ hx)).1
  unfold swappedStores
  dsimp only
  refine (if_neg (by rw [b1]; simp [hl])).trans ?_
  refine (if_neg (by rw [Bool.not_eq_true]; exact h1)).trans ?_
  refine if_pos ?_
  simp only [List.filterMap_cons, List.filterMap_nil, kx, show (some NameKind.cell == some NameKind.local) = false from rfl, Bool.false_and, Bool.false_eq_true, if_false]
  split <;> simp

theorem x_unpackC (c : Here cx g d ns b) {us : List Expr} {p q r r' : Pos} {k k' : Nat} (hx : (x, NameKind.cell) ∈ ns) (h1 : (us.any fun | .Starred .. => true | _ => false) = false) (hl : us.length = 2)
    (h : Ev cx (.Tuple us k' r') ρ fun v ρ₁ => Tgt ns b (.Tuple [.Name x p, .Name y q] k r) v ρ₁ Qn) (hs : swapsWithSole [.Tuple [.Name x p, .Name y q] k r] (.Tuple us k' r') pos.line cx.env = pure false := by rfl) : Ex1 cx (.Assign [.Tuple [.Name x p, .Name y q] k r] (.Tuple us k' r') pos) ρ Qn Qr :=
  x_unpack c h hs (swap2_no c hx h1 hl)

/-- a value of a written table of three texts -/
inductive DictP (k1 k2 k3 : Str) (a1 a2 a3 : V) (Q : V → Prop) (k : V) : Prop
  | mk (key : Str) (j : Nat) (u : V) (e : k = .str key) (hv : ∀ x y z : Value, valueAt (merged [] [(k1, x), (k2, y), (k3, z)]) key = [x, y, z][j]?) (hu : [a1, a2, a3][j]? = some u) (q : Q u)
theorem e_dict3 (c : Here cx g d ns b) {k1 k2 k3 : Str} {c1 c2 c3 : Nat} {p1 p2 p3 dp : Pos} {v1 v2 v3 : Expr}
    (h : ∀ cx1, Here cx1 g d ns b → Ev cx1 v1 ρ fun a1 ρ1 => Ev cx1 v2 ρ1 fun a2 ρ2 => Ev cx1 v3 ρ2 fun a3 ρ3 => ∀ cx2, Here cx2 g d ns b → Ev cx2 slice ρ3 fun k ρ4 => DictP k1 k2 k3 a1 a2 a3 (fun u => Q u ρ4) k)
    (hs : ∀ o i : Value, subscripted slice false o i = operate [o, i] (getItem o i) := by intro _ _; rfl) :
    Ev cx (.Subscript (.Dict [some (.Constant (.str k1) c1 p1), some (.Constant (.str k2) c2 p2), some (.Constant (.str k3) c3 p3)] [v1, v2, v3] dp) slice pos) ρ Q := fun H vr s K i k => by
  have oD := Off.new i
  have i1 : Inv cx H ρ vr { s with heap := s.heap.push { cls := .type "dict", data := .dict #[] } } := i.push (t := s.toks) _
  have e1 : (s.heap.push { cls := .type "dict", data := .dict #[] }).get? s.heap.objs.size = some { cls := .type "dict", data := .dict #[] } := Heap.get?_push_size _ rfl
  refine Subscript_ (wpAny_Dict_walk (knd := PySem.strKind cx.prog cx.w) rfl rfl (by simp) (by simp) ?_)
  refine pairTrees_cons_walk (Calls.Constant_str (h _ (c.fix i1 noOffs) H vr _ _ (i1.fix.toks _) fun x1 s1 a1 H1 ρ1 l1 i1' r1 q1 => ?_))
  refine pairTrees_cons_walk (Calls.Constant_str (q1 H1 vr _ _ (i1'.toks _) fun x2 s2 a2 H2 ρ2 l2 i2 r2 q2 => ?_))
  refine pairTrees_cons_walk (Calls.Constant_str (q2 H2 vr _ _ (i2.toks _) fun x3 s3 a3 H3 ρ3 l3 i3 r3 q3 => ?_))
  refine pairTrees_nil_walk ?_
  have st := Off.stay (as := []) oD not_nil e1 i3
  have i3' := i3.back i1 noOffs
  have r1 := r1.mono (l2.trans l3)
  have r2 := r2.mono l3
  have l3 := l1.trans (l2.trans l3)
  clear oD e1 i1 i1' i2 q1 q2 i3 l1 l2
  refine ⟨[(k1, x1), (k2, x2), (k3, x3)], ⟨strKind_is _ _ _ _, rfl, strKind_is _ _ _ _, rfl, strKind_is _ _ _ _, rfl, trivial⟩, ⟨_, #[], 0, st.2, ⟨rfl, rfl, rfl⟩, rfl, (fun e he => nomatch he), .nil, List.nodup_nil⟩, fun h' ⟨oF, es, ep, gF, rest⟩ hsb => ?_⟩
  have i4 := i3'.extBut (t := s3.toks + 3) st.1 fun b o hb e => (hsb.2 b hb).trans e
  refine q3 _ (c.fix i4 noOffs) H3 vr _ _ i4.fix fun y s5 kv H4 ρ4 l4 i6 r4 ⟨key', j, u, e, hval, hj, q⟩ => ?_
  have st6 := Off.stay (as := []) st.1 not_nil gF i6
  have i6' := i6.back i4 noOffs
  clear i4 i3' i6 q3 st
  subst e
  refine r4.onStr fun t => ?_
  have hdict : s5.heap.DictOf (PySem.strKind cx.prog cx.w) s.heap.objs.size (merged [] [(k1, x1), (k2, x2), (k3, x3)]) := ⟨oF, es, ep, st6.2, rest⟩
  have hu : Reps H4 [x1, x2, x3] [a1, a2, a3] := .cons (r1.mono l4) (.cons (r2.mono l4) (.cons (r3.mono l4) .nil))
  obtain ⟨xv, hxv, rx⟩ := hu.get hj
  exact PyProof.Rows.tail_any (T := "dict") hdict.typeIs slot_dict_getitem.lookup (wpAny_getItem_of (strKind_is _ _ _ _) hdict.mapOf ((hval x1 x2 x3).trans hxv) (k _ _ u H4 ρ4 (l3.trans l4) (i6'.toks _) rx q)) (hs _ _)
end
end Mine

end
section
-- D16
open PySem PySem.W PySem.Calls PyProof.Rows
set_option Elab.async false
set_option linter.all false
set_option maxRecDepth 100000
set_option maxHeartbeats 4000000
namespace Mine
section
variable {prog : Program} {w : World} {A : Around} {E : Value → Shared → Prop} {s : Shared}
/-- a tuple that begins with this int -/
noncomputable def HeadAt (h : Heap) (v : Value) (n : Int) : Prop := ∃ a o xs k t, v = .ref a ∧ h.get? a = some o ∧ o.cls = .type "tuple" ∧ o.data = .seq xs k ∧ xs[0]? = some (.int n t)
noncomputable def HeadsAt (h : Heap) : List Value → List Int → Prop
  | [], [] => True
  | v :: vs, n :: ns => HeadAt h v n ∧ HeadsAt h vs ns
  | _, _ => False
theorem HeadsAt.len {h : Heap} : ∀ {vs : List Value} {ns : List Int}, HeadsAt h vs ns → vs.length = ns.length
  | [], [], _ => rfl
  | _ :: _, _ :: _, x => by simp [HeadsAt.len x.2]
  | [], _ :: _, x => x.elim
  | _ :: _, [], x => x.elim
theorem HeadAt.keep {h h' : Heap} {v : Value} {n : Int} (k : ∀ a o, h.get? a = some o → h'.get? a = some o) (x : HeadAt h v n) : HeadAt h' v n := by
  obtain ⟨a, o, xs, q, t, e1, e2, e3⟩ := x
  exact ⟨a, o, xs, q, t, e1, k _ _ e2, e3⟩
theorem HeadsAt.tups {h : Heap} : ∀ {vs : List Value} {ns : List Int}, HeadsAt h vs ns → ∃ fs, KatTups h vs fs ∧ fs.length = ns.length ∧ ∀ v ∈ fs, ∃ n t, v = .int n t
  | [], [], _ => ⟨[], trivial, rfl, fun _ h => by cases h⟩
  | v :: vs, n :: ns, x => by
    obtain ⟨⟨a, o, xs, k, t, rfl, h1, h2, h3, h4⟩, r⟩ := x
    obtain ⟨fs, a1, a2, a3⟩ := r.tups
    refine ⟨.int n t :: fs, .cons h1 h2 h3 h4 a1, by simp [a2], fun v hv => ?_⟩
    rcases List.mem_cons.mp hv with rfl | hv
    · exact ⟨_, _, rfl⟩
    · exact a3 v hv
  | [], _ :: _, x => x.elim
  | _ :: _, [], x => x.elim
theorem lt_heads {x y : Value} {m n : Int} {Q : Bool → Shared → Prop} (hx : HeadAt s.heap x m) (hy : HeadAt s.heap y n) (hne : m ≠ n) (h : Q (decide (m < n)) s) : wpAny (model prog w) A (keyLt' (tuples' true) x y) Q E s := by
  obtain ⟨a, o, xs, k, t, rfl, h1, h2, h3, h4⟩ := hx
  obtain ⟨a', o', ys, k', t', rfl, g1, g2, g3, g4⟩ := hy
  obtain ⟨xs⟩ := xs
  obtain ⟨ys⟩ := ys
  cases xs with
  | nil => simp at h4
  | cons x xs =>
    cases ys with
    | nil => simp at g4
    | cons y ys =>
      simp at h4 g4
      subst h4 g4
      refine kat_lt h1 h3 g1 g3 ?_
      show KatLex _ _ _ _ _ _ ((_, _) :: _) _ _
      refine kat_cons (wpAny_eqBool_int ?_)
      rw [show (m == n) = false by simpa using hne]
      refine kat_no ?_
      exact oneLt_int h
theorem HeadsAt.but {h h' : Heap} {a : Addr} {xs : Array Value} {n : Nat} (ho : h.get? a = some (seqObj "list" xs n)) (k : ∀ b o, b ≠ a → h.get? b = some o → h'.get? b = some o) : ∀ {vs : List Value} {ns : List Int}, HeadsAt h vs ns → HeadsAt h' vs ns
  | [], [], _ => trivial
  | v :: vs, m :: ns, x => by
    obtain ⟨⟨b, o, ys, q, t, e1, e2, e3, e4⟩, r⟩ := x
    refine ⟨⟨b, o, ys, q, t, e1, k _ _ ?_ e2, e3, e4⟩, HeadsAt.but ho k r⟩
    rintro rfl
    rw [ho] at e2; cases e2; exact absurd (Value.type.inj e3) (by decide)
  | [], _ :: _, x => x.elim
  | _ :: _, [], x => x.elim
theorem HeadsAt.keep {h h' : Heap} (k : ∀ b o, h.get? b = some o → h'.get? b = some o) : ∀ {vs : List Value} {ns : List Int}, HeadsAt h vs ns → HeadsAt h' vs ns
  | [], [], _ => trivial
  | v :: vs, m :: ns, x => ⟨x.1.keep k, x.2.keep k⟩
  | [], _ :: _, x => x.elim
  | _ :: _, [], x => x.elim
theorem kas2 : ∃ k, kas_sort 2 = .ask 1 0 k ∧ k false = .ret #[0, 1] := ⟨_, by with_unfolding_all rfl, by with_unfolding_all rfl⟩
theorem kas3 : ∃ k k2, kas_sort 3 = .ask 1 0 k ∧ k false = .ask 2 1 k2 ∧ k2 false = .ret #[0, 1, 2] := ⟨_, _, by with_unfolding_all rfl, by with_unfolding_all rfl, by with_unfolding_all rfl⟩
theorem asc_ask {C : Array Nat → Shared → Prop} : ∀ {vs : List Value} {ns : List Int}, HeadsAt s.heap vs ns → ns.Pairwise (· < ·) → 2 ≤ vs.length → vs.length ≤ 3 → C (List.range vs.length).toArray s →
    (kas_sort vs.length).kasWp (kas_ask prog w A (tuples' true) vs) C s
  | [], _, _, _, h2, _, _ => by simp at h2
  | [_], _, _, _, h2, _, _ => by simp at h2
  | [x, y], [m, n], hh, hp, _, _, hc => by
    obtain ⟨t1, t2, _⟩ := hh
    have hmn : m < n := by simpa using hp
    obtain ⟨k, e1, e2⟩ := kas2
    rw [show [x, y].length = 2 from rfl, e1]
    show wpAny _ _ (keyLt' _ y x) (fun b s' => (k b).kasWp _ C s') _ _
    refine lt_heads t2 t1 (by lia) ?_
    rw [show decide (n < m) = false by simpa using Int.le_of_lt hmn, e2]
    exact hc
  | [x, y, z], [m, n, k], hh, hp, _, _, hc => by
    obtain ⟨t1, t2, t3, _⟩ := hh
    have hmn : m < n ∧ n < k := by simp at hp; lia
    obtain ⟨f, f2, e1, e2, e3⟩ := kas3
    rw [show [x, y, z].length = 3 from rfl, e1]
    show wpAny _ _ (keyLt' _ y x) (fun b s' => (f b).kasWp _ C s') _ _
    refine lt_heads t2 t1 (by lia) ?_
    rw [show decide (n < m) = false by simpa using Int.le_of_lt hmn.1, e2]
    show wpAny _ _ (keyLt' _ z y) (fun b s' => (f2 b).kasWp _ C s') _ _
    refine lt_heads t3 t2 (by lia) ?_
    rw [show decide (k < n) = false by simpa using Int.le_of_lt hmn.2, e3]
    exact hc
  | _ :: _ :: _ :: _ :: _, _, _, _, _, h3, _ => by simp at h3
  | [_, _], [], hh, _, _, _, _ => hh.elim
  | [_, _], [_], hh, _, _, _, _ => hh.2.elim
  | [_, _], _ :: _ :: _ :: _, hh, _, _, _, _ => hh.2.2.elim
  | [_, _, _], [], hh, _, _, _, _ => hh.elim
  | [_, _, _], [_], hh, _, _, _, _ => hh.2.elim
  | [_, _, _], [_, _], hh, _, _, _, _ => hh.2.2.elim
  | [_, _, _], _ :: _ :: _ :: _ :: _, hh, _, _, _, _ => hh.2.2.2.elim
theorem sort_asc {a : Addr} {vs : List Value} {ns : List Int} {n : Nat} {P : PySem.Fin → Shared → Prop} (ho : s.heap.get? a = some (seqObj "list" vs.toArray n)) (hh : HeadsAt s.heap vs ns) (hp : ns.Pairwise (· < ·)) (h3 : vs.length ≤ 3)
    (h : P (.done (.ret .none)) { s with heap := sortedHeap s.heap a vs vs.toArray }) : wpAny (model prog w) A (Builtin.«list.sort» ⟨[.ref a], []⟩) P E s := by
  rw [list_sort_plain]
  have hlt : a < s.heap.objs.size := Heap.lt_size ho
  refine wpAny_bind (listItems_at ho rfl ?_)
  refine wpAny_bind (listUpdate_at ho rfl ?_ (by rw [List.size_toArray, sizeLine_eq]; lia) (Nat.zero_le _))
  obtain ⟨e1, ho1⟩ : ∃ e1, (s.heap.update a (Obj.mapSeq fun _ => (#[] : Array Value))).get? a = some (seqObj "list" #[] e1) := ⟨_, get?_update_seq ho fun _ => #[]⟩
  refine wpAny_bind (seqEpoch_at ho1 rfl ?_)
  refine wpAny_bind (wpAny_newTuple ?_ (by show vs.length ≤ _; rw [sizeLine_eq]; lia))
  refine wpAny_bind (wpAny_newList ?_ (Nat.zero_le _))
  refine wpAny_holding ?_
  show wpAny (model prog w) A _ P E { s with heap := ((s.heap.update a (Obj.mapSeq fun _ => (#[] : Array Value))).push (seqObj "tuple" vs.toArray 0)).push (seqObj "list" #[] 0) }
  dsimp only
  have ho6 : (((s.heap.update a (Obj.mapSeq fun _ => #[])).push (seqObj "tuple" vs.toArray 0)).push (seqObj "list" #[] 0)).get? a = some (seqObj "list" #[] e1) := by
    rw [Heap.get?_push_ne _ _ _ (by rw [size_push', Heap.size_update]; exact Nat.ne_of_lt (Nat.lt_succ_of_lt hlt)), Heap.get?_push_ne _ _ _ (by rw [Heap.size_update]; exact Nat.ne_of_lt hlt)]
    exact ho1
  have hh' : HeadsAt (((s.heap.update a (Obj.mapSeq fun _ => #[])).push (seqObj "tuple" vs.toArray 0)).push (seqObj "list" #[] 0)) vs ns := hh.but ho fun b o hb e =>
    Heap.get?_push_of_some _ (Heap.get?_push_of_some _ (by rw [Heap.get?_update_ne _ _ _ _ hb]; exact e))
  have tail : ∀ st' : SortSt, (arrOf st').map (·.2) = vs.toArray → failedOf st' = none → wpAny (model prog w) A (do
      let sorted := (arrOf st').map (·.2)
      let touched := (← seqEpoch a) != e1
      Builtin.List.listUpdate (.ref a) fun _ => sorted
      if let some e := failedOf st' then rule "list.sort.comparison-raised"; throw e
      if touched then rule "list.sort.modified"; raiseError "ValueError" "list modified during sort"
      ret .none) P E { s with heap := ((s.heap.update a (Obj.mapSeq fun _ => (#[] : Array Value))).push (seqObj "tuple" vs.toArray 0)).push (seqObj "list" #[] 0) } := by
    intro st' q1 q2
    dsimp only
    rw [q1, q2]
    refine wpAny_bind (seqEpoch_at ho6 rfl ?_)
    refine wpAny_bind (listUpdate_at ho6 rfl ?_ (hsz2 := by rw [List.size_toArray, sizeLine_eq]; lia))
    simp only [bne_self_eq_false, Bool.false_eq_true, if_false]
    exact wpAny_pure h
  by_cases h2 : vs.toArray.size < 2
  · rw [if_pos h2, if_pos h2]
    refine wpAny_bind (wpAny_pure ?_)
    rw [StateT.run_pure]
    refine wpAny_bind (wpAny_pure ?_)
    refine tail (SortSt.mk' general' (vs.toArray.zip vs.toArray) #[] 7 none) ?_ rfl
    show (vs.toArray.zip vs.toArray).map (·.2) = vs.toArray
    apply Array.toList_inj.mp
    simp [List.map_snd_zip]
  · rw [if_neg h2, if_neg h2]
    have h2' : 2 ≤ vs.length := by simpa using h2
    obtain ⟨fs, a1, a2, a3⟩ := hh'.tups
    refine wpAny_bind (kat_kind (T := .type "int") a1 (by rw [a2, ← hh.len]; lia) (fun v hv => by obtain ⟨n, t, rfl⟩ := a3 v hv; exact Looks.of_pure rfl) rfl ?_)
    refine wpAny_bind (wpAny_mono (kat_run (Q := fun st' s' => s' = { s with heap := ((s.heap.update a (Obj.mapSeq fun _ => (#[] : Array Value))).push (seqObj "tuple" vs.toArray 0)).push (seqObj "list" #[] 0) } ∧ (arrOf st').map (·.2) = vs.toArray ∧ failedOf st' = none)
      (G := fun p s' => s' = { s with heap := ((s.heap.update a (Obj.mapSeq fun _ => (#[] : Array Value))).push (seqObj "tuple" vs.toArray 0)).push (seqObj "list" #[] 0) } ∧ p = (List.range vs.length).toArray)
      rfl h2' (by lia) (fun p st' s' q1 q2 q3 q4 => ⟨q4.1, ?_, q3⟩) ?_) ?_ fun _ _ e => e)
    · obtain ⟨_, rfl⟩ := q4
      rw [kat_snds rfl q2]
      apply Array.toList_inj.mp
      apply List.ext_getElem?
      intro i
      by_cases hi : i < vs.length
      · simp [hi]
      · simp [Nat.le_of_not_lt hi]
    · exact asc_ask hh' hp h2' h3 ⟨rfl, rfl⟩
    · rintro ⟨⟨⟩, st'⟩ s' ⟨rfl, q1, q2⟩
      exact tail st' q1 q2
theorem sorted_asc {l : Addr} {vs : List Value} {ns : List Int} {Q : Value → Shared → Prop} (hl : s.heap.IsList l vs.toArray) (hh : HeadsAt s.heap vs ns) (hp : ns.Pairwise (· < ·)) (h3 : vs.length ≤ 3)
    (h : Q (.ref (s.heap.objs.size + 1)) { s with heap := sortedAll s.heap vs vs.toArray }) : wpAny (model prog w) A (call (.builtin "sorted") [.ref l]) Q E s := by
  refine Calls.call_function_entry kind_sorted plain_sorted entry_sorted (args_sorted1 _) ?_
  unfold Builtin.«sorted»
  refine wpAny_bind (m := checkCount "sorted" 1 1 _) (wpAny_pure ?_)
  refine wpAny_bind (collect_list hl ?_ (by rw [sizeLine_eq]; lia))
  refine wpAny_bind (wpAny_newList ?_ (by rw [sizeLine_eq]; lia))
  have hsz : ((s.heap.push (seqObj "list" #[] 0)).update s.heap.objs.size (Obj.mapSeq (· ++ vs.toArray))).objs.size = s.heap.objs.size + 1 := by
    rw [Heap.size_update, size_push']
  have hoL : (((s.heap.push (seqObj "list" #[] 0)).update s.heap.objs.size (Obj.mapSeq (· ++ vs.toArray))).push (seqObj "list" vs.toArray 0)).get? (s.heap.objs.size + 1) = some (seqObj "list" vs.toArray 0) := by
    rw [← hsz]; exact Heap.get?_push_size _ rfl
  have keep : ∀ b o, s.heap.get? b = some o → (((s.heap.push (seqObj "list" #[] 0)).update s.heap.objs.size (Obj.mapSeq (· ++ vs.toArray))).push (seqObj "list" vs.toArray 0)).get? b = some o := fun b o q => by
    have hlt : b < s.heap.objs.size := Heap.lt_size q
    rw [Heap.get?_push_ne _ _ _ (by rw [hsz]; exact Nat.ne_of_lt (Nat.lt_succ_of_lt hlt)), Heap.get?_update_ne _ _ _ _ (Nat.ne_of_lt hlt), Heap.get?_push_ne _ _ _ (Nat.ne_of_lt hlt)]
    exact q
  show wpAny _ _ _ _ _ { s with heap := ((s.heap.push (seqObj "list" #[] 0)).update s.heap.objs.size (Obj.mapSeq (· ++ vs.toArray))).push (seqObj "list" vs.toArray 0) }
  rw [hsz]
  refine wpAny_bind (wpAny_holding (wpAny_call_entry slot_list_sort ⟨_, hoL, rfl⟩ entry_list_sort (sort_asc hoL ?_ hp h3 ⟨_, rfl, ?_⟩) (args_list_sort _)))
  · exact hh.keep keep
  · exact wpAny_pure ⟨_, rfl, h⟩
end

/-- a text by its signs -/
noncomputable def sOf (l : List Nat) : Str := ⟨l.toArray⟩
section
variable {prog : Program} {w : World} {A : Around} {E : Value → Shared → Prop} {s : Shared}
theorem tup_lt_tree {a b : Addr} {m n : Int} {x y : List Nat} {t1 t2 u1 u2 : Tok} {na nb : Nat} {Pq : PySem.Fin → Shared → Prop}
    (ha : s.heap.get? a = some { cls := .type "tuple", data := .seq #[.int m t1, .str (sOf x) t2] na }) (hb : s.heap.get? b = some { cls := .type "tuple", data := .seq #[.int n u1, .str (sOf y) u2] nb })
    (h : Pq (.done (.ret (.bool (if m = n then decide (x < y) else decide (m < n))))) s) :
    wpAny (model prog w) A (Builtin.«tuple.__lt__» ⟨[.ref a, .ref b], []⟩) Pq E s := by
  show wpAny _ _ (isInstance (.ref b) (.type "tuple") >>= _) _ _ s
  refine wpAny_bind (wpAny_isInstance ⟨_, hb, rfl⟩ isSubtype_tuple_tuple ?_)
  simp only [Bool.not_true, Bool.false_eq_true, if_false]
  refine wpAny_bind (wpAny_tupleItemsOf ha rfl ?_)
  refine wpAny_bind (wpAny_tupleItemsOf hb rfl ?_)
  refine wpAny_bind ?_
  show wpAny _ _ (forIn [(Value.int m t1, Value.int n u1), (Value.str (sOf x) t2, Value.str (sOf y) u2)] _ _) _ _ s
  rw [List.forIn_cons]
  refine wpAny_bind (wpAny_bind (wpAny_eqBool_int ?_))
  by_cases hmn : m = n
  · subst hmn
    rw [show (m == m) = true by simp]
    simp only [Bool.not_true, Bool.false_eq_true, if_false]
    refine wpAny_pure ?_
    dsimp only
    rw [List.forIn_cons]
    refine wpAny_bind (wpAny_bind (wpAny_eqBool_str ?_))
    rw [if_pos rfl] at h
    by_cases hxy : x = y
    · subst hxy
      rw [decide_eq_true rfl]
      simp only [Bool.not_true, Bool.false_eq_true, if_false]
      refine wpAny_pure ?_
      dsimp only
      rw [List.forIn_nil]
      refine wpAny_pure (wpAny_pure ?_)
      rw [show decide (x < x) = false by simp] at h
      exact h
    · have hne : ¬ sOf x = sOf y := fun e => hxy (by simpa [sOf] using e)
      rw [decide_eq_false hne]
      simp only [Bool.not_false, if_true]
      refine wpAny_bind (wpAny_rule (wpAny_bind (P.lt_str ?_)))
      refine wpAny_bind (wpAny_pure (wpAny_pure (wpAny_pure ?_)))
      exact wpAny_pure h
  · rw [show (m == n) = false by simpa using hmn]
    simp only [Bool.not_false, if_true]
    rw [if_neg hmn] at h
    refine wpAny_bind (wpAny_rule (wpAny_bind (P.lt_int ?_)))
    refine wpAny_bind (wpAny_pure (wpAny_pure (wpAny_pure ?_)))
    exact wpAny_pure h
end
theorem rept_foldl (k : Nat) (l acc : List Nat) : (List.replicate k l.toArray).foldl (· ++ ·) acc.toArray = (acc ++ (List.replicate k l).flatten).toArray := by
  induction k generalizing acc with
  | zero => simp
  | succ k ih =>
    rw [List.replicate_succ, List.foldl_cons, List.replicate_succ, List.flatten_cons, ← List.append_assoc, ← ih (acc ++ l)]
    congr 1
    simp
noncomputable def rept (n : Int) (l : List Nat) : List Nat := (List.replicate n.toNat l).flatten
theorem mul_sOf (l : List Nat) (n : Int) : Txt.mul (sOf l) n = sOf (rept n l) := by
  unfold Txt.mul rept
  by_cases h1 : n < 1
  · rw [if_pos h1, show n.toNat = 0 by lia]; rfl
  · rw [if_neg h1]
    by_cases h2 : (n == 1 || (sOf l).length == 0) = true
    · rw [if_pos h2]
      simp only [Bool.or_eq_true, beq_iff_eq] at h2
      rcases h2 with h2 | h2
      · subst h2; simp [sOf]
      · have : l = [] := by
          have : (sOf l).length = l.length := by simp [sOf, Str.length]
          rw [this] at h2; exact List.length_eq_zero_iff.mp h2
        subst this; simp [sOf]
    · rw [if_neg h2]
      have := rept_foldl n.toNat l []
      simp only [List.nil_append] at this
      unfold sOf
      rw [← this]
theorem glued_sOf : ∀ ws : List (List Nat), Builtin.Str.glued Str.empty (ws.map sOf) = sOf ws.flatten := by
  intro ws
  cases ws with
  | nil => rfl
  | cons x ws =>
    unfold Builtin.Str.glued
    simp only [List.map_cons, List.drop_succ_cons, List.drop_zero, List.headD_cons, List.flatten_cons]
    have : ∀ (ws : List (List Nat)) (acc : List Nat), (ws.map sOf).foldl (fun acc p => acc ++ Str.empty.cps ++ p.cps) acc.toArray = (acc ++ ws.flatten).toArray := by
      intro ws
      induction ws with
      | nil => simp
      | cons y ws ih =>
        intro acc
        rw [List.map_cons, List.foldl_cons, List.flatten_cons, ← List.append_assoc, ← ih (acc ++ y)]
        congr 1
        simp [sOf, Str.empty]
    unfold sOf at *
    rw [this]
theorem Reps.of {H : HF} : ∀ {vs : List V} {xs : List Value}, xs.length = vs.length → (∀ (j : Nat) x v, xs[j]? = some x → vs[j]? = some v → Rep H x v) → Reps H xs vs := fun {vs} => by
  induction vs with
  | nil => intro xs h _; rw [List.length_eq_zero_iff.mp h]; exact .nil
  | cons v vs ih =>
    intro xs h hp
    cases xs with
    | nil => cases h
    | cons x xs => exact .cons (hp 0 x v rfl rfl) (ih (Nat.succ.inj h) fun j y u h1 h2 => hp (j + 1) y u h1 h2)
section
variable {cx : Cx} {g : Gl} {d : Nat} {ns : Names} {b : Bool} {ρ : Env'} {H : HF} {vr : Str → Option Value} {s : Shared} {Q : V → Prop}
theorem own_extend_rng (c : Here cx g d ns b) {m n : Int} {P : V → List V → Prop} (hs : Builtin.Range.small m n 1 = true) (hn : (n - m).toNat ≤ 1000) (h : P .none ((List.range (n - m).toNat).map fun i : Nat => .int (m + i))) : OwnOp cx "list.extend" [] [.rng m n] P := fun H s a its nn xs K ho hr hx hH k => by
  refine hr.onNil (Ps := fun its => s.heap.get? a = some (lstO its nn) → _) (fun ho => ?_) ho
  refine hx.on1 fun x rx => ?_
  refine rx.onRng fun r t u v hR => ?_
  refine call_meets (S := fun A' R s' => s' = s ∧ A'.handled = none ∧ ∀ h' tk acc' c', (∀ b o, b ≠ a → s.heap.get? b = some o → h'.get? b = some o) → h'.get? a = some { cls := .type "list", dict := none, data := .seq acc' c', slots := #[] } →
    ItemsOf (fun i v => ∃ t, v = .int (m + i * 1) t) acc' (n - m).toNat → R (.ok (.ret .none)) { s with heap := h', toks := tk }) PySem.F.slot_list_extend ⟨_, ho, rfl⟩ PySem.F.entry_list_extend (PySem.F.args_list_extend_2 _ _) ?_ ⟨rfl, c.ok.handled, fun h' tk acc' c' hk hS hI => ?_⟩
  · rintro prog w A' R s' ⟨rfl, hh, hq⟩
    exact wpAny_extend_range hh (hH _ _ hR) hs (rangeSize_nat _ _) (Nat.le_trans hn (by decide)) a .none nn ho hq
  · refine k _ h' tk _ _ acc'.toList c' hk (by simpa using hS) (Reps.of (by simp [hI.1]) fun j x v h1 h2 => ?_) .none h
    obtain ⟨q, _⟩ := List.getElem?_eq_some_iff.mp h2
    have hj : j < (n - m).toNat := by simpa using q
    obtain ⟨t, rfl⟩ := hI.2 j x (by rw [← Array.getElem?_toList]; exact h1)
    simp [hj] at h2
    subst h2
    rw [Int.mul_one]
    exact .int
/-- an object that was made meanwhile is never changed again -/
theorem Inv.born {h' : Heap} {t : Nat} {a : Addr} {o : Obj} (i : Inv cx H ρ vr s) (hk : ∀ b o, s.heap.get? b = some o → h'.get? b = some o) (hn : s.heap.get? a = none) (ho : h'.get? a = some o) {P : Prop}
    (k : ∀ H', H.le H' → Inv cx H' ρ vr { s with heap := h', toks := t } → H' a = some o → P) : P :=
  have f := Off.fresh i hn
  k _ (le_put f.H) ((i.ext hk).freeze ho f) put_self
noncomputable def prs (l : List (Int × Int)) : List V := l.map fun p => .tup [.int p.1, .int p.2]
theorem heads_of {h : Heap} (k : ∀ a o, H a = some o → h.get? a = some o) : ∀ {l : List (Int × Int)} {its : List Value}, Reps H its (prs l) → HeadsAt h its (l.map (·.1)) := fun {l} => by
  induction l with
  | nil => exact fun r => r.onNil trivial
  | cons p l ih =>
    intro its r
    obtain ⟨x, ys, rfl, r1, r2⟩ := r
    refine ⟨?_, ih r2⟩
    have r1 : Rep H x (.tup [.int p.1, .int p.2]) := r1
    refine r1.onTup fun a its n h1 t => ?_
    refine t.on2 (Ps := fun its => H a = some (tupO its n) → _) (fun y z t1 _ h1 => ?_) h1
    refine t1.onInt (P := fun y => H a = some (tupO [y, z] n) → _) (fun tk h1 => ?_) h1
    exact ⟨_, _, _, _, _, rfl, k _ _ h1, rfl, rfl, rfl⟩
theorem b_sorted_prs {l : List (Int × Int)} (hp : (l.map (·.1)).Pairwise (· < ·)) (hl : l.length ≤ 3) (h : Q (.lst (prs l))) : Op cx [.lst (prs l)] (fun xs => call (.builtin "sorted") xs) Q := fun H ρ vr s xs K i r k => r.on1 fun x r => by
  refine r.onLst fun a its n h1 t => ?_
  refine sorted_asc ⟨_, i.keepH _ _ h1, rfl, n, rfl⟩ (heads_of i.keepH t) hp (by rw [t.length, prs, List.length_map]; exact hl) ?_
  obtain ⟨e, he⟩ := sortedAll_at s.heap its its.toArray
  exact i.born (t := s.toks) (fun b o q => sortedAll_old q) (Heap.get?_none_of_le (Nat.le_succ _)) he fun H' l' i' e' => k _ _ _ H' l' i' (.lst e' (t.mono l')) h
theorem b_tuple_lst {vs : List V} (hl : vs.length ≤ 100000) (h : Q (.tup vs)) : Op cx [.lst vs] (fun xs => call (.type "tuple") xs) Q := fun H ρ vr s xs K i r k => r.on1 fun x r => r.onLst fun a its n h1 t =>
  call_tuple_list (items := its.toArray) ⟨_, i.keepH _ _ h1, rfl, n, rfl⟩ (fun h' hk => (i.ext (t := s.toks) hk).alloc (o := tupO its 0) rfl fun H' l' i' e => k _ _ _ H' l' i' (.tup e (t.mono l')) h) (t.sz hl)
theorem c_lt_pair (c : Here cx g d ns b) {m n : Int} {x y : List Nat} {Q : Bool → Prop} (h : Q (if m = n then decide (x < y) else decide (m < n))) : Cmp cx .Lt (.tup [.int m, .str (sOf x)]) (.tup [.int n, .str (sOf y)]) Q := fun H ρ vr s X Y K i rx ry k => by
  refine rx.onTup fun a its n1 h1 t => ?_
  refine ry.onTup fun a2 its2 n2 h2 t2 => ?_
  refine t.on2 (Ps := fun its => H a = some (tupO its n1) → _) (fun p q tp tq h1 => ?_) h1
  refine t2.on2 (Ps := fun its => H a2 = some (tupO its n2) → _) (fun p2 q2 tp2 tq2 h2 => ?_) h2
  refine tp.onInt (P := fun p => H a = some (tupO [p, q] n1) → _) (fun k1 h1 => ?_) h1
  refine tq.onStr (P := fun q => H a = some (tupO [_, q] n1) → _) (fun k2 h1 => ?_) h1
  refine tp2.onInt (P := fun p => H a2 = some (tupO [p, q2] n2) → _) (fun k3 h2 => ?_) h2
  refine tq2.onStr (P := fun q => H a2 = some (tupO [_, q] n2) → _) (fun k4 h2 => ?_) h2
  exact wpAny_richCompare_same_room (op := .Lt) ⟨_, i.keepH _ _ h1, rfl⟩ ⟨_, i.keepH _ _ h2, rfl⟩ F.slot_tuple_lt
    (wpAny_call_entry F.slot_tuple_lt ⟨_, i.keepH _ _ h1, rfl⟩ F.entry_tuple_lt (tup_lt_tree (i.keepH _ _ h1) (i.keepH _ _ h2) ⟨_, rfl, (fun e => nomatch e), k _ _ H .rfl i h⟩) (F.args_tuple_lt_2 _ _)) (Nat.lt_of_le_of_lt (Nat.le_add_right _ _) (units_64 c))
theorem o_mul_str {l : List Nat} {n : Int} (hl : l.length ≤ 4000) (h0 : 0 ≤ n) (hn : n ≤ 4000) (h : Q (.str (sOf (rept n l)))) : Op2 cx .Mult (.str (sOf l)) (.int n) Q := fun H ρ vr s X Y K i rx ry k => rx.onStr fun t => ry.onInt fun u =>
  SB.mul (mulOk_of 4000 4000 (by simpa [sOf, Str.length] using hl) (by lia) (by lia) (by decide) (by decide)) fun t' k' => by
    rw [mul_sOf]
    exact k _ _ _ H .rfl (i.toks _) .str h
theorem strs_values : ∀ {ws : List (List Nat)} {its : List Value}, Reps H its (ws.map fun l => V.str (sOf l)) → ∃ l : List (Str × Tok), its = strValues l ∧ l.map (·.1) = ws.map sOf := fun {ws} => by
  induction ws with
  | nil => exact fun r => r.onNil ⟨[], rfl, rfl⟩
  | cons w ws ih =>
    intro its r
    obtain ⟨x, ys, rfl, ⟨t, rfl⟩, r2⟩ := r
    obtain ⟨l, rfl, e2⟩ := ih r2
    exact ⟨(sOf w, t) :: l, rfl, by rw [List.map_cons, List.map_cons, e2]⟩
noncomputable abbrev wsV (ws : List (List Nat)) : List V := ws.map fun l => V.str (sOf l)
inductive JoinP (Q : List Nat → Prop) (us : List V) : Prop
  | mk (ws : List (List Nat)) (e : us = [.lst (wsV ws)]) (h1 : ws.length ≤ 1000) (h2 : ∀ l ∈ ws, l.length ≤ 4000) (q : Q ws.flatten)
theorem e_join (c : Here cx g d ns b) {apos pos p0 : Pos} {pl : Sem Bool} {k0 : Nat} {args : List Expr} {Q : V → Env' → Prop} (h : Evs cx pos args ρ fun us ρ₁ => JoinP (fun w => Q (.str (sOf w)) ρ₁) us) (hplain : (backTo pos (starEach args cx.env)).any (·.1) = false := by rfl)
    (he : eval (.Call (.Attribute (.Constant (.str "") k0 p0) "join" apos) args [] pos) cx.env = (do
      let ov ← eval (.Constant (.str "") k0 p0) cx.env
      standAt apos.atName
      let (f, first) ← holding [ov] (getMethod ov "join" pl)
      callWith pos f first (backTo pos (starEach args cx.env)) []) := by rfl) :
    Ev cx (.Call (.Attribute (.Constant (.str "") k0 p0) "join" apos) args [] pos) ρ Q := fun H vr s K i k => by
  refine MethodCall_ (pl := pl) (Calls.Constant_str (GM.join (callWith_built rfl h (i.toks _) (fun xs s' us H' ρ' l' i' r q => ?_) hplain))) he
  obtain ⟨ws, rfl, q1, q2, q3⟩ := q
  refine r.on1 fun x rx => ?_
  refine rx.onLst fun a its n h1 t => ?_
  obtain ⟨l, e1, e2⟩ := strs_values t
  subst e1
  refine SC.join (texts := ws.map sOf) ⟨_, i'.keepH _ _ h1, rfl, n, rfl⟩ e2 ?_ fun t' k' => ?_
  · unfold JoinOk
    rw [Bool.not_eq_true']
    refine StrLaws.joinFits (B := 4000) (fun y hy => ?_) ?_
    · obtain ⟨l, hl, rfl⟩ := List.mem_map.mp hy
      simpa [sOf, Str.length] using q2 l hl
    · have : (Str.length "") = 0 := rfl
      rw [this]; simp; lia
  · rw [show Txt.join "" (ws.map sOf) = sOf ws.flatten from glued_sOf ws]
    exact k _ _ _ H' ρ' l' (i'.toks _) .str q3
end
end Mine

end
section
-- D17
open PySem PySem.W PySem.Calls PyProof.Rows
set_option Elab.async false
set_option linter.all false
set_option maxRecDepth 100000
set_option maxHeartbeats 4000000
namespace Mine
theorem orStandIn_led (t : SetTable) (n : Nat) : (t.orStandIn n).led = t.led := by
  unfold SetTable.orStandIn SetTable.standIn; split <;> rfl
theorem layNew_led (t : SetTable) (es : Array (Int × Value)) (h : Int) (x : Value) : (layNew t es h x).2.1.led = t.led := by
  unfold layNew
  split
  · dsimp only; rw [orStandIn_led]; rfl
  · rfl
theorem relayAll_led (t : SetTable) (es : Array (Int × Value)) (n : Nat) (hp : t.plain = false) : (relayAll t es n).2.1.led = t.led ∧ (relayAll t es n).2.1.plain = false := by
  unfold relayAll
  split
  · rename_i t' order e
    dsimp only
    split
    · unfold SetTable.relaid SetTable.laid at e
      cases q : SetTable.layClean (SetTable.sizeAbove n - 1) (Array.map (fun x => x.fst) es) with
      | none => rw [q] at e; cases e
      | some owner => rw [q] at e; cases e; exact ⟨rfl, hp⟩
    · exact ⟨rfl, rfl⟩
  · exact ⟨rfl, rfl⟩
/-- a set of these texts, and of no others -/
noncomputable def SetAt (w : World) (h : Heap) (a : Addr) (led : Bool) (σ : List Str) : Prop :=
  ∃ es ep t, h.get? a = some { cls := .type "set", dict := none, data := .set es ep t } ∧ (∀ e ∈ es.toList, ∃ x u, e = (hashStr w x, Value.str x u)) ∧ (es.toList.map fun e => strOf e.2).Perm σ ∧ t.fits es.size = true ∧ t.led = led ∧ (es.size = 0 ∨ t.plain = false)
noncomputable def addS (σ : List Str) (k : Str) : List Str := if k ∈ σ then σ else σ ++ [k]
theorem addS_len (σ : List Str) (k : Str) : (addS σ k).length ≤ σ.length + 1 := by unfold addS; split <;> simp
section
variable {prog : Program} {w : World} {A : Around} {E : Value → Shared → Prop} {s : Shared}
theorem elems_str {es : List (Int × Value)} (h : ∀ e ∈ es, ∃ x u, e = (hashStr w x, Value.str x u)) : ElemsOf (strKind prog w) es := by
  intro e he
  obtain ⟨x, u, rfl⟩ := h e he
  exact ⟨⟨x, strKind_is _ _ _ _, rfl⟩, rfl⟩
theorem find_str {k : Str} : ∀ {es : List (Int × Value)}, (∀ e ∈ es, ∃ x u, e = (hashStr w x, Value.str x u)) → ((es.findIdx? (fun e => (strKind prog w).is k e.2)).isSome = true ↔ k ∈ es.map fun e => strOf e.2)
  | [], _ => by simp
  | e :: es, h => by
    obtain ⟨x, u, rfl⟩ := h _ (.head _)
    have ih := find_str (k := k) (es := es) fun e he => h e (.tail _ he)
    rw [List.findIdx?_cons]
    have hx : (strKind prog w).is k (Value.str x u) = (x == k) := rfl
    simp only [hx]
    by_cases hk : x = k
    · subst hk; simp [strOf]
    · have : (x == k) = false := by simpa using hk
      rw [this]
      simp only [Bool.false_eq_true, if_false, Option.isSome_map, List.map_cons, List.mem_cons, strOf]
      rw [ih]
      constructor
      · exact fun h => .inr h
      · rintro (h | h)
        · exact absurd h.symm hk
        · exact h
theorem store_set {a : Addr} {es es' : Array (Int × Value)} {ep : Nat} {t t' : SetTable} {Q : Unit → Shared → Prop} (ho : s.heap.get? a = some { cls := .type "set", dict := none, data := .set es ep t }) (hz : es'.size ≤ sizeLine)
    (h : ∀ h', Heap.SameBut a s.heap h' → h'.get? a = some { cls := .type "set", dict := none, data := .set es' (ep + 1) t' } → Q () { s with heap := h' }) : wpAny (model prog w) A (storeSet a es' t') Q E s := by
  refine wpAny_storeSet_of ho rfl (h _ (Heap.SameBut.update ..) ?_) hz
  have := Heap.get?_update_self (Obj.putSet es' t') ho (by rfl)
  exact this
theorem set_add {a : Addr} {led : Bool} {σ : List Str} {k : Str} {u : Tok} {Q : Bool → Shared → Prop} (hS : SetAt w s.heap a led σ) (hb : σ.length + 1 < scanBound)
    (h : ∀ h' b, Heap.SameBut a s.heap h' → SetAt w h' a led (addS σ k) → Q b { s with heap := h', toks := s.toks + 1 }) : wpAny (model prog w) A (setAdd a (.str k u)) Q E s := by
  obtain ⟨es, ep, t, ho, hel, hperm, hf, hled, hpl⟩ := hS
  have hel' := elems_str (prog := prog) hel
  have hsz : es.size = σ.length := by rw [← hperm.length_eq, List.length_map, Array.length_toList]
  unfold setAdd
  refine wpAny_holding ?_
  refine wpAny_bind (wpAny_pyHash_str ?_)
  unfold setAddHashed setAddHashedIn
  refine wpAny_holding (wpAny_bind (wpAny_setState_of (s := { s with toks := s.toks + 1 }) ho rfl hf ?_))
  dsimp only
  rw [byScan_of (knd := strKind prog w) rfl (by lia) hel']
  simp only [if_true]
  unfold setAddByScan
  refine wpAny_bind (wpAny_bind (wpAny_rule (wpAny_bind ?_)))
  refine wpAny_setScan_of (knd := strKind prog w) (s := { s with toks := s.toks + 1 }) (k := k) (strKind_is _ _ _ _) ho rfl hf hel' ?_
  have hfind := find_str (prog := prog) (w := w) (k := k) hel
  cases hr : es.toList.findIdx? (fun e => (strKind prog w).is k e.2) with
  | some j =>
    dsimp only
    rw [hr] at hfind
    have hk : k ∈ σ := hperm.mem_iff.mp (hfind.mp rfl)
    refine wpAny_pure (wpAny_pure ?_)
    refine h s.heap false (Heap.SameBut.refl a s.heap) ?_
    rw [addS, if_pos hk]
    exact ⟨es, ep, t, ho, hel, hperm, hf, hled, hpl⟩
  | none =>
    dsimp only
    rw [hr] at hfind
    have hk : k ∉ σ := fun q => by have := hfind.mpr (hperm.mem_iff.mpr q); cases this
    have hp1 := layNew_perm t es (hashStr w k) (.str k u)
    have hf1 := layNew_fits t es (hashStr w k) (.str k u)
    have hl1 := layNew_led t es (hashStr w k) (.str k u)
    show wpAny _ _ (match layNew t es (hashStr w k) (.str k u) with | (es, t, wasDummy, gave) => _) _ _ _
    generalize layNew t es (hashStr w k) (.str k u) = L at hp1 hf1 hl1 ⊢
    obtain ⟨es1, t1, wd, gave⟩ := L
    dsimp only at hp1 hf1 hl1 ⊢
    rw [Array.toList_push] at hp1
    have hgw : ∀ (b : Bool) {s₁ : Shared} {Q' : Unit → Shared → Prop}, Q' () s₁ → wpAny (model prog w) A (match b with | true => rule "set.scan.the-table-gave-way" | false => pure ()) Q' E s₁ :=
      fun b s₁ Q' hq => by cases b <;> first | exact wpAny_pure hq | exact wpAny_rule hq
    refine wpAny_bind (hgw gave ?_)
    have el1 : ∀ e ∈ es1.toList, ∃ x u, e = (hashStr w x, Value.str x u) := fun e he => by
      rcases List.mem_append.mp (hp1.mem_iff.mp he) with q | q
      · exact hel e q
      · rw [List.mem_singleton.mp q]; exact ⟨k, u, rfl⟩
    have perm1 : (es1.toList.map fun e => strOf e.2).Perm (σ ++ [k]) := by
      refine (hp1.map _).trans ?_
      rw [List.map_append]
      exact hperm.append_right _
    have sz1 : es1.size = σ.length + 1 := by rw [← Array.length_toList, hp1.length_eq, List.length_append, Array.length_toList, hsz]; rfl
    have fin : ∀ h' (es2 : Array (Int × Value)) t2 ep2, Heap.SameBut a s.heap h' → h'.get? a = some { cls := .type "set", dict := none, data := .set es2 ep2 t2 } → es2.toList.Perm es1.toList → t2.fits es2.size = true → t2.led = led → t2.plain = false →
        Q true { s with heap := h', toks := s.toks + 1 } := fun h' es2 t2 ep2 q1 q2 q3 q4 q5 q6 => by
      refine h h' true q1 ?_
      rw [addS, if_neg hk]
      exact ⟨es2, ep2, t2, q2, fun e he => el1 e (q3.mem_iff.mp he), (q3.map _).trans perm1, q4, q5, .inr q6⟩
    have body : ∀ t2 : SetTable, t2.fits es1.size = true → t2.led = led → t2.plain = false →
        wpAny (model prog w) A (do
          storeSet a es1 t2
          if (!wd && t2.tooFull) = true then do
              (match (relayAll t2 es1 (SetTable.grown es1.size)).2.2 with | true => rule "set.scan.the-table-gave-way" | false => pure ())
              storeSet a (relayAll t2 es1 (SetTable.grown es1.size)).1 (relayAll t2 es1 (SetTable.grown es1.size)).2.1
              pure (some true)
            else pure (some true)) (fun r s' => wpAny (model prog w) A (match r with | some added => pure added | none => setAddHashedIn a (.str k u) (hashStr w k) 99999) Q E s') E { s with toks := s.toks + 1 } := by
      intro t2 q1 q2 q3
      have hz : es1.size ≤ sizeLine := by rw [sz1, sizeLine_eq]; unfold scanBound at hb; lia
      refine wpAny_bind (store_set (s := { s with toks := s.toks + 1 }) ho hz fun h' s1 o1 => ?_)
      split
      · have hp2 := relayAll_perm t2 es1 (SetTable.grown es1.size)
        have hf2 := relayAll_fits t2 es1 (SetTable.grown es1.size)
        have hl2 := relayAll_led t2 es1 (SetTable.grown es1.size) q3
        refine wpAny_bind (hgw _ ?_)
        refine wpAny_bind (store_set (s := { s with heap := h', toks := s.toks + 1 }) o1 (by rw [← Array.length_toList, hp2.length_eq, Array.length_toList]; exact hz) fun h'' s2 o2 => ?_)
        refine wpAny_pure (wpAny_pure ?_)
        exact fin h'' _ _ _ (s1.trans s2) o2 hp2 hf2 (hl2.1.trans q2) hl2.2
      · refine wpAny_pure (wpAny_pure ?_)
        exact fin h' _ _ _ s1 o1 (List.Perm.refl _) q1 q2 q3
    cases hp : t1.plain with
    | true =>
      simp only [if_true]
      refine wpAny_bind (wpAny_of_eq (a := false) rfl ?_)
      simp only [Bool.false_eq_true, if_false]
      exact body { t1 with plain := false } (SetTable.fits_plain_off hf1) (hl1.trans hled) rfl
    | false =>
      simp only [Bool.false_eq_true, if_false]
      refine wpAny_bind (wpAny_pure ?_)
      simp only [if_true]
      exact body t1 hf1 (hl1.trans hled) hp
end
end Mine

end
section
-- D18
open PySem PySem.W PySem.Calls PyProof.Rows
set_option Elab.async false
set_option linter.all false
set_option maxRecDepth 100000
set_option maxHeartbeats 4000000
namespace Mine
/-- the texts met so far, each once -/
noncomputable def metS (val : Nat → Str) (i : Nat) : List Str := ((List.range i).map val).foldl addS []
theorem metS_succ (val : Nat → Str) (i : Nat) : metS val (i + 1) = addS (metS val i) (val i) := by
  unfold metS; rw [List.range_succ, List.map_append, List.foldl_append]; rfl
theorem metS_len (val : Nat → Str) : ∀ i, (metS val i).length ≤ i
  | 0 => Nat.le_refl _
  | i + 1 => by rw [metS_succ]; have := addS_len (metS val i) (val i); have := metS_len val i; lia
theorem metS_all (ss : List Str) : metS (fun i => ss.getD i "") ss.length = ss.foldl addS [] := by
  unfold metS
  congr 1
  apply List.ext_getElem?
  intro i
  by_cases h : i < ss.length
  · simp [h]
  · simp [Nat.le_of_not_lt h]
theorem SetAt.keep {w : World} {h h' : Heap} {a : Addr} {led : Bool} {σ : List Str} (x : SetAt w h a led σ) (k : ∀ o, h.get? a = some o → h'.get? a = some o) : SetAt w h' a led σ := by
  obtain ⟨es, ep, t, ho, r⟩ := x
  exact ⟨es, ep, t, k _ ho, r⟩
section
variable {prog : Program} {w : World} {A : Around} {E : Value → Shared → Prop} {s : Shared} {R : Result → Shared → Prop}
theorem set_loop {I : Addr} {fp : List Addr} {n : Nat} {P : Nat → Value → Prop} {St : Nat → Heap → Prop} (W : Walks prog w A.in1 I fp [I] n P St) (S : Addr) (led : Bool) (hS : S ∉ fp) (val : Nat → Str) (hv : ∀ i v, P i v → ∃ u, v = .str (val i) u) (hb : n + 1 < scanBound) :
    ∀ (k i : Nat) (s : Shared), n - i = k → i ≤ n → St i s.heap → SetAt w s.heap S led (metS val i) →
      (∀ h' tk, (∀ b o, b ≠ S → b ≠ I → s.heap.get? b = some o → h'.get? b = some o) → SetAt w h' S led (metS val n) → R (.ok (.ret .none)) { s with heap := h', toks := tk }) →
      codeAny (model prog w) A (.builtin "set.update.loop" ⟨[.ref S, .ref I], []⟩) R s := by
  have hSI : S ≠ I := fun e => hS (W.sub S (by simp [e]))
  have notw : ∀ b, b ≠ I → b ∉ [I] := fun b h q => h (List.mem_singleton.mp q)
  intro k
  induction k with
  | zero =>
    intro i s hk hi st hs hR
    have e : i = n := by lia
    subst e
    refine codeAny_builtin PyProof.Rows.F.entry_set_update_loop ?_
    rw [Around.under_plainId PyProof.Rows.F.plain_set_update_loop _]
    show wpAny _ A.in1 (pyNext (.ref I) >>= _) _ _ s
    refine wpAny_bind (W.done s _ _ st fun h' tk hk' => ?_)
    show wpAny _ A.in1 (ret Value.none) _ _ _
    exact wpAny_pure (hR h' tk (fun b o _ q e => hk' b o (notw b q) e) (hs.keep fun o e => hk' S o (notw S hSI) e))
  | succ k ih =>
    intro i s hk hi st hs hR
    refine codeAny_builtin PyProof.Rows.F.entry_set_update_loop ?_
    rw [Around.under_plainId PyProof.Rows.F.plain_set_update_loop _]
    show wpAny _ A.in1 (pyNext (.ref I) >>= _) _ _ s
    refine wpAny_bind (W.item i s _ _ (by lia) st fun v h1 tk1 hP st1 k1 => ?_)
    obtain ⟨u, rfl⟩ := hv i v hP
    have hs1 : SetAt w h1 S led (metS val i) := hs.keep fun o e => k1 S o (notw S hSI) e
    show wpAny _ A.in1 (holding [Value.str (val i) u] (setAdd S (.str (val i) u)) >>= _) _ _ _
    refine wpAny_bind (wpAny_holding ?_)
    refine set_add (s := { s with heap := h1, toks := tk1 }) hs1 (by have := metS_len val i; lia) fun h2 b sb hs2 => ?_
    refine wpAny_pure ⟨plainId_quiet PyProof.Rows.F.plain_set_update_loop _, ?_⟩
    refine ih (i + 1) { s with heap := h2, toks := tk1 + 1 } (by lia) (by lia) (W.frame _ h1 h2 st1 fun b hb' o e => ?_) (by rw [metS_succ]; exact hs2) fun h3 tk3 k3 hs3 => ?_
    · rw [sb.2 b fun q => hS (q ▸ hb')]; exact e
    · refine hR h3 tk3 (fun b o q1 q2 e => k3 b o q1 q2 ?_) hs3
      show h2.get? b = some o
      rw [sb.2 b q1]; exact k1 b o (notw b q2) e
noncomputable def byText (w : World) : Bool := w.params.followText "set-order"
noncomputable abbrev freshSet (w : World) : Obj := { cls := .type "set", dict := none, data := .set #[] 0 (.fresh 0 0 (!byText w)) }
theorem set_newX (a : Value) {Q₁ : Value → Shared → Prop} (h : Q₁ (.ref s.heap.objs.size) { s with heap := s.heap.push (freshSet w) }) :
    codeAny (model prog w) A (.call (.builtin "set.__new__") ⟨[.type "set", a], []⟩) (wants Q₁ E) s := by
  refine codeAny_of_tree ?_
  show wpAny _ A.in1 (do checkBuiltinCall "set.__new__" ⟨[.type "set", a], []⟩; again (.builtin "set.__new__" ⟨[.type "set", a], []⟩)) _ _ s
  refine wpAny_bind (wpAny_of_eq (PySem.F.newCall_set_1 a) (wpAny_pure ⟨plainId_quiet PySem.F.plain_set_new _, codeAny_builtin PySem.F.entry_set_new ?_⟩))
  rw [Around.under_plainId PySem.F.plain_set_new _]
  unfold Builtin.«set.__new__» Builtin.Frozenset.newClass
  have hsub := sub_set_self
  obtain ⟨hp, g, d, tk, os⟩ := s
  dsimp only
  wp_walk
  refine wpAny_askSetting (wpAny_pure ?_)
  dsimp only
  simp only [newObj]
  refine wpAny_bind (wpAny_alloc (wpAny_pure ?_))
  exact wpAny_pure h
theorem freshSet_at {h : Heap} {a : Addr} (e : h.get? a = some (freshSet w)) : SetAt w h a (!byText w) [] :=
  ⟨#[], 0, _, e, fun e he => by simp at he, List.Perm.nil, rfl, rfl, .inl rfl⟩
theorem call_setX {l : Addr} {items : Array Value} {ss : List Str} {Q : Value → Shared → Prop} (hh : A.handled = none) (hl : s.heap.IsList l items) (hi : StrsAre items.toList ss) (hb : ss.length + 1 < scanBound)
    (h : ∀ (h' : Heap) (tk : Nat), SetAt w h' s.heap.objs.size (!byText w) (ss.foldl addS []) → (∀ b o, s.heap.get? b = some o → h'.get? b = some o) → Q (.ref s.heap.objs.size) { s with heap := h', toks := tk }) :
    wpAny (model prog w) A (call (.type "set") [.ref l]) Q E s := by
  have hlen : items.size = ss.length := by rw [← Array.length_toList]; exact hi.length
  obtain ⟨cN, tl, hmro⟩ := PySem.F.called_set.mro
  have hmade := PySem.F.called_set.made
  have hsub := PySem.F.called_set.sub
  refine wpAny_call (codeAny_of_tree ?_)
  show wpAny _ _ (callAny (.type "set") _) _ _ _
  refine wpAny_pure ⟨Code.quiet_builtin _ (by decide +kernel), codeAny_builtin PySem.F.entry_type_call ?_⟩
  rw [Around.under_plain (weight_type_call_type "set" [.ref l] []) rfl]
  have h1 := PySem.F.called_set.notType
  have h2 := PySem.F.called_set.canCreate
  have hct := PySem.F.typeCall_set_1 (.ref l)
  repeat (any_goals (first | assumption | wp_step))
  refine codeAny_mono (set_newX (.ref l) (E := E) (Q₁ := fun obj s₁ => obj = .ref s.heap.objs.size ∧ s₁ = { s with heap := s.heap.push (freshSet w) }) ⟨rfl, rfl⟩) fun r s₁ hr => ?_
  match r, hr with
  | .error e, hr => exact hr
  | .ok (.ret obj), hr =>
    obtain ⟨rfl, rfl⟩ := hr
    have hS : (s.heap.push (freshSet w)).get? s.heap.objs.size = some (freshSet w) := Heap.get?_push_size _ rfl
    have hT : Shared.TypeIs { s with heap := s.heap.push (freshSet w) } (.ref s.heap.objs.size) "set" := ⟨_, hS, rfl⟩
    have hli := PySem.F.called_set.init.lookup
    have hbi := PySem.F.called_set.init.bind (.ref s.heap.objs.size)
    repeat (any_goals (first | assumption | wp_step))
    refine codeAny_mono (codeAny_call_builtin (R := wants (fun r s₂ => r = .none ∧ ∃ h' tk, s₂ = { s with heap := h', toks := tk } ∧ SetAt w h' s.heap.objs.size (!byText w) (ss.foldl addS []) ∧ (∀ b o, s.heap.get? b = some o → h'.get? b = some o)) E)
      PySem.F.called_set.init.plain PySem.F.entry_set_init (check_set_init_1 hT ?_)) fun r₂ s₂ hr₂ => ?_
    · obtain ⟨⟨c1, d1, da, sl⟩, hol, hcl, nl, hdl⟩ := hl
      simp only at hcl hdl
      subst hcl hdl
      have hol' := Heap.get?_push_of_some (freshSet w) hol
      have hsls := PySem.F.sub_list_set
      have hslf := PySem.F.sub_list_frozenset
      have hne : (Value.type "list" == Value.type "dict") = false := by decide
      have hl1 : (s.heap.push (freshSet w)).IsList l items := ⟨_, hol', rfl, nl, rfl⟩
      unfold Builtin.«set.__init__» noKeywords Builtin.Frozenset.updateFrom
      generalize hPI : pyIter = PI
      wp_walk
      subst hPI
      refine wpAny_pyIter_list hl1 ?_
      refine wpAny_bind (wpAny_runValue ?_)
      have hlS : l < s.heap.objs.size := Heap.lt_size hol
      have hneI : l ≠ (s.heap.push (freshSet w)).objs.size := by rw [Heap.size_push]; exact Nat.ne_of_lt (Nat.lt_succ_of_lt hlS)
      have hSI : s.heap.objs.size ≠ (s.heap.push (freshSet w)).objs.size := by rw [Heap.size_push]; exact Nat.ne_of_lt (Nat.lt_succ_self _)
      refine set_loop (Walks.list (by simp [hh]) _ l hneI items) s.heap.objs.size (!byText w) ?_ (fun i => ss.getD i "") ?_ (by rw [hlen]; exact hb) items.size 0 _ rfl (Nat.zero_le _)
        ⟨⟨_, Heap.get?_push_size _ rfl, rfl, rfl⟩, hl1.push _⟩ ?_ ?_
      · simp only [List.mem_cons, List.not_mem_nil, or_false, not_or]
        exact ⟨hSI, Nat.ne_of_gt hlS⟩
      · intro i v hv
        obtain ⟨y, t, rfl, e⟩ := hi.item i v (by rw [Array.getElem?_toList]; exact hv)
        exact ⟨t, by simp [e]⟩
      · exact freshSet_at (Heap.get?_push_of_some _ hS)
      · intro h' tk hk hS'
        refine wpAny_pure ?_
        show wpAny _ _ (ret Value.none) _ _ _
        refine wpAny_pure ⟨rfl, h', tk, rfl, ?_, fun b o e => ?_⟩
        · rw [hlen, metS_all] at hS'; exact hS'
        · refine hk b o ?_ ?_ (Heap.get?_push_of_some _ (Heap.get?_push_of_some _ e))
          · exact Nat.ne_of_lt (Heap.lt_size e)
          · rw [Heap.size_push]; exact Nat.ne_of_lt (Nat.lt_succ_of_lt (Heap.lt_size e))
    · match r₂, hr₂ with
      | .error e, hr₂ => exact hr₂
      | .ok (.ret r), hr₂ =>
        obtain ⟨rfl, h', tk, rfl, q1, q2⟩ := hr₂
        repeat (any_goals (first | assumption | wp_step))
        exact h _ _ q1 q2
end
end Mine

end
section
-- D19
open PySem PySem.W PySem.Calls PyProof.Rows
set_option Elab.async false
set_option linter.all false
set_option maxRecDepth 100000
set_option maxHeartbeats 4000000
namespace Mine
theorem si_next : PySem.Slot "set_iterator" "__next__" "set_iterator.__next__" :=
  .of (owner := "set_iterator") (n := "__next__") (by rw [typeLookup_type, builtinLookup_eq_fast]; kernel_rfl) (by decide +kernel) (by decide +kernel) (by decide +kernel)
    (by first | exact .inl (by decide +kernel) | exact .inr (by decide +kernel)) (by rw [isSubtype_type]; kernel_rfl)
theorem si_entry : entryFor table "set_iterator.__next__" = some Builtin.«set_iterator.__next__» := entryFor_of_tree (by kernel_rfl)
theorem si_args (a : Value) : argsOk "set_iterator.__next__" ⟨[a], []⟩ := by unfold argsOk; kernel_rfl
theorem si_iter : PySem.Slot "set_iterator" "__iter__" "set_iterator.__iter__" :=
  .of (owner := "set_iterator") (n := "__iter__") (by rw [typeLookup_type, builtinLookup_eq_fast]; kernel_rfl) (by decide +kernel) (by decide +kernel) (by decide +kernel)
    (by first | exact .inl (by decide +kernel) | exact .inr (by decide +kernel)) (by rw [isSubtype_type]; kernel_rfl)
theorem si_iter_entry : entryFor table "set_iterator.__iter__" = some Builtin.«dict_keyiterator.__iter__» := entryFor_alias (id' := "dict_keyiterator.__iter__") (by rw [fastTable_eq_tree]; kernel_rfl) rfl (by kernel_rfl) (by rw [fastTable_eq_tree]; kernel_rfl)
theorem si_iter_args (a : Value) : argsOk "set_iterator.__iter__" ⟨[a], []⟩ := by unfold argsOk; kernel_rfl
theorem si_no_len : typeLookup (.type "set_iterator") "__len__" = pure none := by rw [typeLookup_type, builtinLookup_eq_fast]; kernel_rfl
theorem si_hint : typeLookup (.type "set_iterator") "__length_hint__" = pure (some (.builtin "set_iterator.__length_hint__")) := by rw [typeLookup_type, builtinLookup_eq_fast]; kernel_rfl
theorem set_iter_entry : entryFor table "set.__iter__" = some Builtin.«frozenset.__iter__» := entryFor_alias (id' := "frozenset.__iter__") (by rw [fastTable_eq_tree]; kernel_rfl) rfl (by kernel_rfl) (by rw [fastTable_eq_tree]; kernel_rfl)
/-- an iterator over a set -/
noncomputable abbrev iterO (first : Value) (i : Nat) (s : Value) (n ep : Nat) : Obj := { cls := .type "set_iterator", data := .fields #[first, .int i 0, s, .int n 0, .int ep 0] }
noncomputable abbrev setO (es : Array (Int × Value)) (ep : Nat) (t : SetTable) : Obj := { cls := .type "set", dict := none, data := .set es ep t }
section
variable {prog : Program} {w : World} {A : Around} {E : Value → Shared → Prop} {s : Shared} {I S T : Addr} {es : Array (Int × Value)} {ep i n : Nat} {t : SetTable}
theorem next_drawn {places : Array Value} {p : Nat} {hx : Int} {x : Value} {Q : Option Value → Shared → Prop} (hI : s.heap.get? I = some (iterO (.ref T) i (.ref S) n ep)) (hT : s.heap.get? T = some { cls := .type "tuple", data := .seq places 0 }) (hS : s.heap.get? S = some (setO es ep t))
    (hf : t.fits es.size = true) (hn : es.size = n) (hp : places[i]? = some (.int p 0)) (he : es[p]? = some (hx, x)) (hQ : ∀ h', Heap.SameBut I s.heap h' → h'.get? I = some (iterO (.ref T) (i + 1) (.ref S) n ep) → Q (some x) { s with heap := h' }) :
    wpAny (model prog w) A (pyNext (.ref I)) Q E s := by
  unfold pyNext
  refine wpAny_bind (wpAny_attempt (wpAny_callSpecial?_slot (name := Str.ofString "__next__") ⟨_, hI, rfl⟩ si_next (wpAny_call_entry si_next ⟨_, hI, rfl⟩ si_entry ?_ (si_args _))))
  unfold Builtin.«set_iterator.__next__»
  refine wpAny_bind (wpAny_pure ?_)
  dsimp only
  refine wpAny_bind (wpAny_fieldsOf hI rfl ?_)
  dsimp only
  refine wpAny_bind (wpAny_setEntries_of hS rfl hf ?_)
  rw [hn]
  simp only [bne_self_eq_false, Bool.false_eq_true, if_false]
  refine wpAny_bind (wpAny_seqItems hT rfl ?_)
  dsimp only
  rw [show (i : Int).toNat = i by simp, hp]
  dsimp only
  unfold setNextDrawn
  refine wpAny_bind (wpAny_bind (wpAny_setState_of hS rfl hf ?_))
  dsimp only
  rw [show ((ep : Int).toNat) = ep by simp, show (p : Int).toNat = p by simp, he]
  simp only [bne_self_eq_false, Bool.false_eq_true, if_false]
  refine wpAny_pure ?_
  refine wpAny_bind (wpAny_setField_rec hI (by simp) fun h' g' sb => ?_)
  refine wpAny_pure ⟨_, rfl, wpAny_pure (hQ h' sb ?_)⟩
  rw [g']; rfl
/-- the walk has ended -/
theorem stop_iter {first : Value} {Q : Option Value → Shared → Prop} {R : Sem PySem.Fin → Prop} (hh : A.handled = none)
    (hQ : ∀ h', (∀ b o, s.heap.get? b = some o → h'.get? b = some o) → Q none { s with heap := h' }) :
    wpAny (model prog w) A.in1 (do let x ← newExc (.type "StopIteration") []; raiseNew x : Sem PySem.Fin) (fun fin s' => ∃ v, fin = PySem.Fin.done (Flow.ret v) ∧ wpAny (model prog w) A (pure (some v)) Q E s')
      (fun e s' => wpAny (model prog w) A (do
          let __do_lift ← isInstance e (Value.type "StopIteration")
          if __do_lift = true then pure none else throw e) Q E s') s := by
  refine wpAny_bind ?_
  simp only [newExc, newTuple]
  refine wpAny_bind (wpAny_newObj_type ?_ (by size_fits))
  refine wpAny_bind (m := firstArgMember _ _) (wpAny_of_eq (a := Value.none) (by first | rfl | (simp only [firstArgMember]; rfl)) ?_)
  refine wpAny_newObj_type ?_ (by size_fits)
  simp only [raiseNew]
  refine wpAny_bind (wpAny_handled ?_)
  rw [show A.in1.handled = none from hh]
  refine wpAny_bind (wpAny_pure (wpAny_throw ?_))
  refine wpAny_bind (wpAny_isInstance (T := "StopIteration") (b := true) ⟨_, Heap.get?_push_size _ rfl, rfl⟩ isSubtype_stop ?_)
  exact wpAny_pure (hQ _ fun b o e => Heap.get?_push_of_some _ (Heap.get?_push_of_some _ e))
theorem done_drawn {places : Array Value} {Q : Option Value → Shared → Prop} (hh : A.handled = none) (hI : s.heap.get? I = some (iterO (.ref T) i (.ref S) n ep)) (hT : s.heap.get? T = some { cls := .type "tuple", data := .seq places 0 }) (hS : s.heap.get? S = some (setO es ep t))
    (hf : t.fits es.size = true) (hn : es.size = n) (hp : places[i]? = none) (hQ : ∀ h', (∀ b o, b ≠ I → s.heap.get? b = some o → h'.get? b = some o) → Q none { s with heap := h' }) :
    wpAny (model prog w) A (pyNext (.ref I)) Q E s := by
  unfold pyNext
  refine wpAny_bind (wpAny_attempt (wpAny_callSpecial?_slot (name := Str.ofString "__next__") ⟨_, hI, rfl⟩ si_next (wpAny_call_entry si_next ⟨_, hI, rfl⟩ si_entry ?_ (si_args _))))
  unfold Builtin.«set_iterator.__next__»
  refine wpAny_bind (wpAny_pure ?_)
  dsimp only
  refine wpAny_bind (wpAny_fieldsOf hI rfl ?_)
  dsimp only
  refine wpAny_bind (wpAny_setEntries_of hS rfl hf ?_)
  rw [hn]
  simp only [bne_self_eq_false, Bool.false_eq_true, if_false]
  refine wpAny_bind (wpAny_seqItems hT rfl ?_)
  dsimp only
  rw [show (i : Int).toNat = i by simp, hp]
  dsimp only
  refine wpAny_bind (wpAny_setField_rec hI (by simp) fun h1 g1 s1 => ?_)
  refine wpAny_bind (wpAny_setField_rec (s := { s with heap := h1 }) g1 (by simp) fun h2 g2 s2 => ?_)
  refine stop_iter (s := { s with heap := h2 }) (first := .none) (R := fun _ => True) hh fun h' k => hQ h' fun b o hb e => k b o ?_
  show h2.get? b = some o
  rw [s2.2 b hb]
  show h1.get? b = some o
  rw [s1.2 b hb]; exact e
theorem next_int {sl nx : Nat} {x : Value} {Q : Option Value → Shared → Prop} (hI : s.heap.get? I = some (iterO (.int sl 0) i (.ref S) n ep)) (hS : s.heap.get? S = some (setO es ep t)) (hf : t.fits es.size = true) (hn : es.size = n)
    (hN : ∀ (Q' : Option (Value × Nat) → Shared → Prop) E', Q' (some (x, nx)) s → wpAny (model prog w) A.in1 (setNext S sl i ep) Q' E' s)
    (hQ : ∀ h', Heap.SameBut I s.heap h' → h'.get? I = some (iterO (.int nx 0) (i + 1) (.ref S) n ep) → Q (some x) { s with heap := h' }) :
    wpAny (model prog w) A (pyNext (.ref I)) Q E s := by
  unfold pyNext
  refine wpAny_bind (wpAny_attempt (wpAny_callSpecial?_slot (name := Str.ofString "__next__") ⟨_, hI, rfl⟩ si_next (wpAny_call_entry si_next ⟨_, hI, rfl⟩ si_entry ?_ (si_args _))))
  unfold Builtin.«set_iterator.__next__»
  refine wpAny_bind (wpAny_pure ?_)
  dsimp only
  refine wpAny_bind (wpAny_fieldsOf hI rfl ?_)
  dsimp only
  refine wpAny_bind (wpAny_setEntries_of hS rfl hf ?_)
  rw [hn]
  simp only [bne_self_eq_false, Bool.false_eq_true, if_false]
  rw [show ((ep : Int).toNat) = ep by simp, show (sl : Int).toNat = sl by simp, show (i : Int).toNat = i by simp]
  refine wpAny_bind (hN _ _ ?_)
  dsimp only
  refine wpAny_bind (wpAny_setField_rec hI (by simp) fun h1 g1 s1 => ?_)
  refine wpAny_bind (wpAny_setField_rec (s := { s with heap := h1 }) g1 (by simp) fun h2 g2 s2 => ?_)
  refine wpAny_pure ⟨_, rfl, wpAny_pure (hQ h2 (s1.trans s2) ?_)⟩
  rw [g2]; rfl
theorem done_int {sl : Nat} {Q : Option Value → Shared → Prop} (hh : A.handled = none) (hI : s.heap.get? I = some (iterO (.int sl 0) i (.ref S) n ep)) (hS : s.heap.get? S = some (setO es ep t)) (hf : t.fits es.size = true) (hn : es.size = n)
    (hN : ∀ (Q' : Option (Value × Nat) → Shared → Prop) E', Q' none s → wpAny (model prog w) A.in1 (setNext S sl i ep) Q' E' s)
    (hQ : ∀ h', (∀ b o, b ≠ I → s.heap.get? b = some o → h'.get? b = some o) → Q none { s with heap := h' }) :
    wpAny (model prog w) A (pyNext (.ref I)) Q E s := by
  unfold pyNext
  refine wpAny_bind (wpAny_attempt (wpAny_callSpecial?_slot (name := Str.ofString "__next__") ⟨_, hI, rfl⟩ si_next (wpAny_call_entry si_next ⟨_, hI, rfl⟩ si_entry ?_ (si_args _))))
  unfold Builtin.«set_iterator.__next__»
  refine wpAny_bind (wpAny_pure ?_)
  dsimp only
  refine wpAny_bind (wpAny_fieldsOf hI rfl ?_)
  dsimp only
  refine wpAny_bind (wpAny_setEntries_of hS rfl hf ?_)
  rw [hn]
  simp only [bne_self_eq_false, Bool.false_eq_true, if_false]
  rw [show ((ep : Int).toNat) = ep by simp, show (sl : Int).toNat = sl by simp, show (i : Int).toNat = i by simp]
  refine wpAny_bind (hN _ _ ?_)
  dsimp only
  refine wpAny_bind (wpAny_setField_rec hI (by simp) fun h1 g1 s1 => ?_)
  refine stop_iter (s := { s with heap := h1 }) (first := .none) (R := fun _ => True) hh fun h' k => hQ h' fun b o hb e => k b o ?_
  show h1.get? b = some o
  rw [s1.2 b hb]; exact e
theorem setNext_text {sl : Nat} {Q : Option (Value × Nat) → Shared → Prop} (hbt : byText w = true) (hS : s.heap.get? S = some (setO es ep t)) (hf : t.fits es.size = true)
    (h : Q (((pickOrder (w.params.setOrder S ep) es)[i]?).map fun e => (e.2, sl)) s) : wpAny (model prog w) A (setNext S sl i ep) Q E s := by
  unfold setNext setsByText
  refine wpAny_bind (wpAny_setState_of hS rfl hf ?_)
  dsimp only
  refine wpAny_bind (wpAny_bind (wpAny_askSetting (wpAny_pure ?_)))
  have hb : w.params.followText "set-order" = true := hbt
  show wpAny _ _ (if w.params.followText "set-order" = true then _ else _) _ _ _
  rw [if_pos hb]
  rw [if_neg (by simp)]
  refine wpAny_bind ?_
  unfold setWalk setsByText
  refine wpAny_bind (wpAny_setState_of hS rfl hf ?_)
  dsimp only
  refine wpAny_bind (wpAny_bind (wpAny_askSetting (wpAny_pure ?_)))
  show wpAny _ _ (if w.params.followText "set-order" = true then _ else _) _ _ _
  rw [if_pos hb]
  exact wpAny_bind (wpAny_askSetting (wpAny_pure (wpAny_pure h)))
theorem setNext_small {sl : Nat} {Q : Option (Value × Nat) → Shared → Prop} (hbt : byText w = false) (hS : s.heap.get? S = some (setO es ep t)) (hf : t.fits es.size = true) (hl : t.led = true) (hz : es.size ≤ 1)
    (h : Q (match es[SetTable.below t.place sl]?, t.place[SetTable.below t.place sl]? with
      | some (_, x), some j => some (x, j + 1)
      | _, _ => none) s) : wpAny (model prog w) A (setNext S sl i ep) Q E s := by
  unfold setNext setsByText
  refine wpAny_bind (wpAny_setState_of hS rfl hf ?_)
  dsimp only
  refine wpAny_bind (wpAny_bind (wpAny_askSetting (wpAny_pure ?_)))
  have hb : ¬ w.params.followText "set-order" = true := by have : w.params.followText "set-order" = false := hbt; rw [this]; exact Bool.false_ne_true
  show wpAny _ _ (if w.params.followText "set-order" = true then _ else _) _ _ _
  rw [if_neg hb]
  show wpAny _ _ (if (!t.plain && decide (es.size > 1)) = true then _ else _) _ _ _
  rw [if_neg (by simp [Nat.not_lt.mpr hz])]
  show wpAny _ _ ((if (!t.led && !es.isEmpty) = true then _ else _) >>= _) _ _ _
  rw [if_neg (by simp [hl])]
  exact wpAny_bind (wpAny_pure (wpAny_pure h))
end
end Mine

end
section
-- D20
open PySem PySem.W PySem.Calls PyProof.Rows
set_option Elab.async false
set_option linter.all false
set_option maxRecDepth 100000
set_option maxHeartbeats 4000000
namespace Mine
theorem erase_perm {α : Type} (l : List α) (i : Nat) (x : α) (h : l[i]? = some x) : (x :: l.eraseIdx i).Perm l := by
  obtain ⟨hi, rfl⟩ := List.getElem?_eq_some_iff.mp h
  rw [List.eraseIdx_eq_take_drop_succ]
  have e : l = l.take i ++ l[i] :: l.drop (i + 1) := by rw [List.getElem_cons_drop, List.take_append_drop]
  refine (List.perm_middle.symm).trans ?_
  rw [← e]
theorem pick_go {α : Type} (next : Nat → Nat) : ∀ (n k : Nat) (left : List α) (out : Array α), left.length = n → (pickOrder.go next n k left out).toList.Perm (out.toList ++ left)
  | 0, _, left, out, h => by
    have : left = [] := List.length_eq_zero_iff.mp h
    subst this
    unfold pickOrder.go
    simp
  | n + 1, k, left, out, h => by
    have hlt : next k % left.length < left.length := Nat.mod_lt _ (by lia)
    have e : left[next k % left.length]? = some left[next k % left.length] := List.getElem?_eq_getElem hlt
    unfold pickOrder.go
    rw [e]
    dsimp only
    refine (pick_go next n (k + 1) _ _ (by rw [List.length_eraseIdx_of_lt hlt]; lia)).trans ?_
    rw [Array.toList_push, List.append_assoc]
    exact List.Perm.append_left _ (erase_perm _ _ _ e)
theorem pick_perm {α : Type} (next : Nat → Nat) (xs : Array α) : (pickOrder next xs).toList.Perm xs.toList := by
  unfold pickOrder
  have := pick_go next xs.size 0 xs.toList #[] (by simp)
  simpa using this
section
variable {M : Model} {A : Around} {E : Value → Shared → Prop}
theorem choose_any {s : Shared} {src : Source} {n : Nat} {Q : Nat → Shared → Prop} (hn : n ≠ 0) (h : ∀ i d, i < n → Q i { s with drawn := d }) : wpAny M A (choose src n) Q E s := by
  intro Γ p hΓ
  unfold choose
  rw [Sem.wp_choose]
  exact ⟨hn, h _ _ (Nat.mod_lt _ (Nat.pos_of_ne_zero hn))⟩
theorem draw_any {α : Type} : ∀ (n : Nat) (xs : List α) (s : Shared) (Q : List α → Shared → Prop), xs.length = n → (∀ ys d, ys.Perm xs → Q ys { s with drawn := d }) → wpAny M A (drawOrder n xs) Q E s
  | 0, xs, s, Q, hl, h => by
    have : xs = [] := List.length_eq_zero_iff.mp hl
    subst this
    unfold drawOrder
    exact wpAny_pure (h [] s.drawn (List.Perm.refl _))
  | n + 1, [], s, Q, hl, h => by simp at hl
  | n + 1, x :: xs, s, Q, hl, h => by
    unfold drawOrder
    refine wpAny_bind (choose_any (by simp) fun i d hi => ?_)
    have e : (x :: xs)[i]? = some (x :: xs)[i] := List.getElem?_eq_getElem hi
    rw [e]
    dsimp only
    refine wpAny_bind (draw_any n _ _ _ (by rw [List.length_eraseIdx_of_lt hi]; simp at hl ⊢; lia) fun ys d' hp => wpAny_pure ?_)
    exact h _ d' ((hp.cons _).trans (erase_perm _ _ _ e))
end
/-- an iterator over a set goes through its items in some order -/
structure SetWalks (w : World) (prog : Program) (h : Heap) (I S : Addr) (σ : List Str) (ord : List Value) (fp : List Addr) (St : Nat → Heap → Prop) : Prop where
  W : ∀ A' : Around, A'.handled = none → Walks prog w A' I fp [I] ord.length (fun i v => ord[i]? = some v) St
  st : St 0 h
  ty : ∃ o, h.get? I = some o ∧ o.cls = .type "set_iterator"
  isS : ∃ σ', StrsAre ord σ' ∧ σ'.Perm σ
theorem strsAre_of {w : World} : ∀ {es : List (Int × Value)}, (∀ e ∈ es, ∃ x u, e = (hashStr w x, Value.str x u)) → StrsAre (es.map (·.2)) (es.map fun e => strOf e.2)
  | [], _ => .nil
  | e :: es, h => by
    obtain ⟨x, u, rfl⟩ := h _ (.head _)
    exact .cons x u (strsAre_of fun e he => h e (.tail _ he))
section
variable {prog : Program} {w : World} {A : Around} {E : Value → Shared → Prop} {s : Shared} {I S T : Addr} {es : Array (Int × Value)} {ep : Nat} {t : SetTable}
theorem self_iter {I : Addr} {o : Obj} {Q : Value → Shared → Prop} (hI : s.heap.get? I = some o) (hc : o.cls = .type "set_iterator") (h : Q (.ref I) s) : wpAny (model prog w) A (pyIter (.ref I)) Q E s := by
  have hT : s.TypeIs (.ref I) "set_iterator" := ⟨_, hI, hc⟩
  refine wpAny_pyIter_slot hT si_iter (wpAny_call_entry si_iter hT si_iter_entry ?_ (si_iter_args _))
  show wpAny _ _ (ret (.ref I)) _ _ s
  exact wpAny_pure ⟨_, rfl, "set_iterator", _, hT, si_next.lookup, h⟩
theorem walks_drawn (hne : S ≠ I) (hneT : T ≠ I) (hf : t.fits es.size = true) (pl : List Nat) (hpl : pl.Perm (List.range es.size)) (hh : A.handled = none) :
    Walks prog w A I [I, S, T] [I] (pl.map fun p => (es.getD p (0, Value.none)).2).length (fun i v => (pl.map fun p => (es.getD p (0, Value.none)).2)[i]? = some v)
      (fun i h => h.get? I = some (iterO (.ref T) i (.ref S) es.size ep) ∧ h.get? S = some (setO es ep t) ∧ h.get? T = some { cls := .type "tuple", data := .seq (pl.map fun (p : Nat) => rawInt p).toArray 0 }) where
  sub := fun b hb => by simp at hb; simp [hb]
  frame := fun _ _ _ st hk => ⟨hk I (by simp) _ st.1, hk S (by simp) _ st.2.1, hk T (by simp) _ st.2.2⟩
  item := fun i s Q E hi st hQ => by
    rw [List.length_map] at hi
    have hp : pl[i]? = some pl[i] := List.getElem?_eq_getElem hi
    have hlt : pl[i] < es.size := List.mem_range.mp (hpl.mem_iff.mp (List.getElem_mem hi))
    have he : es[pl[i]]? = some (es[pl[i]].1, es[pl[i]].2) := by simp [hlt]
    refine next_drawn (p := pl[i]) st.1 st.2.2 st.2.1 hf rfl (by simp [hp, rawInt]) he fun h' sb g => ?_
    refine hQ _ h' s.toks (by simp [hp, Array.getD, hlt]) ⟨g, ?_, ?_⟩ fun b o hb e => by rw [sb.2 b fun q => hb (by simp [q])]; exact e
    · rw [sb.2 S hne]; exact st.2.1
    · rw [sb.2 T hneT]; exact st.2.2
  done := fun s Q E st hQ => by
    refine done_drawn hh st.1 st.2.2 st.2.1 hf rfl (by simp) fun h' k => hQ h' s.toks fun b o hb e => k b o (fun q => hb (by simp [q])) e
  self := fun i s Q E st hQ => self_iter st.1 rfl hQ
theorem walks_text (hne : S ≠ I) (hf : t.fits es.size = true) (hbt : byText w = true) (hh : A.handled = none) :
    Walks prog w A I [I, S] [I] ((pickOrder (w.params.setOrder S ep) es).toList.map (·.2)).length (fun i v => ((pickOrder (w.params.setOrder S ep) es).toList.map (·.2))[i]? = some v)
      (fun i h => h.get? I = some (iterO (.int (0 : Nat) 0) i (.ref S) es.size ep) ∧ h.get? S = some (setO es ep t)) where
  sub := fun b hb => by simp at hb; simp [hb]
  frame := fun _ _ _ st hk => ⟨hk I (by simp) _ st.1, hk S (by simp) _ st.2⟩
  item := fun i s Q E hi st hQ => by
    rw [List.length_map, Array.length_toList] at hi
    have hp : (pickOrder (w.params.setOrder S ep) es)[i]? = some (pickOrder (w.params.setOrder S ep) es)[i] := by simp [hi]
    refine next_int (sl := 0) (nx := 0) (x := (pickOrder (w.params.setOrder S ep) es)[i].2) st.1 st.2 hf rfl (fun Q' E' q => setNext_text hbt st.2 hf (by rw [hp]; exact q)) fun h' sb g => ?_
    refine hQ _ h' s.toks (by simp [hi]) ⟨g, ?_⟩ fun b o hb e => by rw [sb.2 b fun q => hb (by simp [q])]; exact e
    rw [sb.2 S hne]; exact st.2
  done := fun s Q E st hQ => by
    refine done_int (sl := 0) hh st.1 st.2 hf rfl (fun Q' E' q => setNext_text hbt st.2 hf (by rw [Array.getElem?_eq_none (by simp)]; exact q)) fun h' k => hQ h' s.toks fun b o hb e => k b o (fun q => hb (by simp [q])) e
  self := fun i s Q E st hQ => self_iter st.1 rfl hQ
theorem below_zero (p : Nat) : SetTable.below #[p] 0 = 0 := by
  unfold SetTable.below
  show SetTable.below.go #[p] 0 1 0 1 = 0
  unfold SetTable.below.go
  simp
  unfold SetTable.below.go
  rfl
theorem below_one (p : Nat) : SetTable.below #[p] (p + 1) = 1 := by
  unfold SetTable.below
  show SetTable.below.go #[p] (p + 1) 1 0 1 = 1
  unfold SetTable.below.go
  simp
  unfold SetTable.below.go
  rfl
theorem walks_small (hne : S ≠ I) (hf : t.fits es.size = true) (hbt : byText w = false) (hl : t.led = true) (hz : es.size ≤ 1) (hh : A.handled = none) :
    Walks prog w A I [I, S] [I] (es.toList.map (·.2)).length (fun i v => (es.toList.map (·.2))[i]? = some v)
      (fun i h => h.get? I = some (iterO (.int (if i = 0 then 0 else t.place.getD 0 0 + 1 : Nat) 0) i (.ref S) es.size ep) ∧ h.get? S = some (setO es ep t)) where
  sub := fun b hb => by simp at hb; simp [hb]
  frame := fun _ _ _ st hk => ⟨hk I (by simp) _ st.1, hk S (by simp) _ st.2⟩
  item := fun i s Q E hi st hQ => by
    rw [List.length_map, Array.length_toList] at hi
    obtain rfl : i = 0 := by lia
    have hp : t.place.size = 1 := by
      simp only [SetTable.fits, Bool.and_eq_true, beq_iff_eq] at hf; lia
    obtain ⟨p, hpe⟩ : ∃ p, t.place = #[p] := ⟨t.place[0], by
      apply Array.ext
      · simp [hp]
      · intro j h1 h2; have : j = 0 := by lia
        subst this; rfl⟩
    have he : es[0]? = some (es[0].1, es[0].2) := by simp [hi]
    refine next_int (sl := 0) (nx := p + 1) (x := es[0].2) st.1 st.2 hf rfl (fun Q' E' q => setNext_small hbt st.2 hf hl hz (by rw [hpe, below_zero, he]; exact q)) fun h' sb g => ?_
    refine hQ _ h' s.toks (by simp [hi]) ⟨by rw [g, hpe]; rfl, ?_⟩ fun b o hb e => by rw [sb.2 b fun q => hb (by simp [q])]; exact e
    rw [sb.2 S hne]; exact st.2
  done := fun s Q E st hQ => by
    rw [List.length_map, Array.length_toList] at st
    refine done_int hh st.1 st.2 hf rfl (fun Q' E' q => setNext_small hbt st.2 hf hl hz ?_) fun h' k => hQ h' s.toks fun b o hb e => k b o (fun q => hb (by simp [q])) e
    by_cases h0 : es.size = 0
    · rw [Array.getElem?_eq_none (by lia)]; exact q
    · have h1 : es.size = 1 := by lia
      have hp : t.place.size = 1 := by
        simp only [SetTable.fits, Bool.and_eq_true, beq_iff_eq] at hf; lia
      obtain ⟨p, hpe⟩ : ∃ p, t.place = #[p] := ⟨t.place[0], by
        apply Array.ext
        · simp [hp]
        · intro j h1 h2; have : j = 0 := by lia
          subst this; rfl⟩
      rw [if_neg h0, hpe, show (#[p] : Array Nat).getD 0 0 + 1 = p + 1 from rfl, below_one, Array.getElem?_eq_none (by lia)]; exact q
  self := fun i s Q E st hQ => self_iter st.1 rfl hQ
end
end Mine

end
section
-- D21
open PySem PySem.W PySem.Calls PyProof.Rows
set_option Elab.async false
set_option linter.all false
set_option maxRecDepth 100000
set_option maxHeartbeats 4000000
namespace Mine
section
variable {prog : Program} {w : World} {A : Around} {E : Value → Shared → Prop} {s : Shared} {S : Addr} {σ : List Str}
theorem set_pyIter {Q : Value → Shared → Prop} (hS : SetAt w s.heap S (!byText w) σ) (hb : σ.length ≤ 4096)
    (hQ : ∀ I h' d ord fp St, SetWalks w prog h' I S σ ord fp St → (∀ b o, s.heap.get? b = some o → h'.get? b = some o) → s.heap.get? I = none → (∀ b ∈ fp, b = S ∨ s.heap.get? b = none) → Q (.ref I) { s with heap := h', drawn := d }) :
    wpAny (model prog w) A (pyIter (.ref S)) Q E s := by
  obtain ⟨es, ep, t, ho, hel, hperm, hf, hled, hpl⟩ := hS
  have hT : s.TypeIs (.ref S) "set" := ⟨_, ho, rfl⟩
  have hsz : es.size = σ.length := by rw [← hperm.length_eq, List.length_map, Array.length_toList]
  have hlt : S < s.heap.objs.size := Heap.lt_size ho
  have hS3 := strsAre_of hel
  refine wpAny_pyIter_slot hT PySem.F.slot_set_iter (wpAny_call_entry PySem.F.slot_set_iter hT set_iter_entry ?_ (PySem.F.args_set_iter_1 _))
  unfold Builtin.«frozenset.__iter__» Builtin.Frozenset.slot0 Builtin.Frozenset.sizeOf setDrawn setsByText setEpoch
  refine wpAny_bind (wpAny_bind (wpAny_pure ?_))
  show wpAny _ _ (pure S) _ _ s
  refine wpAny_pure ?_
  refine wpAny_bind (wpAny_bind (wpAny_setEntries_of ho rfl hf (wpAny_pure ?_)))
  refine wpAny_bind (wpAny_bind (wpAny_setState_of ho rfl hf (wpAny_bind (wpAny_bind (wpAny_askSetting (wpAny_pure ?_))))))
  dsimp only
  refine wpAny_pure ?_
  have next := si_next.lookup
  cases hbt : byText w with
  | true =>
    have hb2 : w.params.followText "set-order" = true := hbt
    show wpAny _ _ (if (!(w.params.followText "set-order") && _) = true then _ else _) _ _ s
    rw [hb2]
    simp only [Bool.not_true, Bool.false_and, Bool.false_eq_true, if_false]
    refine wpAny_bind (wpAny_pure ?_)
    refine wpAny_bind (wpAny_bind (wpAny_setState_of ho rfl hf (wpAny_pure ?_)))
    simp only [newFields]
    refine wpAny_bind (wpAny_newObj_type (wpAny_pure ⟨_, rfl, "set_iterator", _, ⟨_, Heap.get?_push_size _ rfl, rfl⟩, next, ?_⟩))
    refine hQ s.heap.objs.size _ s.drawn _ _ _ ⟨fun A' hh => walks_text (es := es) (ep := ep) (t := t) (Nat.ne_of_lt hlt) hf hbt hh, ⟨Heap.get?_push_size _ rfl, Heap.get?_push_of_some _ ho⟩, ⟨_, Heap.get?_push_size _ rfl, rfl⟩, ?_⟩ (fun b o e => Heap.get?_push_of_some _ e) (Heap.get?_none_of_le (Nat.le_refl _)) ?_
    · have hp := pick_perm (w.params.setOrder S ep) es
      exact ⟨_, strsAre_of fun e he => hel e (hp.mem_iff.mp he), (hp.map _).trans hperm⟩
    · intro b hb
      simp only [List.mem_cons, List.not_mem_nil, or_false] at hb
      rcases hb with rfl | rfl
      · exact .inr (Heap.get?_none_of_le (Nat.le_refl _))
      · exact .inl rfl
  | false =>
    have hb2 : w.params.followText "set-order" = false := hbt
    rw [hbt] at hled
    show wpAny _ _ (if (!(w.params.followText "set-order") && (!t.plain && decide (es.size > 1))) = true then _ else _) _ _ s
    rw [hb2]
    by_cases h1 : es.size ≤ 1
    · rw [if_neg (by simp [Nat.not_lt.mpr h1])]
      refine wpAny_bind (wpAny_pure ?_)
      refine wpAny_bind (wpAny_bind (wpAny_setState_of ho rfl hf (wpAny_pure ?_)))
      simp only [newFields]
      refine wpAny_bind (wpAny_newObj_type (wpAny_pure ⟨_, rfl, "set_iterator", _, ⟨_, Heap.get?_push_size _ rfl, rfl⟩, next, ?_⟩))
      refine hQ s.heap.objs.size _ s.drawn _ _ _ ⟨fun A' hh => walks_small (es := es) (ep := ep) (t := t) (Nat.ne_of_lt hlt) hf hbt hled h1 hh, ⟨Heap.get?_push_size _ rfl, Heap.get?_push_of_some _ ho⟩, ⟨_, Heap.get?_push_size _ rfl, rfl⟩, ?_⟩ (fun b o e => Heap.get?_push_of_some _ e) (Heap.get?_none_of_le (Nat.le_refl _)) ?_
      · exact ⟨_, hS3, hperm⟩
      · intro b hb
        simp only [List.mem_cons, List.not_mem_nil, or_false] at hb
        rcases hb with rfl | rfl
        · exact .inr (Heap.get?_none_of_le (Nat.le_refl _))
        · exact .inl rfl
    · have hp : t.plain = false := hpl.resolve_left (by lia)
      rw [if_pos (by simp [hp]; lia)]
      refine wpAny_bind (draw_any es.size (List.range es.size) s _ (by simp) fun pl d hpp => ?_)
      refine wpAny_bind (wpAny_newTuple ?_ (by rw [List.length_map, hpp.length_eq, List.length_range, hsz, sizeLine_eq]; lia))
      refine wpAny_bind (wpAny_bind (wpAny_setState_of (Heap.get?_push_of_some _ ho) rfl hf (wpAny_pure ?_)))
      simp only [newFields]
      refine wpAny_bind (wpAny_newObj_type (wpAny_pure ⟨_, rfl, "set_iterator", _, ⟨_, Heap.get?_push_size _ rfl, rfl⟩, next, ?_⟩))
      have hl1 : S ≠ (s.heap.push { cls := .type "tuple", data := .seq (List.map (fun (i : Nat) => rawInt i) pl).toArray }).objs.size := by rw [Heap.size_push]; exact Nat.ne_of_lt (Nat.lt_succ_of_lt hlt)
      have hl2 : s.heap.objs.size ≠ (s.heap.push { cls := .type "tuple", data := .seq (List.map (fun (i : Nat) => rawInt i) pl).toArray }).objs.size := by rw [Heap.size_push]; exact Nat.ne_of_lt (Nat.lt_succ_self _)
      refine hQ _ _ d _ _ _ ⟨fun A' hh => walks_drawn (es := es) (ep := ep) (t := t) hl1 hl2 hf pl hpp hh, ⟨Heap.get?_push_size _ rfl, Heap.get?_push_of_some _ (Heap.get?_push_of_some _ ho), Heap.get?_push_of_some _ (Heap.get?_push_size _ rfl)⟩, ⟨_, Heap.get?_push_size _ rfl, rfl⟩, ?_⟩ (fun b o e => Heap.get?_push_of_some _ (Heap.get?_push_of_some _ e)) (Heap.get?_none_of_le (by show _ ≤ (s.heap.push _).objs.size; rw [Heap.size_push]; exact Nat.le_succ _)) ?_
      · refine ⟨pl.map fun p => strOf (es.getD p (0, Value.none)).2, ?_, ?_⟩
        · have : ∀ l : List Nat, (∀ p ∈ l, p < es.size) → StrsAre (l.map fun p => (es.getD p (0, Value.none)).2) (l.map fun p => strOf (es.getD p (0, Value.none)).2) := by
            intro l
            induction l with
            | nil => intro _; exact .nil
            | cons p l ih =>
              intro hl
              have hp := hl p (.head _)
              obtain ⟨x, u, e⟩ := hel es[p] (by simp)
              simp only [List.map_cons]
              rw [show es.getD p (0, Value.none) = es[p] by simp [Array.getD, hp], e]
              exact .cons x u (ih fun q hq => hl q (.tail _ hq))
          exact this pl fun p hp => List.mem_range.mp (hpp.mem_iff.mp hp)
        · refine (hpp.map _).trans ?_
          rw [show (List.range es.size).map (fun p => strOf (es.getD p (0, Value.none)).2) = es.toList.map fun e => strOf e.2 from ?_]
          · exact hperm
          · apply List.ext_getElem
            · simp
            · intro i h1 h2
              simp at h1 h2
              simp [Array.getD, h1]
      · intro b hb
        simp only [List.mem_cons, List.not_mem_nil, or_false] at hb
        rcases hb with rfl | rfl | rfl
        · exact .inr (Heap.get?_none_of_le (by rw [Heap.size_push]; exact Nat.le_succ _))
        · exact .inl rfl
        · exact .inr (Heap.get?_none_of_le (Nat.le_refl _))
theorem hint_set {Q : Bool → Shared → Prop} (hT : s.TypeIs (.ref S) "set") (h : Q false s) : wpAny (model prog w) A (Builtin.List.listLengthHint (.ref S)) Q E s := by
  unfold Builtin.List.listLengthHint
  refine wpAny_bind (wpAny_specialOf hT PySem.F.slot_set_len.lookup ?_)
  wp_delta
  refine wpAny_bind (wpAny_isInstance (T := "set") (b := true) hT (by rw [isSubtype_type]; kernel_rfl) ?_)
  show wpAny _ _ (typeOf (Value.ref S) >>= _) _ _ _
  refine wpAny_bind (wpAny_typeOf (T := "set") hT ?_)
  exact wpAny_pure h
theorem extend_set {R : Result → Shared → Prop} (hh : A.handled = none) (hS : SetAt w s.heap S (!byText w) σ) (hb : σ.length ≤ 4096) (L : Addr) (res : Value) (c₀ : Nat) (hL : s.heap.get? L = some { cls := .type "list", data := .seq #[] c₀ })
    (hR : ∀ h' d tk (acc' : Array Value) c', (∀ b o, b ≠ L → s.heap.get? b = some o → h'.get? b = some o) → h'.get? L = some { cls := .type "list", dict := none, data := .seq acc' c', slots := #[] } →
      (∃ σ', StrsAre acc'.toList σ' ∧ σ'.Perm σ) → R (.ok (.ret res)) { s with heap := h', drawn := d, toks := tk }) :
    wpAny (model prog w) A.in1 (Builtin.List.listExtendWith (.ref L) (.ref S) res)
      (fun fin s' => match fin with | .done f => R (.ok f) s' | .again c' => c'.quiet = true ∧ codeAny (model prog w) A c' R s') (fun e s' => R (.error e) s') s := by
  obtain ⟨es, ep, t, ho, _⟩ := id hS
  have hLS : L ≠ S := fun e => by rw [e, ho] at hL; simp at hL
  unfold Builtin.List.listExtendWith
  refine wpAny_bind (wpAny_typeOf (T := "set") ⟨_, ho, rfl⟩ ?_)
  have h1 : Builtin.List.listSameRef (.ref L) (.ref S) = false := by simp [Builtin.List.listSameRef, hLS]
  have h2 : (Value.type "set" == Value.type "list") = false := by decide
  have h3 : (Value.type "set" == Value.type "tuple") = false := by decide
  simp only [h1, h2, h3, Bool.or_false, Bool.false_eq_true, if_false]
  refine wpAny_bind (set_pyIter hS hb fun I h1 d ord fp St W k1 hI hfp => ?_)
  refine wpAny_bind (wpAny_holding (hint_set ⟨_, k1 _ _ ho, rfl⟩ ?_))
  have hL1 := k1 _ _ hL
  have hIL : L ≠ I := fun e => by rw [e, hI] at hL; cases hL
  have hLf : L ∉ fp := fun q => by
    rcases hfp L q with e | e
    · exact hLS e
    · rw [hL] at e; cases e
  rw [if_pos (by rfl)]
  refine wpAny_bind (wpAny_rule ?_)
  refine wpAny_bind ?_
  show wpAny _ _ (updateSeq L (·.push .none) >>= fun _ => updateSeq L (·.pop)) _ _ _
  refine wpAny_bind (wpAny_updateSeq (s := { s with heap := h1, drawn := d }) hL1 rfl ?_)
  have hL2 := Heap.get?_update_self (Obj.mapSeq (·.push Value.none)) hL1 rfl
  refine wpAny_updateSeq (hz := by seq_fits) hL2 rfl ?_
  have hL3 := Heap.get?_update_self (Obj.mapSeq (·.pop)) hL2 rfl
  have W' := W.W A.in1 (by simp [hh])
  have st0 := W.st
  obtain ⟨σ', q1, q2⟩ := W.isS
  have other : ∀ b o, b ≠ L → h1.get? b = some o → ((h1.update L (Obj.mapSeq (·.push Value.none))).update L (Obj.mapSeq (·.pop))).get? b = some o := fun b o hb e =>
    (Heap.get?_update_other _ _ (Ne.symm hb)).trans ((Heap.get?_update_other _ _ (Ne.symm hb)).trans e)
  refine wpAny_pure ⟨plainId_quiet PySem.F.plain_extend_loop _, ?_⟩
  refine codeAny_extend_loopS W'.toS (by rw [q1.length, q2.length_eq, sizeLine_eq]; lia) L hLf res ord.length 0 _ #[] _ rfl (Nat.zero_le _) (W'.frame 0 h1 _ st0 fun b hb o e => other b o (fun q => hLf (q ▸ hb)) e) hL3 (ItemsOf.nil _) fun s' acc' c' hm hL' hacc => ?_
  rw [Moved.eq_with hm]
  have hacc' : acc'.toList = ord := by
    apply List.ext_getElem?
    intro j
    by_cases hj : j < acc'.size
    · have := hacc.2 j acc'[j] (by simp)
      rw [this]; simp [hj]
    · rw [List.getElem?_eq_none (by simpa using hj), List.getElem?_eq_none (by rw [← hacc.1]; lia)]
  refine hR s'.heap d s'.toks acc' c' (fun b o hb e => hm.heap b o ?_ (other b o hb (k1 b o e))) hL' ⟨σ', by rw [hacc']; exact q1, q2⟩
  simp only [List.mem_cons, List.not_mem_nil, or_false, not_or]
  exact ⟨hb, fun q => by rw [q, hI] at e; cases e⟩
theorem collect_set {Q : List Value → Shared → Prop} (hh : A.handled = none) (hS : SetAt w s.heap S (!byText w) σ) (hb : σ.length ≤ 4096)
    (h : ∀ h' d tk (vs : List Value) σ', (∀ b o, s.heap.get? b = some o → h'.get? b = some o) → StrsAre vs σ' → σ'.Perm σ → Q vs { s with heap := h', drawn := d, toks := tk }) :
    wpAny (model prog w) A (collect (.ref S)) Q E s := by
  unfold collect
  refine wpAny_bind (wpAny_runValue (codeAny_builtin entry_proto_collect' ?_))
  show wpAny _ _ (do again (.builtin "list.__iadd__" ⟨[← newList [], .ref S], []⟩)) _ _ s
  refine wpAny_bind (wpAny_newList (wpAny_pure ⟨Code.quiet_builtin _ (by decide +kernel), codeAny_builtin entry_list_iadd' ?_⟩))
  show wpAny _ _ (Builtin.List.listExtendWith (.ref s.heap.objs.size) (.ref S) (.ref s.heap.objs.size)) _ _ { s with heap := s.heap.push (seqObj "list" #[] 0) }
  rw [Around.under_plainId (by decide +kernel : plainId "list.__iadd__" = true) _]
  have hS1 : SetAt w (s.heap.push (seqObj "list" #[] 0)) S (!byText w) σ := hS.keep fun o e => Heap.get?_push_of_some _ e
  refine extend_set (s := { s with heap := s.heap.push (seqObj "list" #[] 0) }) (R := fun r s' => match r with
      | .ok (.ret v) => wpAny (model prog w) A (match v with
          | .ref a => do
            let o ← load a
            match o.data with
            | .seq xs _ => pure xs.toList
            | _ => unsupported "internal:collect"
          | _ => unsupported "internal:collect") Q E s'
      | .ok _ => False
      | .error e => E e s') hh hS1 hb s.heap.objs.size (.ref s.heap.objs.size) 0 (Heap.get?_push_size _ rfl) fun h' d tk acc c k hL hs => ?_
  obtain ⟨σ', q1, q2⟩ := hs
  refine wpAny_bind (wpAny_load hL ?_)
  exact wpAny_pure (h h' d tk acc.toList σ' (fun b o e => k b o (Nat.ne_of_lt (Heap.lt_size e)) (Heap.get?_push_of_some _ e)) q1 q2)
end
end Mine

end
section
-- D22
open PySem PySem.W PySem.Calls PyProof.Rows PySem.Spec
set_option Elab.async false
set_option linter.all false
set_option maxRecDepth 100000
set_option maxHeartbeats 4000000
namespace Mine
theorem rising_pw : ∀ (l : List Str) (p : Str), risingS p l = true → (∀ x ∈ l, p.cps.toList ≤ x.cps.toList) ∧ l.Pairwise (fun a b => a.cps.toList ≤ b.cps.toList)
  | [], p, _ => ⟨fun x h => (by cases h), List.Pairwise.nil⟩
  | x :: r, p, h => by
    have h' : (!ltCps x.cps.toList p.cps.toList && risingS x r) = true := h
    rw [Bool.and_eq_true, ltCps_eq, Bool.not_eq_true', decide_eq_false_iff_not] at h'
    obtain ⟨h1, h2⟩ := h'
    have h1' : p.cps.toList ≤ x.cps.toList := List.not_lt.mp h1
    obtain ⟨a1, a2⟩ := rising_pw r x h2
    refine ⟨fun y hy => ?_, .cons a1 a2⟩
    rcases List.mem_cons.mp hy with rfl | hy
    · exact h1'
    · exact List.le_trans h1' (a1 y hy)
theorem sortedS_pw : ∀ (l : List Str), sortedS l = true → l.Pairwise (fun a b => a.cps.toList ≤ b.cps.toList)
  | [], _ => List.Pairwise.nil
  | x :: r, h => .cons (rising_pw r x h).1 (rising_pw r x h).2
section
variable {prog : Program} {w : World} {A : Around} {E : Value → Shared → Prop} {s : Shared} {S : Addr} {σ : List Str}
theorem sorted_set {Q : Value → Shared → Prop} (hh : A.handled = none) (hS : SetAt w s.heap S (!byText w) σ) (hb : σ.length < 64)
    (h : ∀ h' d tk L (out : Array Value) ss' e, (∀ b o, s.heap.get? b = some o → h'.get? b = some o) → s.heap.get? L = none → h'.get? L = some (seqObj "list" out e) → StrsAre out.toList ss' → ss'.Perm σ → ss'.Pairwise (fun a b => a.cps.toList ≤ b.cps.toList) → Q (.ref L) { s with heap := h', drawn := d, toks := tk }) :
    wpAny (model prog w) A (call (.builtin "sorted") [.ref S]) Q E s := by
  refine Calls.call_function_entry kind_sorted plain_sorted entry_sorted (args_sorted1 _) ?_
  unfold Builtin.«sorted»
  refine wpAny_bind (m := checkCount "sorted" 1 1 _) (wpAny_pure ?_)
  refine wpAny_bind (collect_set (by simp [hh]) hS (by lia) fun h1 d tk vs σ' k1 q1 q2 => ?_)
  have hlen : vs.length < 64 := by rw [q1.length, q2.length_eq]; exact hb
  refine wpAny_bind (wpAny_newList ?_ (by rw [sizeLine_eq]; lia))
  have hoL : (h1.push (seqObj "list" vs.toArray 0)).get? h1.objs.size = some (seqObj "list" vs.toArray 0) := Heap.get?_push_size _ rfl
  refine wpAny_bind (wpAny_holding (wpAny_call_entry slot_list_sort ⟨_, hoL, rfl⟩ entry_list_sort (list_sort_treeK strKind_oneLt hoL q1.keysOf (fun v₁ v₂ rest e => keyKind_strs (by rw [← e]; exact q1)) hlen fun st' hp hs => ⟨_, rfl, ?_⟩) (args_list_sort _)))
  refine wpAny_pure ⟨_, rfl, ?_⟩
  obtain ⟨ss', a1, a2, a3⟩ := sorted_out_str q1 hp hs
  obtain ⟨e, he⟩ := sortedHeap_at (out := (arrOf st').map (·.2)) hoL
  have hnone : s.heap.get? h1.objs.size = none := by
    cases q : s.heap.get? h1.objs.size with
    | none => rfl
    | some o => exact absurd (Heap.lt_size (k1 _ _ q)) (Nat.lt_irrefl _)
  refine h _ d tk h1.objs.size _ ss' e (fun b o q => ?_) hnone he a1 (a2.trans q2) (sortedS_pw _ a3)
  have hlt : b < h1.objs.size := Heap.lt_size (k1 _ _ q)
  rw [sortedHeap_old (Nat.ne_of_lt hlt) (by rw [size_push']; exact Nat.lt_succ_of_lt hlt), Heap.get?_push_ne _ _ _ (Nat.ne_of_lt hlt)]
  exact k1 _ _ q
end
theorem addS_mem (σ : List Str) (k x : Str) : x ∈ addS σ k ↔ x ∈ σ ∨ x = k := by
  unfold addS
  split
  · rename_i h
    constructor
    · exact .inl
    · rintro (h' | rfl)
      · exact h'
      · exact h
  · simp
theorem fold_mem (l : List Str) : ∀ (σ : List Str) (x : Str), x ∈ l.foldl addS σ ↔ x ∈ σ ∨ x ∈ l := by
  induction l with
  | nil => intro σ x; simp
  | cons k l ih =>
    intro σ x
    rw [List.foldl_cons, ih, addS_mem, List.mem_cons]
    constructor
    · rintro ((h | h) | h)
      · exact .inl h
      · exact .inr (.inl h)
      · exact .inr (.inr h)
    · rintro (h | h | h)
      · exact .inl (.inl h)
      · exact .inl (.inr h)
      · exact .inr h
theorem addS_nodup {σ : List Str} {k : Str} (h : σ.Nodup) : (addS σ k).Nodup := by
  unfold addS
  split
  · exact h
  · rename_i hk
    rw [List.nodup_append]
    refine ⟨h, by simp, fun a ha b hb => ?_⟩
    rw [List.mem_singleton.mp hb]
    rintro rfl
    exact hk ha
theorem fold_nodup (l : List Str) : ∀ (σ : List Str), σ.Nodup → (l.foldl addS σ).Nodup := by
  induction l with
  | nil => intro σ h; exact h
  | cons k l ih => intro σ h; exact ih _ (addS_nodup h)
theorem sOf_toList (x : Str) : sOf x.cps.toList = x := by cases x; simp [sOf]
theorem sOf_inj {a b : List Nat} (h : sOf a = sOf b) : a = b := by simpa [sOf] using h
/-- the items of these, each once, in their order -/
structure Canon (W ws : List (List Nat)) : Prop where
  pw : W.Pairwise (· < ·)
  mem : ∀ x, x ∈ W ↔ x ∈ ws
theorem canon_of {ws : List (List Nat)} {ss : List Str} (hp : ss.Perm ((ws.map sOf).foldl addS [])) (hw : ss.Pairwise (fun a b => a.cps.toList ≤ b.cps.toList)) : ∃ W, ss = W.map sOf ∧ Canon W ws := by
  have hnd : ss.Nodup := hp.nodup_iff.mpr (fold_nodup _ [] List.nodup_nil)
  refine ⟨ss.map fun x => x.cps.toList, ?_, ?_, fun x => ?_⟩
  · rw [List.map_map]
    conv => lhs; rw [← List.map_id ss]
    exact List.map_congr_left fun x _ => (sOf_toList x).symm
  · rw [List.pairwise_map]
    refine List.Pairwise.imp₂ (R := fun a b => a ≠ b) (S := fun a b : Str => a.cps.toList ≤ b.cps.toList) ?_ hnd hw
    intro a b h1 h2
    rcases List.le_iff_lt_or_eq.mp h2 with h | h
    · exact h
    · exact absurd (by cases a; cases b; simpa using h) h1
  · rw [List.mem_map]
    constructor
    · rintro ⟨a, ha, rfl⟩
      have := (fold_mem _ _ _).mp (hp.mem_iff.mp ha)
      rcases this with h | h
      · cases h
      · obtain ⟨y, hy, rfl⟩ := List.mem_map.mp h
        simpa [sOf] using hy
    · intro hx
      exact ⟨sOf x, hp.mem_iff.mpr ((fold_mem _ _ _).mpr (.inr (List.mem_map.mpr ⟨x, hx, rfl⟩))), by simp [sOf]⟩
theorem strsAre_wsV {H : HF} : ∀ {ws : List (List Nat)} {its : List Value}, Reps H its (wsV ws) → StrsAre its (ws.map sOf) := fun {ws} => by
  induction ws with
  | nil => exact fun r => r.onNil .nil
  | cons w ws ih => exact fun r => r.onCons fun x ys a b => a.onStr fun t => .cons _ _ (ih b)
theorem reps_wsV {H : HF} : ∀ {W : List (List Nat)} {its : List Value}, StrsAre its (W.map sOf) → Reps H its (wsV W) := fun {W} => by
  induction W with
  | nil => intro its r; cases r; exact .nil
  | cons w W ih => intro its r; cases r with
    | cons y t r2 => exact .cons .str (ih r2)
section
variable {cx : Cx} {g : Gl} {d : Nat} {ns : Names} {b : Bool} {ρ : Env'} {Q' : V → Prop}
theorem Inv.drew {H : HF} {vr : Str → Option Value} {s : Shared} (dr : Drawn) (i : Inv cx H ρ vr s) : Inv cx H ρ vr { s with drawn := dr } :=
  ⟨i.gens, i.drawn, i.os, i.keepF, i.keepH, i.FH, i.ns, i.cell, i.cellsApart, i.offL, i.offC, i.len, i.vars, i.own1⟩
theorem few_texts {ws : List (List Nat)} (h64 : ∀ l : List (List Nat), l.Nodup → (∀ x ∈ l, x ∈ ws) → l.length < 64) : ((ws.map sOf).foldl addS []).length < 64 := by
  have := h64 (((ws.map sOf).foldl addS []).map fun x => x.cps.toList) ?_ ?_
  · simpa using this
  · show List.Pairwise (· ≠ ·) _
    rw [List.pairwise_map]
    refine List.Pairwise.imp (fun {a b} h e => h ?_) (fold_nodup (ws.map sOf) [] List.nodup_nil)
    cases a; cases b; simpa using e
  · intro x hx
    obtain ⟨y, hy, rfl⟩ := List.mem_map.mp hx
    rcases (fold_mem _ _ _).mp hy with hy | hy
    · cases hy
    · obtain ⟨z, hz, rfl⟩ := List.mem_map.mp hy
      simpa [sOf] using hz
inductive TextsP (Q : List (List Nat) → Prop) (vs : List V) : Prop
  | mk (ws : List (List Nat)) (e : vs = [.lst (wsV ws)]) (hl : ws.length ≤ 4000) (h64 : ∀ l : List (List Nat), l.Nodup → (∀ x ∈ l, x ∈ ws) → l.length < 64) (q : ∀ W, Canon W ws → Q W)
/-- sorted(set(e)) of a list of texts -/
theorem e_sortedSet (c : Here cx g d ns b) {e : Expr} {p1 p2 pos1 pos2 : Pos} {Q : V → Env' → Prop} (e1 : nsIn g.K mainGlobals ("sorted" : Str) = some none) (e2 : nsIn g.K mainGlobals ("set" : Str) = some none) (m1 : (("sorted" : Str), NameKind.globalImplicit) ∈ ns) (m2 : (("set" : Str), NameKind.globalImplicit) ∈ ns)
    (h : Evs cx pos2 [e] ρ fun vs ρ₁ => TextsP (fun W => Q (.lst (wsV W)) ρ₁) vs)
    (he : starEach [Expr.Call (.Name "set" p2) [e] [] pos2] cx.env = (false, eval (Expr.Call (.Name "set" p2) [e] [] pos2) cx.env) :: starEach [] cx.env := by rfl)
    (hp1 : (backTo pos1 (starEach [Expr.Call (.Name "set" p2) [e] [] pos2] cx.env)).any (·.1) = false := by rfl) (hp2 : (backTo pos2 (starEach [e] cx.env)).any (·.1) = false := by rfl) :
    Ev cx (.Call (.Name "sorted" p1) [.Call (.Name "set" p2) [e] [] pos2] [] pos1) ρ Q := fun H vr s K i k => by
  have hA := c.ok.handled
  refine wpAny_Call_NameR (load_built c i m1 e1 (v := .builtin "sorted") rfl (by decide) (callWith_args (P := fun _ => True) (fun h _ => machine_keeps rfl) ?_ hp1))
  refine wpAny_items_cons (wpAny_Call_NameR (load_built c i m2 e2 (v := .type "set") rfl (by decide) (callWith_built rfl h i (fun xs s1 vs H1 ρ1 l1 i1 r1 ⟨ws, ev, hws, h64, q⟩ => ?_) hp2))) he
  subst ev
  refine r1.on1 fun x rx => ?_
  refine rx.onLst fun a its n h1 t1 => ?_
  refine call_setX (ss := ws.map sOf) hA ⟨_, i1.keepH _ _ h1, rfl, n, rfl⟩ (strsAre_wsV t1) (by rw [List.length_map]; unfold scanBound; lia) fun h2 tk2 hS k2 => wpAny_items_nil ⟨trivial, ?_⟩
  refine sorted_set (s := { s1 with heap := h2, toks := tk2 }) hA hS (few_texts h64) fun h3 dr tk3 L out ss e3 k3 hL hout hs hp hw => ?_
  obtain ⟨W, rfl, hC⟩ := canon_of hp hw
  exact ((i1.ext (t := tk2) k2).drew dr).born (t := tk3) k3 hL hout fun H3 l3 i3 e3' => k _ _ _ H3 ρ1 (l1.trans l3) i3 (.lst (its := out.toList) (n := e3) (e3'.trans (by simp)) (reps_wsV hs)) (q W hC)

-- lists of texts
theorem sOf_len' (l : List Nat) : (sOf l).length = l.length := List.size_toArray
theorem b_list_lst {vs : List V} (hl : vs.length ≤ 100000) (h : Q' (.lst vs)) : Op cx [.lst vs] (fun xs => call (.type "list") xs) Q' := fun H ρ vr s xs K i r k => r.on1 fun x r => r.onLst fun a its n h1 t =>
  call_list_seq a (T := "list") (.inl rfl) (i.keepH _ _ h1) rfl rfl (fun h' c' hk ho => i.born (t := s.toks) hk (Heap.get?_none_of_le (Nat.le_refl _)) ho fun H' l' i' e => k _ _ _ H' l' i' (.lst e (t.mono l')) h) (t.sz hl)
theorem b_list_str (c : Here cx g d ns b) {x : List Nat} (hl : x.length ≤ 1000) (h : Q' (.lst (wsV (x.map fun k => [k])))) : Op cx [.str (sOf x)] (fun xs => call (.type "list") xs) Q' := fun H ρ vr s xs K i r k => r.on1 fun y r => r.onStr fun t => by
  refine call_list_str c.ok.handled (sOf x) t (fun h' tk acc' c' hk ho hI => ?_) (Nat.le_trans (Nat.le_of_eq (sOf_len' x)) (Nat.le_trans hl (by decide)))
  refine i.born (t := tk) hk (Heap.get?_none_of_le (Nat.le_refl _)) ho fun H' l' i' e => k _ _ _ H' l' i' (.lst (its := acc'.toList) (n := c') (e.trans (by simp)) (Reps.of (by simp [hI.1, sOf]) fun j y v h1 h2 => ?_)) h
  obtain ⟨k, u, e1, rfl⟩ := hI.2 j y (by rw [← Array.getElem?_toList]; exact h1)
  have e1' : x[j]? = some k := by simpa [sOf] using e1
  simp [e1'] at h2
  subst h2
  exact .str
theorem o_add_sOf {a b : List Nat} (ha : a.length ≤ 1000) (hb : b.length ≤ 1000) (h : Q' (.str (sOf (a ++ b)))) : Op2 cx .Add (.str (sOf a)) (.str (sOf b)) Q' :=
  o_add_str (by rw [sOf_len', sOf_len', sizeLine_eq]; lia) ((show sOf a ++ sOf b = sOf (a ++ b) from congrArg Str.mk (List.append_toArray ..)) ▸ h)
/-- a short text, turned -/
theorem picked_rev (l : List Nat) (t : Tok) {tk : Tok} (h : l.length ≤ 3) : sliceMade (sOf l) t none none (some (-1, tk)) = .str (sOf l.reverse) := by
  obtain _ | ⟨a, _ | ⟨b, _ | ⟨c, _ | ⟨d, l⟩⟩⟩⟩ := l
  · kernel_rfl
  · kernel_rfl
  · kernel_rfl
  · kernel_rfl
  · simp at h
inductive RevP (l : List Nat) (Q : Prop) (u : V) : Prop
  | mk (e : u = .int (-1)) (q : Q)
theorem e_rev (c : Here cx g d ns b) {value st : Expr} {p pos : Pos} {Q : V → Env' → Prop} (h : Ev cx value ρ fun v ρ₁ => ∃ l, v = .str (sOf l) ∧ l.length ≤ 3 ∧ Ev cx st ρ₁ fun u ρ₂ => u = .int (-1) ∧ Q (.str (sOf l.reverse)) ρ₂)
    (ht : ∀ o r, letTemporaryGo value o r = pure () := by intro _ _; rfl) : Ev cx (.Subscript value (.Slice none none (some st) p) pos) ρ Q := fun H vr s K i k => by
  refine wpAny_Subscript_Slice_step (T := "str") PySem.F.slot_str_getitem.lookup (h H vr s _ i fun x s1 v H1 ρ1 l1 i1 r1 ⟨l, ev, hl, q⟩ => wpAny_Slice ?_) ht
  subst ev
  refine r1.onStr fun t => ?_
  rw [evalPart_none, evalPart_some]
  refine wpAny_pure (wpAny_pure (q H1 vr s1 _ i1 fun y s2 u H2 ρ2 l2 i2 r2 ⟨eu, q⟩ => ?_))
  subst eu
  refine r2.onInt fun tk => ?_
  refine ⟨typeIs_str _ _ t, wpAny_getItem_str_slice (l := none) (u := none) (st := some (-1, tk)) ⟨_, Heap.get?_push_size _ rfl, rfl, rfl⟩ rfl ?_⟩
  rw [picked_rev l t hl]
  exact ⟨Nat.le_trans (Nat.le_of_eq (sOf_len' _)) (Nat.le_trans (Nat.le_of_eq List.length_reverse) (Nat.le_trans hl (by decide))), k _ _ _ H2 ρ2 (l1.trans l2) (i2.push (t := s2.toks + 1) _) .str q⟩
/-- few texts, in order -/
theorem b_sortedW {ws : List (List Nat)} (hl : ws.length < 64) (h : ∀ W : List (List Nat), W.Perm ws → W.Pairwise (· ≤ ·) → Q' (.lst (wsV W))) : Op cx [.lst (wsV ws)] (fun xs => call (.builtin "sorted") xs) Q' := fun H ρ vr s xs K i r k => r.on1 fun x r => by
  refine r.onLst fun a its n h1 t => ?_
  have hS := strsAre_wsV t
  refine sorted_strs (ss := ws.map sOf) ⟨_, i.keepH _ _ h1, rfl, n, rfl⟩ hS (by rw [hS.length, List.length_map]; exact hl) fun out ss' a1 a2 a3 => ?_
  obtain ⟨e, he⟩ := sortedAll_at s.heap its out
  obtain ⟨W, rfl, hp⟩ : ∃ W : List (List Nat), ss' = W.map sOf ∧ W.Perm ws := by
    refine ⟨ss'.map fun x => x.cps.toList, ?_, ?_⟩
    · rw [List.map_map]
      conv => lhs; rw [← List.map_id ss']
      exact List.map_congr_left fun x _ => (sOf_toList x).symm
    · have := a2.map fun x : Str => x.cps.toList
      rw [List.map_map] at this
      conv at this => rhs; rw [show (fun x : Str => x.cps.toList) ∘ sOf = id by funext l; simp [sOf], List.map_id]
      exact this
  have hw := sortedS_pw _ a3
  rw [List.pairwise_map] at hw
  exact i.born (t := s.toks) (fun b o e => sortedAll_old e) (Heap.get?_none_of_le (Nat.le_succ _)) he fun H' l' i' e' => k _ _ _ H' l' i' (.lst (its := out.toList) (n := e) (e'.trans (by simp)) (reps_wsV a1)) (h W hp (hw.imp fun {a b} q => by simpa [sOf] using q))

-- «and» as a value
theorem e_and1 {e : Expr} {pos : Pos} {Q : V → Env' → Prop} (h : Ev cx e ρ Q) : Ev cx (.BoolOp .And [e] pos) ρ Q := fun H vr s K i k => BoolOp_one (h H vr s K i k)
theorem e_and2 {e1 e2 : Expr} {rest : List Expr} {pos : Pos} {Q : V → Env' → Prop} (h : Ev cx e1 ρ fun v ρ₁ => v = .bool true ∧ Ev cx (.BoolOp .And (e2 :: rest) pos) ρ₁ Q) : Ev cx (.BoolOp .And (e1 :: e2 :: rest) pos) ρ Q := fun H vr s K i k =>
  BoolOp_and (h H vr s _ i fun x s1 v H1 ρ1 l1 i1 r1 ⟨e, q⟩ => (show Rep H1 x (.bool true) from e ▸ r1).onBool (wpAny_truthy_bool (by
    rw [if_pos rfl]
    exact q H1 vr s1 K i1 (k.le l1))))
end
end Mine

end
section
-- D23
open PySem PySem.W PySem.Calls PyProof.Rows
set_option Elab.async false
set_option linter.all false
set_option maxRecDepth 100000
set_option maxHeartbeats 4000000
set_option genInjectivity false
set_option genSizeOfSpec false
namespace Mine
section
variable {cx : Cx} {g : Gl} {d : Nat} {ns : Names} {b : Bool} {ρ : Env'}
inductive TripP (Q : V → V → V → Prop) (v : V) : Prop
  | mk (u w o : V) (e : v = .tup [u, w, o]) (q : Q u w o)
theorem swap3_yes (c : Here cx g d ns b) {x y z : Str} {p q r t r' : Pos} {k k' : Nat} {e1 e2 e3 : Expr} (hx : (x, NameKind.local) ∈ ns) (hy : (y, NameKind.local) ∈ ns) (hz : (z, NameKind.local) ∈ ns) (hq : (q.line == p.line) = true) (hr : (r.line == p.line) = true)
    (hxy : ([x, y, z].eraseDups.length != 3) = false) (h1 : ([e1, e2, e3].any fun | .Starred .. => true | _ => false) = false) (h2 : [e1, e2, e3].all (foldedForSure 8) = false) (h3 : [e1, e2, e3].all (constantsAlone 8) = false) :
    swappedStores [.Tuple [.Name x p, .Name y q, .Name z r] k t] (.Tuple [e1, e2, e3] k' r') cx.env = pure (some [x, y, z]) := by
  have b1 := blk c.ok
  have kx := c.ok.kLocal x (c.names.symm ▸ hx)
  have ky := c.ok.kLocal y (c.names.symm ▸ hy)
  have kz := c.ok.kLocal z (c.names.symm ▸ hz)
  have hlp : (p.line == p.line) = true := by simp
  unfold swappedStores
  dsimp only
  refine (if_neg (by rw [b1]; simp)).trans ?_
  refine (if_neg (by rw [Bool.not_eq_true]; exact h1)).trans ?_
  simp only [List.filterMap_cons, List.filterMap_nil, kx, ky, kz, List.head?_cons, Option.map_some, Option.getD_some, show (Expr.Name x p).pos = p from rfl, hlp, hq, hr, beq_self_eq_true, Bool.and_self, Bool.and_true, if_true]
  refine (if_neg (by rw [Bool.not_eq_true]; exact hxy)).trans ?_
  rw [h2, h3]
  rfl
theorem x_swap3 (c : Here cx g d ns b) {x y z : Str} {e1 e2 e3 : Expr} {p q r t r' pos : Pos} {k k' : Nat} {Qn : Env' → Prop} {Qr : R → Env' → Prop} (hx : (x, NameKind.local) ∈ ns) (hy : (y, NameKind.local) ∈ ns) (hz : (z, NameKind.local) ∈ ns) (hq : (q.line == p.line) = true) (hr : (r.line == p.line) = true)
    (hxy : ([x, y, z].eraseDups.length != 3) = false) (h1 : ([e1, e2, e3].any fun | .Starred .. => true | _ => false) = false) (h2 : [e1, e2, e3].all (foldedForSure 8) = false) (h3 : [e1, e2, e3].all (constantsAlone 8) = false)
    (h : Ev cx (.Tuple [e1, e2, e3] k' r') ρ fun v ρ₁ => TripP (fun u w o => Bind ns b z (.val o) ρ₁ fun ρ₂ => Bind ns b y (.val w) ρ₂ fun ρ₃ => Bind ns b x (.val u) ρ₃ Qn) v)
    (hs : swapsWithSole [.Tuple [.Name x p, .Name y q, .Name z r] k t] (.Tuple [e1, e2, e3] k' r') pos.line cx.env = pure false := by rfl) : Ex1 cx (.Assign [.Tuple [.Name x p, .Name y q, .Name z r] k t] (.Tuple [e1, e2, e3] k' r') pos) ρ Qn Qr := fun H vr s K i kn kr =>
  PyProof.Rows.Assign_Tuple_swapped (h H vr s _ i fun zz s1 v H1 ρ1 l1 i1 r1 ⟨u, w, o, e, hb⟩ => by
    subst e
    refine r1.onTup fun a its n hH hr => ?_
    obtain ⟨x1, _, rfl, r1, hr⟩ := hr
    refine Reps.on2 (v := w) (w := o) (Ps := fun its => H1 a = some (tupO (x1 :: its) n) → _) hr (fun x2 x3 r2 r3 hH => ?_) hH
    refine unpackItems_tuple (items := #[x1, x2, x3]) c.ok.handled ⟨_, i1.keepH _ _ hH, rfl, n, rfl⟩ fun h' hk => ?_
    refine wpAny_assignInOrder_more (t := bindName cx.env z) (wpAny_bindName (bind_store c (i1.extBut (t := s1.toks) (Off.new i1) fun b o hb e => hk b o hb e) hb r3 fun s3 ρ3 vr3 i3 h3 => ?_))
    refine wpAny_assignInOrder_more (t := bindName cx.env y) (wpAny_bindName (bind_store c i3 h3 r2 fun s4 ρ4 vr4 i4 h4 => ?_))
    exact wpAny_assignInOrder_more (t := bindName cx.env x) (wpAny_bindName (bind_store c i4 h4 r1 fun s5 ρ5 vr5 i5 h5 => wpAny_assignInOrder_none (kn s5 H1 ρ5 vr5 l1 i5 h5)))) hs (swap3_yes c hx hy hz hq hr hxy h1 h2 h3)
end
end Mine

end
section
-- EB
open PySem PySem.W PySem.Calls PyProof.Rows
set_option Elab.async false
set_option linter.all false
set_option maxRecDepth 100000
set_option maxHeartbeats 4000000
set_option genInjectivity false
set_option genSizeOfSpec false
namespace Mine
noncomputable def kv (P : Params) (x : Str) (t : Tok) (v : Value) : DictEntry := { hash := PyData.keyHash P x, key := .str x t, val := v }
noncomputable def stAt (i : Nat) : Option Stmt := PySem.Challenge.pw_pq0574_01.main.body[i]?
noncomputable def inCls (o : Option Stmt) (j : Nat) : Option Stmt := match o with
  | some (.ClassDef _ _ _ body _ _ _ _ _ _ _) => body[j]?
  | _ => none
noncomputable def fnO (o : Option Stmt) (q : Str) (m : Value) (c : Addr) (an : Option Addr) : Obj := match o with
  | some (.FunctionDef name args body _ _ _ scope _ _ _) => { cls := .type "function", data := .func { name := name, qualname := q, params := args, body := .stmts body, scope := scope, globals := 3, closure := [], defaults := .none, kwdefaults := .none, pyModule := m, annotations := an, code := .ref c } }
  | _ => { cls := .none }
noncomputable def KK (P : Params) : Frag := [
(2, { cls := .none, data := .dict #[kv P "type.__subclasses__.Exception.0" 230 (.int 46 0), kv P "type.__subclasses__.Exception.n" 231 (.int 1 0)] 2 }),
(3, { cls := .type "dict", data := .dict #[kv P "__name__" 165 (.str "law_pq0574_01" 957), kv P "__doc__" 166 (.none), kv P "__package__" 167 (.none), kv P "__loader__" 168 (.builtin "__main__.__loader__#opaque"), kv P "__spec__" 169 (.none), kv P "__annotations__" 170 (.ref 6), kv P "__builtins__" 171 (.ref 4), kv P "__file__" 173 (.str "/claim/cut.py" 172), kv P "__cached__" 174 (.none), kv P "_wall" 193 (.ref 21), kv P "ToolError" 233 (.ref 46), kv P "RegexError" 249 (.ref 59), kv P "MOST_REPEAT" 253 (.int 40 252), kv P "Node" 289 (.ref 85), kv P "Empty" 307 (.ref 99), kv P "Never" 325 (.ref 111), kv P "Chars" 359 (.ref 137), kv P "Pair" 403 (.ref 170), kv P "Cat" 421 (.ref 182), kv P "Alt" 439 (.ref 194), kv P "Loop" 478 (.ref 227), kv P "Star" 496 (.ref 239), kv P "Plus" 514 (.ref 251), kv P "Opt" 532 (.ref 263), kv P "Repeat" 569 (.ref 289), kv P "spine" 578 (.ref 298), kv P "cat_all" 587 (.ref 305), kv P "alt_all" 596 (.ref 312), kv P "can_be_empty" 606 (.ref 319), kv P "least_length" 617 (.ref 326), kv P "most_length" 627 (.ref 333), kv P "most_of_row" 638 (.ref 340), kv P "most_of_loop" 648 (.ref 347), kv P "fixed_length" 656 (.ref 354), kv P "least_word" 667 (.ref 361), kv P "charsets" 673 (.ref 366), kv P "node_count" 684 (.ref 373), kv P "loop_like" 692 (.ref 380), kv P "mirrored" 698 (.ref 385), kv P "TOP" 702 (.int 127 701), kv P "CharSet" 956 (.ref 551), kv P "_law_pen" 964 (.ref 560), kv P "_law_draw" 977 (.ref 567), kv P "_law_tree" 989 (.ref 574), kv P "_law_node" 995 (.ref 579), kv P "_law_bounds" 1003 (.ref 586), kv P "_law_ends" 1017 (.ref 593), kv P "_law_words" 1023 (.ref 598), kv P "_law_leaves" 1035 (.ref 605), kv P "_law_lengths_right" 1047 (.ref 612), kv P "law" 1053 (.ref 617)] 51 }),
(45, { cls := .type "dict", data := .dict #[kv P "__module__" 203 (.str "grammarmill.source" 194), kv P "__firstlineno__" 207 (.int 5 206), kv P "__init__" 216 (.ref 36), kv P "told" 223 (.ref 43), kv P "__static_attributes__" 226 (.ref 44), kv P "__weakref__" 228 (.ref 47), kv P "__doc__" 229 (.none)] 3 }),
(46, { cls := .type "type", data := .cls { name := "ToolError", bases := [.type "Exception"], mro := [.ref 46, .type "Exception", .type "BaseException", .type "object"], ns := 45, qualname := "ToolError", subclasses := [.ref 59] }, slots := #[some (.ref 22), none, some (.str "ToolError" 196), some (.str "ToolError" 204), some (.builtin "Exception.__new__"), some (.bool true)] }),
(47, { cls := .type "getset_descriptor", data := .fields #[.str "__weakref__" 227, .ref 46, .builtin "ExceptionGroup.__weakref__", .none] }),
(58, { cls := .type "dict", data := .dict #[kv P "__module__" 241 (.str "grammarmill.source" 194), kv P "__firstlineno__" 245 (.int 16 244), kv P "__static_attributes__" 246 (.ref 57), kv P "__doc__" 247 (.none)] 2 }),
(59, { cls := .type "type", data := .cls { name := "RegexError", bases := [.ref 46], mro := [.ref 59, .ref 46, .type "Exception", .type "BaseException", .type "object"], ns := 58, qualname := "RegexError" }, slots := #[some (.ref 50), none, some (.str "RegexError" 234), some (.str "RegexError" 242), some (.builtin "Exception.__new__"), some (.bool true)] }),
(74, { cls := .type "code", data := .fields #[.str "parts" 268, .str "Node.parts" 269, .str "/claim/cut.py" 270, .int 23 0, .int 1 0, .int 0 0, .int 0 0, .int 3 0, .ref 69, .bool true, .int 181 0, .ref 70, .none, .ref 71, .ref 72, .ref 73, .int 272 0, .int 23 0, .str "/claim/cut.py" 273] }),
(75, fnO (inCls (stAt 6) 1) "Node.parts" (.str "grammarmill.regex" 250) 74 none),
(81, { cls := .type "code", data := .fields #[.str "told" 275, .str "Node.told" 276, .str "/claim/cut.py" 277, .int 26 0, .int 1 0, .int 0 0, .int 0 0, .int 3 0, .ref 76, .bool true, .int 181 0, .ref 77, .none, .ref 78, .ref 79, .ref 80, .int 279 0, .int 26 0, .str "/claim/cut.py" 280] }),
(82, fnO (inCls (stAt 6) 2) "Node.told" (.str "grammarmill.regex" 250) 81 none),
(84, { cls := .type "dict", data := .dict #[kv P "__module__" 261 (.str "grammarmill.regex" 250), kv P "__firstlineno__" 265 (.int 20 264), kv P "name" 267 (.str "node" 266), kv P "parts" 274 (.ref 75), kv P "told" 281 (.ref 82), kv P "__static_attributes__" 282 (.ref 83), kv P "__dict__" 284 (.ref 86), kv P "__weakref__" 286 (.ref 87), kv P "__doc__" 287 (.none)] 4 }),
(85, { cls := .type "type", data := .cls { name := "Node", bases := [.type "object"], mro := [.ref 85, .type "object"], ns := 84, qualname := "Node", subclasses := [.ref 99, .ref 111, .ref 137, .ref 170, .ref 227] }, slots := #[none, none, some (.str "Node" 254), some (.str "Node" 262), some (.builtin "object.__new__"), some (.bool true)] }),
(86, { cls := .type "getset_descriptor", data := .fields #[.str "__dict__" 283, .ref 85, .builtin "function.__dict__", .builtin "function.__dict__#set"] }),
(87, { cls := .type "getset_descriptor", data := .fields #[.str "__weakref__" 285, .ref 85, .builtin "ExceptionGroup.__weakref__", .none] }),
(98, { cls := .type "dict", data := .dict #[kv P "__module__" 297 (.str "grammarmill.regex" 250), kv P "__firstlineno__" 301 (.int 28 300), kv P "name" 303 (.str "empty" 302), kv P "__static_attributes__" 304 (.ref 97), kv P "__doc__" 305 (.none)] 2 }),
(99, { cls := .type "type", data := .cls { name := "Empty", bases := [.ref 85], mro := [.ref 99, .ref 85, .type "object"], ns := 98, qualname := "Empty" }, slots := #[some (.ref 90), none, some (.str "Empty" 290), some (.str "Empty" 298), some (.builtin "object.__new__"), some (.bool true)] }),
(110, { cls := .type "dict", data := .dict #[kv P "__module__" 315 (.str "grammarmill.regex" 250), kv P "__firstlineno__" 319 (.int 30 318), kv P "name" 321 (.str "never" 320), kv P "__static_attributes__" 322 (.ref 109), kv P "__doc__" 323 (.none)] 2 }),
(111, { cls := .type "type", data := .cls { name := "Never", bases := [.ref 85], mro := [.ref 111, .ref 85, .type "object"], ns := 110, qualname := "Never" }, slots := #[some (.ref 102), none, some (.str "Never" 308), some (.str "Never" 316), some (.builtin "object.__new__"), some (.bool true)] }),
(126, { cls := .type "code", data := .fields #[.str "__init__" 340, .str "Chars.__init__" 341, .str "/claim/cut.py" 342, .int 35 0, .int 2 0, .int 0 0, .int 0 0, .int 3 0, .ref 121, .bool true, .int 181 0, .ref 122, .none, .ref 123, .ref 124, .ref 125, .int 345 0, .int 35 0, .str "/claim/cut.py" 346] }),
(127, fnO (inCls (stAt 9) 1) "Chars.__init__" (.str "grammarmill.regex" 250) 126 none),
(133, { cls := .type "code", data := .fields #[.str "told" 348, .str "Chars.told" 349, .str "/claim/cut.py" 350, .int 38 0, .int 1 0, .int 0 0, .int 0 0, .int 3 0, .ref 128, .bool true, .int 181 0, .ref 129, .none, .ref 130, .ref 131, .ref 132, .int 352 0, .int 38 0, .str "/claim/cut.py" 353] }),
(134, fnO (inCls (stAt 9) 2) "Chars.told" (.str "grammarmill.regex" 250) 133 none),
(136, { cls := .type "dict", data := .dict #[kv P "__module__" 333 (.str "grammarmill.regex" 250), kv P "__firstlineno__" 337 (.int 32 336), kv P "name" 339 (.str "chars" 338), kv P "__init__" 347 (.ref 127), kv P "told" 354 (.ref 134), kv P "__static_attributes__" 356 (.ref 135), kv P "__doc__" 357 (.none)] 2 }),
(137, { cls := .type "type", data := .cls { name := "Chars", bases := [.ref 85], mro := [.ref 137, .ref 85, .type "object"], ns := 136, qualname := "Chars" }, slots := #[some (.ref 114), none, some (.str "Chars" 326), some (.str "Chars" 334), some (.builtin "object.__new__"), some (.bool true)] }),
(152, { cls := .type "code", data := .fields #[.str "__init__" 372, .str "Pair.__init__" 373, .str "/claim/cut.py" 374, .int 42 0, .int 3 0, .int 0 0, .int 0 0, .int 3 0, .ref 147, .bool true, .int 181 0, .ref 148, .none, .ref 149, .ref 150, .ref 151, .int 378 0, .int 42 0, .str "/claim/cut.py" 379] }),
(153, fnO (inCls (stAt 10) 0) "Pair.__init__" (.str "grammarmill.regex" 250) 152 none),
(159, { cls := .type "code", data := .fields #[.str "parts" 381, .str "Pair.parts" 382, .str "/claim/cut.py" 383, .int 46 0, .int 1 0, .int 0 0, .int 0 0, .int 3 0, .ref 154, .bool true, .int 181 0, .ref 155, .none, .ref 156, .ref 157, .ref 158, .int 385 0, .int 46 0, .str "/claim/cut.py" 386] }),
(160, fnO (inCls (stAt 10) 1) "Pair.parts" (.str "grammarmill.regex" 250) 159 none),
(166, { cls := .type "code", data := .fields #[.str "told" 388, .str "Pair.told" 389, .str "/claim/cut.py" 390, .int 49 0, .int 1 0, .int 0 0, .int 0 0, .int 3 0, .ref 161, .bool true, .int 181 0, .ref 162, .none, .ref 163, .ref 164, .ref 165, .int 395 0, .int 49 0, .str "/claim/cut.py" 396] }),
(167, fnO (inCls (stAt 10) 2) "Pair.told" (.str "grammarmill.regex" 250) 166 none),
(169, { cls := .type "dict", data := .dict #[kv P "__module__" 367 (.str "grammarmill.regex" 250), kv P "__firstlineno__" 371 (.int 40 370), kv P "__init__" 380 (.ref 153), kv P "parts" 387 (.ref 160), kv P "told" 397 (.ref 167), kv P "__static_attributes__" 400 (.ref 168), kv P "__doc__" 401 (.none)] 2 }),
(170, { cls := .type "type", data := .cls { name := "Pair", bases := [.ref 85], mro := [.ref 170, .ref 85, .type "object"], ns := 169, qualname := "Pair", subclasses := [.ref 182, .ref 194] }, slots := #[some (.ref 140), none, some (.str "Pair" 360), some (.str "Pair" 368), some (.builtin "object.__new__"), some (.bool true)] }),
(181, { cls := .type "dict", data := .dict #[kv P "__module__" 411 (.str "grammarmill.regex" 250), kv P "__firstlineno__" 415 (.int 55 414), kv P "name" 417 (.str "cat" 416), kv P "__static_attributes__" 418 (.ref 180), kv P "__doc__" 419 (.none)] 2 }),
(182, { cls := .type "type", data := .cls { name := "Cat", bases := [.ref 170], mro := [.ref 182, .ref 170, .ref 85, .type "object"], ns := 181, qualname := "Cat" }, slots := #[some (.ref 173), none, some (.str "Cat" 404), some (.str "Cat" 412), some (.builtin "object.__new__"), some (.bool true)] }),
(193, { cls := .type "dict", data := .dict #[kv P "__module__" 429 (.str "grammarmill.regex" 250), kv P "__firstlineno__" 433 (.int 57 432), kv P "name" 435 (.str "alt" 434), kv P "__static_attributes__" 436 (.ref 192), kv P "__doc__" 437 (.none)] 2 }),
(194, { cls := .type "type", data := .cls { name := "Alt", bases := [.ref 170], mro := [.ref 194, .ref 170, .ref 85, .type "object"], ns := 193, qualname := "Alt" }, slots := #[some (.ref 185), none, some (.str "Alt" 422), some (.str "Alt" 430), some (.builtin "object.__new__"), some (.bool true)] }),
(209, { cls := .type "code", data := .fields #[.str "__init__" 452, .str "Loop.__init__" 453, .str "/claim/cut.py" 454, .int 61 0, .int 2 0, .int 0 0, .int 0 0, .int 3 0, .ref 204, .bool true, .int 181 0, .ref 205, .none, .ref 206, .ref 207, .ref 208, .int 457 0, .int 61 0, .str "/claim/cut.py" 458] }),
(210, fnO (inCls (stAt 13) 0) "Loop.__init__" (.str "grammarmill.regex" 250) 209 none),
(216, { cls := .type "code", data := .fields #[.str "parts" 460, .str "Loop.parts" 461, .str "/claim/cut.py" 462, .int 64 0, .int 1 0, .int 0 0, .int 0 0, .int 3 0, .ref 211, .bool true, .int 181 0, .ref 212, .none, .ref 213, .ref 214, .ref 215, .int 464 0, .int 64 0, .str "/claim/cut.py" 465] }),
(217, fnO (inCls (stAt 13) 1) "Loop.parts" (.str "grammarmill.regex" 250) 216 none),
(223, { cls := .type "code", data := .fields #[.str "told" 467, .str "Loop.told" 468, .str "/claim/cut.py" 469, .int 67 0, .int 1 0, .int 0 0, .int 0 0, .int 3 0, .ref 218, .bool true, .int 181 0, .ref 219, .none, .ref 220, .ref 221, .ref 222, .int 471 0, .int 67 0, .str "/claim/cut.py" 472] }),
(224, fnO (inCls (stAt 13) 2) "Loop.told" (.str "grammarmill.regex" 250) 223 none),
(226, { cls := .type "dict", data := .dict #[kv P "__module__" 447 (.str "grammarmill.regex" 250), kv P "__firstlineno__" 451 (.int 59 450), kv P "__init__" 459 (.ref 210), kv P "parts" 466 (.ref 217), kv P "told" 473 (.ref 224), kv P "__static_attributes__" 475 (.ref 225), kv P "__doc__" 476 (.none)] 2 }),
(227, { cls := .type "type", data := .cls { name := "Loop", bases := [.ref 85], mro := [.ref 227, .ref 85, .type "object"], ns := 226, qualname := "Loop", subclasses := [.ref 239, .ref 251, .ref 263, .ref 289] }, slots := #[some (.ref 197), none, some (.str "Loop" 440), some (.str "Loop" 448), some (.builtin "object.__new__"), some (.bool true)] }),
(238, { cls := .type "dict", data := .dict #[kv P "__module__" 486 (.str "grammarmill.regex" 250), kv P "__firstlineno__" 490 (.int 69 489), kv P "name" 492 (.str "star" 491), kv P "__static_attributes__" 493 (.ref 237), kv P "__doc__" 494 (.none)] 2 }),
(239, { cls := .type "type", data := .cls { name := "Star", bases := [.ref 227], mro := [.ref 239, .ref 227, .ref 85, .type "object"], ns := 238, qualname := "Star" }, slots := #[some (.ref 230), none, some (.str "Star" 479), some (.str "Star" 487), some (.builtin "object.__new__"), some (.bool true)] }),
(250, { cls := .type "dict", data := .dict #[kv P "__module__" 504 (.str "grammarmill.regex" 250), kv P "__firstlineno__" 508 (.int 71 507), kv P "name" 510 (.str "plus" 509), kv P "__static_attributes__" 511 (.ref 249), kv P "__doc__" 512 (.none)] 2 }),
(251, { cls := .type "type", data := .cls { name := "Plus", bases := [.ref 227], mro := [.ref 251, .ref 227, .ref 85, .type "object"], ns := 250, qualname := "Plus" }, slots := #[some (.ref 242), none, some (.str "Plus" 497), some (.str "Plus" 505), some (.builtin "object.__new__"), some (.bool true)] }),
(262, { cls := .type "dict", data := .dict #[kv P "__module__" 522 (.str "grammarmill.regex" 250), kv P "__firstlineno__" 526 (.int 73 525), kv P "name" 528 (.str "opt" 527), kv P "__static_attributes__" 529 (.ref 261), kv P "__doc__" 530 (.none)] 2 }),
(263, { cls := .type "type", data := .cls { name := "Opt", bases := [.ref 227], mro := [.ref 263, .ref 227, .ref 85, .type "object"], ns := 262, qualname := "Opt" }, slots := #[some (.ref 254), none, some (.str "Opt" 515), some (.str "Opt" 523), some (.builtin "object.__new__"), some (.bool true)] }),
(278, { cls := .type "code", data := .fields #[.str "__init__" 547, .str "Repeat.__init__" 548, .str "/claim/cut.py" 549, .int 78 0, .int 4 0, .int 0 0, .int 0 0, .int 3 0, .ref 273, .bool true, .int 181 0, .ref 274, .none, .ref 275, .ref 276, .ref 277, .int 554 0, .int 78 0, .str "/claim/cut.py" 555] }),
(279, fnO (inCls (stAt 17) 1) "Repeat.__init__" (.str "grammarmill.regex" 250) 278 none),
(285, { cls := .type "code", data := .fields #[.str "told" 557, .str "Repeat.told" 558, .str "/claim/cut.py" 559, .int 87 0, .int 1 0, .int 0 0, .int 0 0, .int 3 0, .ref 280, .bool true, .int 181 0, .ref 281, .none, .ref 282, .ref 283, .ref 284, .int 561 0, .int 87 0, .str "/claim/cut.py" 562] }),
(286, fnO (inCls (stAt 17) 2) "Repeat.told" (.str "grammarmill.regex" 250) 285 none),
(288, { cls := .type "dict", data := .dict #[kv P "__module__" 540 (.str "grammarmill.regex" 250), kv P "__firstlineno__" 544 (.int 75 543), kv P "name" 546 (.str "repeat" 545), kv P "__init__" 556 (.ref 279), kv P "told" 563 (.ref 286), kv P "__static_attributes__" 566 (.ref 287), kv P "__doc__" 567 (.none)] 2 }),
(289, { cls := .type "type", data := .cls { name := "Repeat", bases := [.ref 227], mro := [.ref 289, .ref 227, .ref 85, .type "object"], ns := 288, qualname := "Repeat" }, slots := #[some (.ref 266), none, some (.str "Repeat" 533), some (.str "Repeat" 541), some (.builtin "object.__new__"), some (.bool true)] }),
(297, { cls := .type "code", data := .fields #[.str "spine" 570, .str "spine" 571, .str "/claim/cut.py" 572, .int 89 0, .int 1 0, .int 0 0, .int 0 0, .int 3 0, .ref 292, .bool true, .int 181 0, .ref 293, .none, .ref 294, .ref 295, .ref 296, .int 576 0, .int 89 0, .str "/claim/cut.py" 577] }),
(298, fnO (stAt 18) "spine" (.str "grammarmill.regex" 250) 297 none),
(304, { cls := .type "code", data := .fields #[.str "cat_all" 579, .str "cat_all" 580, .str "/claim/cut.py" 581, .int 98 0, .int 1 0, .int 0 0, .int 0 0, .int 3 0, .ref 299, .bool true, .int 181 0, .ref 300, .none, .ref 301, .ref 302, .ref 303, .int 585 0, .int 98 0, .str "/claim/cut.py" 586] }),
(305, fnO (stAt 19) "cat_all" (.str "grammarmill.regex" 250) 304 none),
(311, { cls := .type "code", data := .fields #[.str "alt_all" 588, .str "alt_all" 589, .str "/claim/cut.py" 590, .int 105 0, .int 1 0, .int 0 0, .int 0 0, .int 3 0, .ref 306, .bool true, .int 181 0, .ref 307, .none, .ref 308, .ref 309, .ref 310, .int 594 0, .int 105 0, .str "/claim/cut.py" 595] }),
(312, fnO (stAt 20) "alt_all" (.str "grammarmill.regex" 250) 311 none),
(318, { cls := .type "code", data := .fields #[.str "can_be_empty" 599, .str "can_be_empty" 600, .str "/claim/cut.py" 601, .int 113 0, .int 1 0, .int 0 0, .int 0 0, .int 3 0, .ref 313, .bool true, .int 181 0, .ref 314, .none, .ref 315, .ref 316, .ref 317, .int 604 0, .int 113 0, .str "/claim/cut.py" 605] }),
(319, fnO (stAt 22) "can_be_empty" (.str "grammarmill.regtools" 597) 318 none),
(325, { cls := .type "code", data := .fields #[.str "least_length" 607, .str "least_length" 608, .str "/claim/cut.py" 609, .int 131 0, .int 1 0, .int 0 0, .int 0 0, .int 3 0, .ref 320, .bool true, .int 181 0, .ref 321, .none, .ref 322, .ref 323, .ref 324, .int 615 0, .int 131 0, .str "/claim/cut.py" 616] }),
(326, fnO (stAt 23) "least_length" (.str "grammarmill.regtools" 597) 325 none),
(332, { cls := .type "code", data := .fields #[.str "most_length" 618, .str "most_length" 619, .str "/claim/cut.py" 620, .int 157 0, .int 1 0, .int 0 0, .int 0 0, .int 3 0, .ref 327, .bool true, .int 181 0, .ref 328, .none, .ref 329, .ref 330, .ref 331, .int 625 0, .int 157 0, .str "/claim/cut.py" 626] }),
(333, fnO (stAt 24) "most_length" (.str "grammarmill.regtools" 597) 332 none),
(339, { cls := .type "code", data := .fields #[.str "most_of_row" 628, .str "most_of_row" 629, .str "/claim/cut.py" 630, .int 175 0, .int 1 0, .int 0 0, .int 0 0, .int 3 0, .ref 334, .bool true, .int 181 0, .ref 335, .none, .ref 336, .ref 337, .ref 338, .int 636 0, .int 175 0, .str "/claim/cut.py" 637] }),
(340, fnO (stAt 25) "most_of_row" (.str "grammarmill.regtools" 597) 339 none),
(346, { cls := .type "code", data := .fields #[.str "most_of_loop" 639, .str "most_of_loop" 640, .str "/claim/cut.py" 641, .int 187 0, .int 2 0, .int 0 0, .int 0 0, .int 3 0, .ref 341, .bool true, .int 181 0, .ref 342, .none, .ref 343, .ref 344, .ref 345, .int 646 0, .int 187 0, .str "/claim/cut.py" 647] }),
(347, fnO (stAt 26) "most_of_loop" (.str "grammarmill.regtools" 597) 346 none),
(353, { cls := .type "code", data := .fields #[.str "fixed_length" 649, .str "fixed_length" 650, .str "/claim/cut.py" 651, .int 208 0, .int 1 0, .int 0 0, .int 0 0, .int 3 0, .ref 348, .bool true, .int 181 0, .ref 349, .none, .ref 350, .ref 351, .ref 352, .int 654 0, .int 208 0, .str "/claim/cut.py" 655] }),
(354, fnO (stAt 27) "fixed_length" (.str "grammarmill.regtools" 597) 353 none),
(360, { cls := .type "code", data := .fields #[.str "least_word" 657, .str "least_word" 658, .str "/claim/cut.py" 659, .int 213 0, .int 1 0, .int 0 0, .int 0 0, .int 3 0, .ref 355, .bool true, .int 181 0, .ref 356, .none, .ref 357, .ref 358, .ref 359, .int 665 0, .int 213 0, .str "/claim/cut.py" 666] }),
(361, fnO (stAt 28) "least_word" (.str "grammarmill.regtools" 597) 360 none),
(365, { cls := .type "code", data := .fields #[.str "charsets" 668, .str "charsets" 669, .str "/claim/cut.py" 670, .int 239 0, .int 1 0, .int 0 0, .int 0 0, .int 3 0, .ref 362, .bool true, .int 181 0, .ref 363, .none, .none, .none, .ref 364, .int 671 0, .int 239 0, .str "/claim/cut.py" 672] }),
(366, fnO (stAt 29) "charsets" (.str "grammarmill.regtools" 597) 365 none),
(372, { cls := .type "code", data := .fields #[.str "node_count" 674, .str "node_count" 675, .str "/claim/cut.py" 676, .int 253 0, .int 1 0, .int 0 0, .int 0 0, .int 3 0, .ref 367, .bool true, .int 181 0, .ref 368, .none, .ref 369, .ref 370, .ref 371, .int 682 0, .int 253 0, .str "/claim/cut.py" 683] }),
(373, fnO (stAt 30) "node_count" (.str "grammarmill.regtools" 597) 372 none),
(379, { cls := .type "code", data := .fields #[.str "loop_like" 685, .str "loop_like" 686, .str "/claim/cut.py" 687, .int 262 0, .int 2 0, .int 0 0, .int 0 0, .int 3 0, .ref 374, .bool true, .int 181 0, .ref 375, .none, .ref 376, .ref 377, .ref 378, .int 690 0, .int 262 0, .str "/claim/cut.py" 691] }),
(380, fnO (stAt 31) "loop_like" (.str "grammarmill.regtools" 597) 379 none),
(384, { cls := .type "code", data := .fields #[.str "mirrored" 693, .str "mirrored" 694, .str "/claim/cut.py" 695, .int 270 0, .int 1 0, .int 0 0, .int 0 0, .int 3 0, .ref 381, .bool true, .int 181 0, .ref 382, .none, .none, .none, .ref 383, .int 696 0, .int 270 0, .str "/claim/cut.py" 697] }),
(385, fnO (stAt 32) "mirrored" (.str "grammarmill.regtools" 597) 384 none),
(398, { cls := .type "code", data := .fields #[.str "__init__" 715, .str "CharSet.__init__" 716, .str "/claim/cut.py" 717, .int 284 0, .int 2 0, .int 0 0, .int 0 0, .int 3 0, .ref 393, .bool true, .int 181 0, .ref 394, .none, .ref 395, .ref 396, .ref 397, .int 720 0, .int 284 0, .str "/claim/cut.py" 721] }),
(399, fnO (inCls (stAt 35) 0) "CharSet.__init__" (.str "grammarmill.charset" 699) 398 none),
(407, { cls := .type "dict", data := .dict #[kv P "__module__" 729 (.str "grammarmill.charset" 699), kv P "__name__" 732 (.str "none" 731), kv P "__qualname__" 735 (.str "CharSet.none" 734), kv P "__doc__" 737 (.none), kv P "__annotations__" 739 (.ref 409)] 5 }),
(408, { cls := .type "staticmethod", dict := some 407, data := .fields #[.ref 406, .bool false] }),
(409, { cls := .type "dict", data := .dict #[] }),
(417, { cls := .type "dict", data := .dict #[kv P "__module__" 747 (.str "grammarmill.charset" 699), kv P "__name__" 750 (.str "every" 749), kv P "__qualname__" 753 (.str "CharSet.every" 752), kv P "__doc__" 755 (.none), kv P "__annotations__" 757 (.ref 419)] 5 }),
(418, { cls := .type "staticmethod", dict := some 417, data := .fields #[.ref 416, .bool false] }),
(419, { cls := .type "dict", data := .dict #[] }),
(427, { cls := .type "dict", data := .dict #[kv P "__module__" 765 (.str "grammarmill.charset" 699), kv P "__name__" 768 (.str "dot" 767), kv P "__qualname__" 771 (.str "CharSet.dot" 770), kv P "__doc__" 773 (.none), kv P "__annotations__" 775 (.ref 429)] 5 }),
(428, { cls := .type "staticmethod", dict := some 427, data := .fields #[.ref 426, .bool false] }),
(429, { cls := .type "dict", data := .dict #[] }),
(433, { cls := .type "code", data := .fields #[.str "of" 777, .str "CharSet.of" 778, .str "/claim/cut.py" 779, .int 299 0, .int 1 0, .int 0 0, .int 0 0, .int 3 0, .ref 430, .bool true, .int 181 0, .ref 431, .none, .none, .none, .ref 432, .int 780 0, .int 299 0, .str "/claim/cut.py" 781] }),
(434, fnO (inCls (stAt 35) 4) "CharSet.of" (.str "grammarmill.charset" 699) 433 (some 437)),
(435, { cls := .type "dict", data := .dict #[kv P "__module__" 783 (.str "grammarmill.charset" 699), kv P "__name__" 786 (.str "of" 785), kv P "__qualname__" 789 (.str "CharSet.of" 788), kv P "__doc__" 791 (.none), kv P "__annotations__" 793 (.ref 437)] 5 }),
(436, { cls := .type "staticmethod", dict := some 435, data := .fields #[.ref 434, .bool false] }),
(437, { cls := .type "dict", data := .dict #[] }),
(445, { cls := .type "dict", data := .dict #[kv P "__module__" 803 (.str "grammarmill.charset" 699), kv P "__name__" 806 (.str "span" 805), kv P "__qualname__" 809 (.str "CharSet.span" 808), kv P "__doc__" 811 (.none), kv P "__annotations__" 813 (.ref 447)] 5 }),
(446, { cls := .type "staticmethod", dict := some 445, data := .fields #[.ref 444, .bool false] }),
(447, { cls := .type "dict", data := .dict #[] }),
(453, { cls := .type "code", data := .fields #[.str "made" 815, .str "CharSet.made" 816, .str "/claim/cut.py" 817, .int 307 0, .int 1 0, .int 0 0, .int 0 0, .int 3 0, .ref 448, .bool true, .int 181 0, .ref 449, .none, .ref 450, .ref 451, .ref 452, .int 825 0, .int 307 0, .str "/claim/cut.py" 826] }),
(454, fnO (inCls (stAt 35) 6) "CharSet.made" (.str "grammarmill.charset" 699) 453 (some 457)),
(455, { cls := .type "dict", data := .dict #[kv P "__module__" 828 (.str "grammarmill.charset" 699), kv P "__name__" 831 (.str "made" 830), kv P "__qualname__" 834 (.str "CharSet.made" 833), kv P "__doc__" 836 (.none), kv P "__annotations__" 838 (.ref 457)] 5 }),
(456, { cls := .type "staticmethod", dict := some 455, data := .fields #[.ref 454, .bool false] }),
(457, { cls := .type "dict", data := .dict #[] }),
(477, { cls := .type "code", data := .fields #[.str "codes" 863, .str "CharSet.codes" 864, .str "/claim/cut.py" 865, .int 344 0, .int 1 0, .int 0 0, .int 0 0, .int 3 0, .ref 472, .bool true, .int 181 0, .ref 473, .none, .ref 474, .ref 475, .ref 476, .int 870 0, .int 344 0, .str "/claim/cut.py" 871] }),
(478, fnO (inCls (stAt 35) 9) "CharSet.codes" (.str "grammarmill.charset" 699) 477 none),
(484, { cls := .type "code", data := .fields #[.str "least" 873, .str "CharSet.least" 874, .str "/claim/cut.py" 875, .int 350 0, .int 1 0, .int 0 0, .int 0 0, .int 3 0, .ref 479, .bool true, .int 181 0, .ref 480, .none, .ref 481, .ref 482, .ref 483, .int 877 0, .int 350 0, .str "/claim/cut.py" 878] }),
(485, fnO (inCls (stAt 35) 10) "CharSet.least" (.str "grammarmill.charset" 699) 484 none),
(491, { cls := .type "code", data := .fields #[.str "is_empty" 880, .str "CharSet.is_empty" 881, .str "/claim/cut.py" 882, .int 355 0, .int 1 0, .int 0 0, .int 0 0, .int 3 0, .ref 486, .bool true, .int 181 0, .ref 487, .none, .ref 488, .ref 489, .ref 490, .int 884 0, .int 355 0, .str "/claim/cut.py" 885] }),
(492, fnO (inCls (stAt 35) 11) "CharSet.is_empty" (.str "grammarmill.charset" 699) 491 none),
(547, { cls := .type "code", data := .fields #[.str "key" 941, .str "CharSet.key" 942, .str "/claim/cut.py" 943, .int 379 0, .int 1 0, .int 0 0, .int 0 0, .int 3 0, .ref 542, .bool true, .int 181 0, .ref 543, .none, .ref 544, .ref 545, .ref 546, .int 945 0, .int 379 0, .str "/claim/cut.py" 946] }),
(548, fnO (inCls (stAt 35) 19) "CharSet.key" (.str "grammarmill.charset" 699) 547 none),
(550, { cls := .type "dict", data := .dict #[kv P "__module__" 710 (.str "grammarmill.charset" 699), kv P "__firstlineno__" 714 (.int 282 713), kv P "__init__" 722 (.ref 399), kv P "none" 740 (.ref 408), kv P "every" 758 (.ref 418), kv P "dot" 776 (.ref 428), kv P "of" 794 (.ref 436), kv P "span" 814 (.ref 446), kv P "made" 839 (.ref 456), kv P "has" 852 (.ref 464), kv P "size" 862 (.ref 471), kv P "codes" 872 (.ref 478), kv P "least" 879 (.ref 485), kv P "is_empty" 886 (.ref 492), kv P "union" 894 (.ref 499), kv P "meet" 902 (.ref 506), kv P "complement" 909 (.ref 513), kv P "minus" 917 (.ref 520), kv P "same" 925 (.ref 527), kv P "meets" 933 (.ref 534), kv P "folded" 940 (.ref 541), kv P "key" 947 (.ref 548), kv P "__static_attributes__" 949 (.ref 549), kv P "__dict__" 951 (.ref 552), kv P "__weakref__" 953 (.ref 553), kv P "__doc__" 954 (.none)] 4 }),
(551, { cls := .type "type", data := .cls { name := "CharSet", bases := [.type "object"], mro := [.ref 551, .type "object"], ns := 550, qualname := "CharSet" }, slots := #[none, none, some (.str "CharSet" 703), some (.str "CharSet" 711), some (.builtin "object.__new__"), some (.bool true)] }),
(552, { cls := .type "getset_descriptor", data := .fields #[.str "__dict__" 950, .ref 551, .builtin "function.__dict__", .builtin "function.__dict__#set"] }),
(553, { cls := .type "getset_descriptor", data := .fields #[.str "__weakref__" 952, .ref 551, .builtin "ExceptionGroup.__weakref__", .none] }),
(559, { cls := .type "code", data := .fields #[.str "_law_pen" 959, .str "_law_pen" 960, .str "/claim/cut.py" 961, .int 382 0, .int 1 0, .int 0 0, .int 0 0, .int 3 0, .ref 556, .bool true, .int 181 0, .ref 557, .none, .none, .none, .ref 558, .int 962 0, .int 382 0, .str "/claim/cut.py" 963] }),
(560, fnO (stAt 37) "_law_pen" (.str "law_pq0574_01" 957) 559 none),
(566, { cls := .type "code", data := .fields #[.str "_law_draw" 965, .str "_law_draw" 966, .str "/claim/cut.py" 967, .int 384 0, .int 2 0, .int 0 0, .int 0 0, .int 3 0, .ref 561, .bool true, .int 181 0, .ref 562, .none, .ref 563, .ref 564, .ref 565, .int 975 0, .int 384 0, .str "/claim/cut.py" 976] }),
(567, fnO (stAt 38) "_law_draw" (.str "law_pq0574_01" 957) 566 none),
(573, { cls := .type "code", data := .fields #[.str "_law_tree" 978, .str "_law_tree" 979, .str "/claim/cut.py" 980, .int 400 0, .int 3 0, .int 0 0, .int 0 0, .int 3 0, .ref 568, .bool true, .int 181 0, .ref 569, .none, .ref 570, .ref 571, .ref 572, .int 987 0, .int 400 0, .str "/claim/cut.py" 988] }),
(574, fnO (stAt 39) "_law_tree" (.str "law_pq0574_01" 957) 573 none),
(578, { cls := .type "code", data := .fields #[.str "_law_node" 990, .str "_law_node" 991, .str "/claim/cut.py" 992, .int 417 0, .int 1 0, .int 0 0, .int 0 0, .int 3 0, .ref 575, .bool true, .int 181 0, .ref 576, .none, .none, .none, .ref 577, .int 993 0, .int 417 0, .str "/claim/cut.py" 994] }),
(579, fnO (stAt 40) "_law_node" (.str "law_pq0574_01" 957) 578 none),
(585, { cls := .type "code", data := .fields #[.str "_law_bounds" 996, .str "_law_bounds" 997, .str "/claim/cut.py" 998, .int 435 0, .int 2 0, .int 0 0, .int 0 0, .int 3 0, .ref 580, .bool true, .int 181 0, .ref 581, .none, .ref 582, .ref 583, .ref 584, .int 1001 0, .int 435 0, .str "/claim/cut.py" 1002] }),
(586, fnO (stAt 41) "_law_bounds" (.str "law_pq0574_01" 957) 585 none),
(592, { cls := .type "code", data := .fields #[.str "_law_ends" 1004, .str "_law_ends" 1005, .str "/claim/cut.py" 1006, .int 439 0, .int 2 0, .int 0 0, .int 0 0, .int 3 0, .ref 587, .bool true, .int 181 0, .ref 588, .none, .ref 589, .ref 590, .ref 591, .int 1015 0, .int 439 0, .str "/claim/cut.py" 1016] }),
(593, fnO (stAt 42) "_law_ends" (.str "law_pq0574_01" 957) 592 none),
(597, { cls := .type "code", data := .fields #[.str "_law_words" 1018, .str "_law_words" 1019, .str "/claim/cut.py" 1020, .int 457 0, .int 2 0, .int 0 0, .int 0 0, .int 3 0, .ref 594, .bool true, .int 181 0, .ref 595, .none, .none, .none, .ref 596, .int 1021 0, .int 457 0, .str "/claim/cut.py" 1022] }),
(598, fnO (stAt 43) "_law_words" (.str "law_pq0574_01" 957) 597 none),
(604, { cls := .type "code", data := .fields #[.str "_law_leaves" 1024, .str "_law_leaves" 1025, .str "/claim/cut.py" 1026, .int 477 0, .int 1 0, .int 0 0, .int 0 0, .int 3 0, .ref 599, .bool true, .int 181 0, .ref 600, .none, .ref 601, .ref 602, .ref 603, .int 1033 0, .int 477 0, .str "/claim/cut.py" 1034] }),
(605, fnO (stAt 44) "_law_leaves" (.str "law_pq0574_01" 957) 604 none),
(611, { cls := .type "code", data := .fields #[.str "_law_lengths_right" 1036, .str "_law_lengths_right" 1037, .str "/claim/cut.py" 1038, .int 486 0, .int 3 0, .int 0 0, .int 0 0, .int 3 0, .ref 606, .bool true, .int 181 0, .ref 607, .none, .ref 608, .ref 609, .ref 610, .int 1045 0, .int 486 0, .str "/claim/cut.py" 1046] }),
(612, fnO (stAt 45) "_law_lengths_right" (.str "law_pq0574_01" 957) 611 none),
(616, { cls := .type "code", data := .fields #[.str "law" 1048, .str "law" 1049, .str "/claim/cut.py" 1050, .int 491 0, .int 1 0, .int 0 0, .int 0 0, .int 3 0, .ref 613, .bool true, .int 181 0, .ref 614, .none, .none, .none, .ref 615, .int 1051 0, .int 491 0, .str "/claim/cut.py" 1052] }),
(617, fnO (stAt 46) "law" (.str "law_pq0574_01" 957) 616 none)]
noncomputable def KKas : List Addr := [2, 3, 45, 46, 47, 58, 59, 74, 75, 81, 82, 84, 85, 86, 87, 98, 99, 110, 111, 126, 127, 133, 134, 136, 137, 152, 153, 159, 160, 166, 167, 169, 170, 181, 182, 193, 194, 209, 210, 216, 217, 223, 224, 226, 227, 238, 239, 250, 251, 262, 263, 278, 279, 285, 286, 288, 289, 297, 298, 304, 305, 311, 312, 318, 319, 325, 326, 332, 333, 339, 340, 346, 347, 353, 354, 360, 361, 365, 366, 372, 373, 379, 380, 384, 385, 398, 399, 407, 408, 409, 417, 418, 419, 427, 428, 429, 433, 434, 435, 436, 437, 445, 446, 447, 453, 454, 455, 456, 457, 477, 478, 484, 485, 491, 492, 547, 548, 550, 551, 552, 553, 559, 560, 566, 567, 573, 574, 578, 579, 585, 586, 592, 593, 597, 598, 604, 605, 611, 612, 616, 617]
noncomputable def GL (w : World) : Gl := ⟨PySem.Challenge.pw_pq0574_01, w, KK w.params⟩

/-- the spans of a leaf's text: its signs follow one another -/
noncomputable def spanV (t : Str) : List V := match t.cps.toList with
  | [] => []
  | c :: cs => [.tup [.int c, .int ((c + cs.length : Nat) : Int)]]
noncomputable def csV (t : Str) : V := .obj 551 [("spans", .tup (spanV t))]
inductive N where
  | empty
  | never
  | chars (cs : Str)
  | cat (l r : N)
  | alt (l r : N)
  | star (b : N)
  | plus (b : N)
  | opt (b : N)
  | rep (b : N) (lo : Int) (hi : Option Int)
noncomputable def N.cls : N → Addr
  | .empty => 99
  | .never => 111
  | .chars _ => 137
  | .cat .. => 182
  | .alt .. => 194
  | .star _ => 239
  | .plus _ => 251
  | .opt _ => 263
  | .rep .. => 289
noncomputable def N.nm : N → Str
  | .empty => "empty"
  | .never => "never"
  | .chars _ => "chars"
  | .cat .. => "cat"
  | .alt .. => "alt"
  | .star _ => "star"
  | .plus _ => "plus"
  | .opt _ => "opt"
  | .rep .. => "repeat"
noncomputable def N.v : N → V
  | .empty => .obj 99 []
  | .never => .obj 111 []
  | .chars cs => .obj 137 [("charset", csV cs)]
  | .cat l r => .obj 182 [("left", l.v), ("right", r.v)]
  | .alt l r => .obj 194 [("left", l.v), ("right", r.v)]
  | .star b => .obj 239 [("body", b.v)]
  | .plus b => .obj 251 [("body", b.v)]
  | .opt b => .obj 263 [("body", b.v)]
  | .rep b lo hi => .obj 289 [("body", b.v), ("low", .int lo), ("high", hiV hi)]
noncomputable def N.fs : N → List (Str × V)
  | .empty => []
  | .never => []
  | .chars cs => [("charset", csV cs)]
  | .cat l r => [("left", l.v), ("right", r.v)]
  | .alt l r => [("left", l.v), ("right", r.v)]
  | .star b => [("body", b.v)]
  | .plus b => [("body", b.v)]
  | .opt b => [("body", b.v)]
  | .rep b lo hi => [("body", b.v), ("low", .int lo), ("high", hiV hi)]
end Mine

end
section
-- E1
open PySem PySem.W PySem.Calls PyProof.Rows
set_option Elab.async false
set_option linter.all false
set_option maxRecDepth 100000
set_option maxHeartbeats 4000000
set_option genInjectivity false
set_option genSizeOfSpec false
namespace Mine
/-! What the program's text asks of its values, as a Prop that computes: one combinator for each construct, and its soundness. -/
noncomputable abbrev DV := World → Nat → Env' → (V → Env' → Prop) → Prop
noncomputable abbrev DL := World → Nat → Env' → (List V → Env' → Prop) → Prop
noncomputable abbrev DB := World → Nat → Env' → (Bool → Env' → Prop) → Prop
noncomputable abbrev DS := World → Nat → Env' → (Env' → Prop) → (R → Env' → Prop) → Prop
section
variable (ns : Names) (b : Bool)
noncomputable def SV (e : Expr) (F : DV) : Prop := ∀ ⦃w d cx⦄, Here cx (GL w) d ns b → ∀ ⦃ρ Q⦄, F w d ρ Q → Ev cx e ρ Q
noncomputable def SF (e : Expr) (F : DL) : Prop := ∀ ⦃w d cx⦄, Here cx (GL w) d ns b → ∀ ⦃ρ Q⦄, F w d ρ Q → EvF cx e ρ Q
noncomputable def SL (es : List Expr) (F : DL) : Prop := ∀ ⦃w d cx⦄, Here cx (GL w) d ns b → ∀ ⦃ρ Q⦄ (pos : Pos), F w d ρ Q → Evs cx pos es ρ Q
noncomputable def SB (e : Expr) (F : DB) : Prop := ∀ ⦃w d cx⦄, Here cx (GL w) d ns b → ∀ ⦃ρ Q⦄, F w d ρ Q → Tr cx e ρ Q
noncomputable def SA (op : BoolOp) (es : List Expr) (F : DB) : Prop := ∀ ⦃w d cx⦄, Here cx (GL w) d ns b → ∀ ⦃ρ Q⦄, F w d ρ Q → TrAll cx op es ρ Q
noncomputable def SI (iter tgt : Expr) (F : DL) : Prop := ∀ ⦃w d cx⦄, Here cx (GL w) d ns b → ∀ ⦃ρ Q⦄, F w d ρ Q → Src cx iter tgt ρ Q
noncomputable def S1 (st : Stmt) (F : DS) : Prop := ∀ ⦃w d cx⦄, Here cx (GL w) d ns b → ∀ ⦃ρ Qn Qr⦄, F w d ρ Qn Qr → Ex1 cx st ρ Qn Qr
noncomputable def SS (sts : List Stmt) (F : DS) : Prop := ∀ ⦃w d cx⦄, Here cx (GL w) d ns b → ∀ ⦃ρ Qn Qr⦄, F w d ρ Qn Qr → Ex cx sts ρ Qn Qr
end
section
variable {ns : Names} {b : Bool} {e e1 e2 e3 : Expr} {es : List Expr} {pos fp apos p0 p1 p2 p3 : Pos} {x f : Str} {j : Nat} {k : NameKind} {F F1 F2 F3 : DV} {G : DL} {T : DB}

-- names and constants
noncomputable def rdV (o : Option (Option Slot)) (kv ko : V → Prop) : Prop := o.elim False fun o => o.elim False fun sl => sl.casesOn (motive := fun _ => Prop) kv fun vs => ko (.lst vs)
noncomputable abbrev vNm (j : Nat) : DV := fun w d ρ Q => rdV ρ[j]? (fun v => Q v ρ) fun v => Q v (ρ.set j (some (.val v)))
theorem SV.nm (hn : ns[j]? = some (x, k)) (hk : plainK k = true) : SV ns b (.Name x pos) (vNm j) := fun w d cx c ρ Q h => by
  unfold vNm at h
  cases e : ρ[j]? with
  | none => rw [e] at h; exact h.elim
  | some o => cases o with
    | none => rw [e] at h; exact h.elim
    | some sl => cases sl with
      | val v => rw [e] at h; exact e_name c hn e hk h
      | own vs => rw [e] at h; exact e_nameO c hn e hk h
noncomputable abbrev lNm (j : Nat) : DL := fun w d ρ Q => rdV ρ[j]? (fun _ => False) fun v => v.casesOn (motive_1 := fun _ => Prop) False (fun _ => False) (fun _ => False) (fun _ => False) (fun _ => False) (fun vs => Q vs (ρ.set j none)) (fun _ _ => False) (fun _ _ => False)
theorem SF.nm (hn : ns[j]? = some (x, k)) (hk : plainK k = true) : SF ns b (.Name x pos) (lNm j) := fun w d cx c ρ Q h => by
  unfold lNm at h
  cases e : ρ[j]? with
  | none => rw [e] at h; exact h.elim
  | some o => cases o with
    | none => rw [e] at h; exact h.elim
    | some sl => cases sl with
      | val v => rw [e] at h; exact h.elim
      | own vs => rw [e] at h; exact f_name c hn e hk h
noncomputable abbrev vC (v : V) : DV := fun _ _ ρ Q => Q v ρ
theorem SV.non {k : Nat} : SV ns b (.Constant .none k pos) (vC .none) := fun w d cx c ρ Q h => ev_none h
theorem SV.boo {k : Nat} {c : Bool} : SV ns b (.Constant (.bool c) k pos) (vC (.bool c)) := fun w d cx c ρ Q h => ev_bool h
theorem SV.int {k : Nat} {n : Int} : SV ns b (.Constant (.int n) k pos) (vC (.int n)) := fun w d cx c ρ Q h => ev_int h
theorem SV.str {k : Nat} {y : Str} : SV ns b (.Constant (.str y) k pos) (vC (.str y)) := fun w d cx c ρ Q h => ev_str h
theorem SV.glob {n : Int} (hn : ns[j]? = some (x, .globalImplicit)) (h : ∃ t, ∀ w, nsIn (GL w).K mainGlobals x = some (some (.int n t))) : SV ns b (.Name x pos) (vC (.int n)) := fun w d cx c ρ Q q => h.elim fun t h => e_globInt c (h _) (List.mem_of_getElem? hn) q
theorem SV.ofF (h : SF ns b e G) : SV ns b e (fun w d ρ Q => G w d ρ fun vs => Q (.lst vs)) := fun w d cx c ρ Q q => Ev_of_EvF (h c q)

-- arguments, displays
noncomputable abbrev lNil : DL := fun _ _ ρ Q => Q [] ρ
noncomputable abbrev lCons (F : DV) (G : DL) : DL := fun w d ρ Q => F w d ρ fun v ρ₁ => G w d ρ₁ fun vs ρ₂ => Q (v :: vs) ρ₂
theorem SL.nil : SL ns b [] lNil := fun w d cx c ρ Q pos h => evs_nil h
theorem SL.cons (h : SV ns b e F) (h2 : SL ns b es G) (he : ∀ env, starEach (e :: es) env = (false, eval e env) :: starEach es env) : SL ns b (e :: es) (lCons F G) := fun w d cx c ρ Q pos q => evs_cons ((h c q).mono fun v ρ' q => h2 c pos q) (he _)
noncomputable def few (n : Nat) (P : Prop) : Prop := (n.ble 1000).rec False P
theorem few_of {n : Nat} {P : Prop} (h : few n P) : n ≤ 1000 ∧ P := by
  unfold few at h
  cases e : n.ble 1000 with
  | false => rw [e] at h; exact h.elim
  | true => rw [e] at h; exact ⟨Nat.le_of_ble_eq_true e, h⟩
noncomputable abbrev vTup (G : DL) : DV := fun w d ρ Q => G w d ρ fun vs ρ₁ => few vs.length (Q (.tup vs) ρ₁)
theorem Evs.mono {cx : Cx} {ρ : Env'} {Q Q' : List V → Env' → Prop} (h : Evs cx pos es ρ Q) (hq : ∀ v ρ', Q v ρ' → Q' v ρ') : Evs cx pos es ρ Q' := fun H vr s K i k => h H vr s K i fun x s v H' ρ' l i r q => k x s v H' ρ' l i r (hq v ρ' q)
theorem EvF.mono {cx : Cx} {ρ : Env'} {Q Q' : List V → Env' → Prop} (h : EvF cx e ρ Q) (hq : ∀ v ρ', Q v ρ' → Q' v ρ') : EvF cx e ρ Q' := fun H vr s K i k => h H vr s K i fun x s v H' ρ' l i r q => k x s v H' ρ' l i r (hq v ρ' q)
theorem Tr.mono {cx : Cx} {ρ : Env'} {Q Q' : Bool → Env' → Prop} (h : Tr cx e ρ Q) (hq : ∀ v ρ', Q v ρ' → Q' v ρ') : Tr cx e ρ Q' := fun H vr s K i k => h H vr s K i fun x s H' ρ' l i q => k x s H' ρ' l i (hq x ρ' q)
theorem SV.tup {k : Nat} (h : SL ns b es G) : SV ns b (.Tuple es k pos) (vTup G) := fun w d cx c ρ Q q => ev_tuple ((h c pos q).mono fun _ _ => few_of)
noncomputable abbrev lLst (G : DL) : DL := fun w d ρ Q => G w d ρ fun vs ρ₁ => few vs.length (Q vs ρ₁)
theorem SF.lst (h : SL ns b es G) : SF ns b (.List es pos) (lLst G) := fun w d cx c ρ Q q => f_list ((h c pos q).mono fun _ _ => few_of)

-- operators
theorem El.by {α : Type} {o : Option α} {u : α} (e : o = some u) {k : α → Prop} (h : k u) : o.elim False k := e ▸ h
/-- which values a thing wants -/
noncomputable def asI (v : V) : Option (Int) := v.casesOn (motive_1 := fun _ => Option (Int)) none (fun _ => none) some (fun _ => none) (fun _ => none) (fun _ => none) (fun _ _ => none) (fun _ _ => none)
noncomputable abbrev onI (v : V) (k : Int → Prop) : Prop := (asI v).elim False k
noncomputable def asS (v : V) : Option (Str) := v.casesOn (motive_1 := fun _ => Option (Str)) none (fun _ => none) (fun _ => none) some (fun _ => none) (fun _ => none) (fun _ _ => none) (fun _ _ => none)
noncomputable abbrev onS (v : V) (k : Str → Prop) : Prop := (asS v).elim False k
noncomputable def asT (v : V) : Option (List V) := v.casesOn (motive_1 := fun _ => Option (List V)) none (fun _ => none) (fun _ => none) (fun _ => none) some (fun _ => none) (fun _ _ => none) (fun _ _ => none)
noncomputable abbrev onT (v : V) (k : List V → Prop) : Prop := (asT v).elim False k
noncomputable def asL (v : V) : Option (List V) := v.casesOn (motive_1 := fun _ => Option (List V)) none (fun _ => none) (fun _ => none) (fun _ => none) (fun _ => none) some (fun _ _ => none) (fun _ _ => none)
noncomputable abbrev onL (v : V) (k : List V → Prop) : Prop := (asL v).elim False k
theorem onI_of {v : V} {k : Int → Prop} (h : onI v k) : ∃ n, v = .int n ∧ k n := by cases v with | int n => exact ⟨n, rfl, h⟩ | _ => exact h.elim
theorem onS_of {v : V} {k : Str → Prop} (h : onS v k) : ∃ n, v = .str n ∧ k n := by cases v with | str n => exact ⟨n, rfl, h⟩ | _ => exact h.elim
theorem onT_of {v : V} {k : List V → Prop} (h : onT v k) : ∃ n, v = .tup n ∧ k n := by cases v with | tup n => exact ⟨n, rfl, h⟩ | _ => exact h.elim
theorem onL_of {v : V} {k : List V → Prop} (h : onL v k) : ∃ n, v = .lst n ∧ k n := by cases v with | lst n => exact ⟨n, rfl, h⟩ | _ => exact h.elim
/-- what an operator does, and that it does -/
noncomputable abbrev OpF := V → V → (V → Prop) → Prop
noncomputable def OpOk (op : Operator) (o : OpF) : Prop := ∀ ⦃w d cx ns b⦄, Here cx (GL w) d ns b → ∀ ⦃u v Q⦄, o u v Q → Op2 cx op u v Q
noncomputable abbrev vBin (o : OpF) (F1 F2 : DV) : DV := fun w d ρ Q => F1 w d ρ fun u ρ₁ => F2 w d ρ₁ fun v ρ₂ => o u v fun z => Q z ρ₂
theorem SV.bin {op : Operator} {o : OpF} (ho : OpOk op o) (h1 : SV ns b e1 F1) (h2 : SV ns b e2 F2) : SV ns b (.BinOp e1 op e2 pos) (vBin o F1 F2) := fun w d cx c ρ Q q => ev_bin ((h1 c q).mono fun u ρ₁ q => (h2 c q).mono fun v ρ₂ q => ho c q)
noncomputable def oII (f : Int → Int → (V → Prop) → Prop) : OpF := fun u v Q => onI u fun m => onI v fun n => f m n Q
theorem oII_ok {op : Operator} {f : Int → Int → (V → Prop) → Prop} (h : ∀ {w d cx ns b}, Here cx (GL w) d ns b → ∀ {m n Q}, f m n Q → Op2 cx op (.int m) (.int n) Q) : OpOk op (oII f) := fun w d cx ns b c u v Q q => by
  obtain ⟨m, rfl, q1⟩ := onI_of q
  obtain ⟨n, rfl, q2⟩ := onI_of q1
  exact h c q2
noncomputable def oAdd : OpF := oII fun m n Q => Q (.int (m + n))
noncomputable def oSub : OpF := oII fun m n Q => Q (.int (m - n))
noncomputable def oMul : OpF := oII fun m n Q => IntMulOk m n ∧ Q (.int (m * n))
noncomputable def oMod : OpF := oII fun m n Q => n ≠ 0 ∧ Q (.int (m.fmod n))
noncomputable def oDiv : OpF := oII fun m n Q => (n ≠ 0 ∧ Builtin.divisionGoesByPylong m n = false) ∧ Q (.int (m.fdiv n))
noncomputable def oPow : OpF := oII fun m n Q => (0 ≤ n ∧ (Builtin.Int.intBits m : Int) * n ≤ 2 ^ 27) ∧ Q (.int (m ^ n.toNat))
theorem ok_add : OpOk .Add oAdd := oII_ok fun c m n Q h => o_add_int h
theorem ok_sub : OpOk .Sub oSub := oII_ok fun c m n Q h => o_sub_int h
theorem ok_mul : OpOk .Mult oMul := oII_ok fun c m n Q h => o_mul_int h.1 h.2
theorem ok_mod : OpOk .Mod oMod := oII_ok fun c m n Q h => o_mod_int h.1 h.2
theorem ok_div : OpOk .FloorDiv oDiv := oII_ok fun c m n Q h => o_fdiv_int h.1.1 h.1.2 h.2
theorem ok_pow : OpOk .Pow oPow := oII_ok fun c m n Q h => o_pow_int h.1.1 h.1.2 h.2
noncomputable def oCat : OpF := fun u v Q => onL u fun us => onL v fun vs => us.length + vs.length ≤ 100000 ∧ Q (.lst (us ++ vs))
theorem ok_cat : OpOk .Add oCat := fun w d cx ns b c u v Q q => by
  obtain ⟨m, rfl, q1⟩ := onL_of q
  obtain ⟨n, rfl, q2⟩ := onL_of q1
  exact o_add_list q2.1 q2.2
/-- two texts put together -/
inductive CatP (u v : V) (Q : V → Prop) : Prop
  | mk (l m : List Nat) (e1 : u = .str (sOf l)) (e2 : v = .str (sOf m)) (h1 : l.length ≤ 1000) (h2 : m.length ≤ 1000) (q : Q (.str (sOf (l ++ m))))
theorem ok_txt : OpOk .Add CatP := fun w d cx ns b c u v Q q => by
  obtain ⟨l, m, rfl, rfl, h1, h2, q⟩ := q
  exact o_add_sOf h1 h2 q
/-- a text, n times -/
inductive RepP (u v : V) (Q : V → Prop) : Prop
  | mk (l : List Nat) (n : Int) (e1 : u = .str (sOf l)) (e2 : v = .int n) (h : l.length ≤ 4000 ∧ 0 ≤ n ∧ n ≤ 4000) (q : Q (.str (sOf (rept n l))))
theorem ok_rep : OpOk .Mult RepP := fun w d cx ns b c u v Q q => by
  obtain ⟨l, n, rfl, rfl, h, q⟩ := q
  exact o_mul_str h.1 h.2.1 h.2.2 q

-- comparisons
noncomputable abbrev CmpF := V → V → (Bool → Prop) → Prop
noncomputable def CmpOk (op : CmpOp) (o : CmpF) : Prop := ∀ ⦃w d cx ns b⦄, Here cx (GL w) d ns b → ∀ ⦃u v Q⦄, o u v Q → Cmp cx op u v Q
noncomputable abbrev vCmp (o : CmpF) (F1 F2 : DV) : DV := fun w d ρ Q => F1 w d ρ fun u ρ₁ => F2 w d ρ₁ fun v ρ₂ => o u v fun c => Q (.bool c) ρ₂
theorem SV.cmp {op : CmpOp} {o : CmpF} (ho : CmpOk op o) (h1 : SV ns b e1 F1) (h2 : SV ns b e2 F2) (hm : behindInMarks op e2 = false) : SV ns b (.Compare e1 [op] [e2] pos) (vCmp o F1 F2) := fun w d cx c ρ Q q => ev_cmp ((h1 c q).mono fun u ρ₁ q => (h2 c q).mono fun v ρ₂ q => ho c q) hm
noncomputable abbrev bCmp (o : CmpF) (F1 F2 : DV) : DB := fun w d ρ Q => F1 w d ρ fun u ρ₁ => F2 w d ρ₁ fun v ρ₂ => o u v fun c => Q c ρ₂
theorem SB.cmp {op : CmpOp} {o : CmpF} (ho : CmpOk op o) (h1 : SV ns b e1 F1) (h2 : SV ns b e2 F2) (hm : behindInMarks op e2 = false) : SB ns b (.Compare e1 [op] [e2] pos) (bCmp o F1 F2) := fun w d cx c ρ Q q => tr_cmp ((h1 c q).mono fun u ρ₁ q => (h2 c q).mono fun v ρ₂ q => ho c q) hm
noncomputable def cII (f : Int → Int → Bool) : CmpF := fun u v Q => onI u fun m => onI v fun n => Q (f m n)
theorem cII_ok {op : CmpOp} {f : Int → Int → Bool} (h : ∀ {cx m n Q}, Q (f m n) → Cmp cx op (.int m) (.int n) Q) : CmpOk op (cII f) := fun w d cx ns b c u v Q q => by
  obtain ⟨m, rfl, q1⟩ := onI_of q
  obtain ⟨n, rfl, q2⟩ := onI_of q1
  exact h q2
noncomputable def cLt : CmpF := cII fun m n => decide (m < n)
noncomputable def cGt : CmpF := cII fun m n => decide (m > n)
noncomputable def cLe : CmpF := cII fun m n => decide (m ≤ n)
noncomputable def cGe : CmpF := cII fun m n => decide (n ≤ m)
noncomputable def cEq : CmpF := cII fun m n => m == n
noncomputable def cNe : CmpF := cII fun m n => m != n
theorem ok_lt : CmpOk .Lt cLt := cII_ok fun h => c_lt_int h
theorem ok_gt : CmpOk .Gt cGt := cII_ok fun h => c_gt_int h
theorem ok_le : CmpOk .LtE cLe := cII_ok fun h => c_le_int h
theorem ok_ge : CmpOk .GtE cGe := cII_ok fun h => c_ge_int h
theorem ok_eq : CmpOk .Eq cEq := cII_ok fun h => c_eq_int h
theorem ok_ne : CmpOk .NotEq cNe := cII_ok fun h => c_ne_int h
noncomputable def cEqS : CmpF := fun u v Q => onS u fun m => onS v fun n => Q (m == n)
theorem ok_eqS : CmpOk .Eq cEqS := fun w d cx ns b c u v Q q => by
  obtain ⟨m, rfl, q1⟩ := onS_of q
  obtain ⟨n, rfl, q2⟩ := onS_of q1
  exact c_eq_str q2
noncomputable def cIs (f : Bool → Bool) : CmpF := fun u v Q => v.casesOn (motive_1 := fun _ => Prop) (Q (f (isN u))) (fun _ => False) (fun _ => False) (fun _ => False) (fun _ => False) (fun _ => False) (fun _ _ => False) (fun _ _ => False)
theorem ok_is : CmpOk .Is (cIs id) := fun w d cx ns b c u v Q q => by cases v with | none => exact c_is_none q | _ => exact q.elim
theorem ok_isNot : CmpOk .IsNot (cIs not) := fun w d cx ns b c u v Q q => by cases v with | none => exact c_isNot_none q | _ => exact q.elim
/-- data compared -/
inductive EqP (f : Bool → Bool) (u v : V) (Q : Bool → Prop) : Prop
  | mk (h1 : Dat 64 u) (h2 : Dat 64 v) (q : Q (f (same u v)))
theorem ok_eqD : CmpOk .Eq (EqP id) := fun w d cx ns b c u v Q q => q.rec fun h1 h2 q => c_eq c h1 h2 q
theorem ok_neD : CmpOk .NotEq (EqP not) := fun w d cx ns b c u v Q q => q.rec fun h1 h2 q => c_ne c h1 h2 q
inductive NotInP (u v : V) (Q : Bool → Prop) : Prop
  | mk (us : List V) (e : v = .lst us) (h1 : Dat 64 u) (h2 : isDs us = true) (q : Q (!us.any fun y => same y u))
theorem ok_notIn : CmpOk .NotIn NotInP := fun w d cx ns b c u v Q q => by
  obtain ⟨us, rfl, h1, h2, q⟩ := q
  exact c_notIn c h1 h2 q
inductive LtPP (u v : V) (Q : Bool → Prop) : Prop
  | mk (m n : Int) (x y : List Nat) (e1 : u = .tup [.int m, .str (sOf x)]) (e2 : v = .tup [.int n, .str (sOf y)]) (q : Q (if m = n then decide (x < y) else decide (m < n)))
theorem ok_ltP : CmpOk .Lt LtPP := fun w d cx ns b c u v Q q => by
  obtain ⟨m, n, x, y, rfl, rfl, q⟩ := q
  exact c_lt_pair c q

-- tests
noncomputable abbrev bNot (T : DB) : DB := fun w d ρ Q => T w d ρ fun c => Q !c
theorem SB.not (h : SB ns b e T) : SB ns b (.UnaryOp .Not e pos) (bNot T) := fun w d cx c ρ Q q => tr_not (h c q)
noncomputable abbrev bAnd (T U : DB) : DB := fun w d ρ Q => T w d ρ fun c ρ₁ => Way c (U w d ρ₁ Q) (Q false ρ₁)
noncomputable abbrev bOr (T U : DB) : DB := fun w d ρ Q => T w d ρ fun c ρ₁ => Way c (Q true ρ₁) (U w d ρ₁ Q)
noncomputable abbrev bC (c : Bool) : DB := fun _ _ ρ Q => Q c ρ
theorem Way.mono {c : Bool} {A B A' B' : Prop} (h : Way c A B) (ha : A → A') (hb : B → B') : Way c A' B' := by
  cases c with
  | true => exact ha h
  | false => exact hb h
variable {T U : DB}
theorem SA.andN : SA ns b .And [] (bC true) := fun w d cx c ρ Q h => and_nil h
theorem SA.orN : SA ns b .Or [] (bC false) := fun w d cx c ρ Q h => or_nil h
theorem SA.and (h : SB ns b e T) (h2 : SA ns b .And es U) : SA ns b .And (e :: es) (bAnd T U) := fun w d cx c ρ Q q => and_cons ((h c q).mono fun _ _ q => q.mono (fun q => h2 c q) id)
theorem SA.or (h : SB ns b e T) (h2 : SA ns b .Or es U) : SA ns b .Or (e :: es) (bOr T U) := fun w d cx c ρ Q q => or_cons ((h c q).mono fun _ _ q => q.mono id fun q => h2 c q)
theorem SB.all {op : BoolOp} (h : SA ns b op es T) : SB ns b (.BoolOp op es pos) T := fun w d cx c ρ Q q => tr_boolop (h c q)
/-- a value's truth -/
noncomputable def truF (v : V) (Q : Bool → Prop) : Prop := v.casesOn (motive_1 := fun _ => Prop) False Q (fun _ => False) (fun _ => False) (fun vs => vs.length ≤ 100000 ∧ Q !vs.isEmpty) (fun vs => vs.length ≤ 100000 ∧ Q !vs.isEmpty) (fun _ _ => False) (fun _ _ => False)
theorem tru_ok {cx : Cx} {v : V} {Q : Bool → Prop} (h : truF v Q) : Tru cx v Q := by
  cases v with
  | bool c => exact t_bool h
  | tup vs => exact t_tup h.1 h.2
  | lst vs => exact t_lst h.1 h.2
  | _ => exact h.elim
noncomputable abbrev bVal (F : DV) : DB := fun w d ρ Q => F w d ρ fun v ρ₁ => truF v fun c => Q c ρ₁
theorem SB.val (h : SV ns b e F) (he : ∀ env, isTrue e env (eval e env) = (do let v ← eval e env; standAt e.pos; holding [v] (truthy v))) : SB ns b e (bVal F) := fun w d cx c ρ Q q => tr_value ((h c q).mono fun _ _ q => tru_ok q) (he _)
noncomputable abbrev vIf (T : DB) (F1 F2 : DV) : DV := fun w d ρ Q => T w d ρ fun c ρ₁ => Way c (F1 w d ρ₁ Q) (F2 w d ρ₁ Q)
theorem SV.ife (h : SB ns b e T) (h1 : SV ns b e1 F1) (h2 : SV ns b e2 F2) : SV ns b (.IfExp e e1 e2 pos) (vIf T F1 F2) := fun w d cx c ρ Q q => ev_ifexp ((h c q).mono fun _ _ q => q.mono (fun q => h1 c q) fun q => h2 c q)
noncomputable abbrev lIf (T : DB) (F1 F2 : DL) : DL := fun w d ρ Q => T w d ρ fun c ρ₁ => Way c (F1 w d ρ₁ Q) (F2 w d ρ₁ Q)
theorem SF.ife {G1 G2 : DL} (h : SB ns b e T) (h1 : SF ns b e1 G1) (h2 : SF ns b e2 G2) : SF ns b (.IfExp e e1 e2 pos) (lIf T G1 G2) := fun w d cx c ρ Q q => f_ifexp ((h c q).mono fun _ _ q => q.mono (fun q => h1 c q) fun q => h2 c q)
noncomputable abbrev vNeg (F : DV) : DV := fun w d ρ Q => F w d ρ fun v ρ₁ => onI v fun n => Q (.int (-n)) ρ₁
theorem SV.neg (h : SV ns b e F) : SV ns b (.UnaryOp .USub e pos) (vNeg F) := fun w d cx c ρ Q q => ev_neg ((h c q).mono fun _ _ q => onI_of q)
/-- «and» as a value -/
noncomputable abbrev vAnd (F1 F2 : DV) : DV := fun w d ρ Q => F1 w d ρ fun v ρ₁ => v = .bool true ∧ F2 w d ρ₁ Q
theorem SV.and1 (h : SV ns b e F) : SV ns b (.BoolOp .And [e] pos) F := fun w d cx c ρ Q q => e_and1 (h c q)
theorem SV.and2 (h1 : SV ns b e1 F1) (h2 : SV ns b (.BoolOp .And (e2 :: es) pos) F2) : SV ns b (.BoolOp .And (e1 :: e2 :: es) pos) (vAnd F1 F2) := fun w d cx c ρ Q q => e_and2 ((h1 c q).mono fun _ _ q => ⟨q.1, h2 c q.2⟩)
end
end Mine

end
section
-- E2
open PySem PySem.W PySem.Calls PyProof.Rows
set_option Elab.async false
set_option linter.all false
set_option maxRecDepth 100000
set_option maxHeartbeats 4000000
set_option genInjectivity false
set_option genSizeOfSpec false
namespace Mine
-- attributes
noncomputable def clsNm : List (Addr × Str) := [(99, "empty"), (111, "never"), (137, "chars"), (182, "cat"), (194, "alt"), (239, "star"), (251, "plus"), (263, "opt"), (289, "repeat")]
noncomputable def attrTab : List (Addr × Str) := [(137, "charset"), (182, "left"), (182, "right"), (194, "left"), (194, "right"), (239, "body"), (251, "body"), (263, "body"), (289, "body"), (289, "low"), (289, "high"), (551, "spans")]
noncomputable def attrO (a : Str) (v : V) : Option V := v.casesOn (motive_1 := fun _ => Option V) none (fun _ => none) (fun _ => none) (fun _ => none) (fun _ => none) (fun _ => none)
  (fun C fs => (fs.lookup a).elim (cond (a == "name") ((clsNm.find? fun p => p.1 == C).map fun p => .str p.2) none) fun u => cond (attrTab.any fun p => p.1 == C && p.2 == a) (some u) none) (fun _ _ => none)
noncomputable abbrev attrF (a : Str) (v : V) (k : V → Prop) : Prop := (attrO a v).elim False k
theorem cls_ok (P : Params) : ∀ C ∈ [99, 111, 137, 182, 194, 239, 251, 263, 289, 551], ClsOk (KK P) C := by
  intro C h
  simp only [List.mem_cons, List.not_mem_nil, or_false] at h
  rcases h with rfl | rfl | rfl | rfl | rfl | rfl | rfl | rfl | rfl | rfl <;> exact ⟨by kernel_rfl, by kernel_rfl, by kernel_rfl⟩
theorem name_ok (P : Params) : ∀ p ∈ clsNm, ClsOk (KK P) p.1 ∧ ∃ t, findIn (KK P) (.ref p.1) "name" = some (some (.str p.2 t)) := by
  intro p h
  simp only [clsNm, List.mem_cons, List.not_mem_nil, or_false] at h
  rcases h with rfl | rfl | rfl | rfl | rfl | rfl | rfl | rfl | rfl
  · exact ⟨cls_ok P _ (by decide), 302, by kernel_rfl⟩
  · exact ⟨cls_ok P _ (by decide), 320, by kernel_rfl⟩
  · exact ⟨cls_ok P _ (by decide), 338, by kernel_rfl⟩
  · exact ⟨cls_ok P _ (by decide), 416, by kernel_rfl⟩
  · exact ⟨cls_ok P _ (by decide), 434, by kernel_rfl⟩
  · exact ⟨cls_ok P _ (by decide), 491, by kernel_rfl⟩
  · exact ⟨cls_ok P _ (by decide), 509, by kernel_rfl⟩
  · exact ⟨cls_ok P _ (by decide), 527, by kernel_rfl⟩
  · exact ⟨cls_ok P _ (by decide), 545, by kernel_rfl⟩
theorem own_ok (P : Params) : ∀ p ∈ attrTab, ClsOk (KK P) p.1 ∧ findIn (KK P) (.ref p.1) p.2 = some none ∧ noGet (KK P) none = true := by
  intro p h
  simp only [attrTab, List.mem_cons, List.not_mem_nil, or_false] at h
  rcases h with rfl | rfl | rfl | rfl | rfl | rfl | rfl | rfl | rfl | rfl | rfl | rfl <;> exact ⟨cls_ok P _ (by decide), by kernel_rfl, by kernel_rfl⟩
theorem noName : copiedNames.contains ("name" : Str) = false := by decide +kernel
theorem strGet (P : Params) {x : Str} {t : Tok} : specialIn (KK P) (.str x t) "__get__" = some none := by kernel_rfl
theorem attr_ok {w : World} {a : Str} {v : V} {k : V → Prop} (h : attrF a v k) : AttrP (GL w).K a k v := by
  cases v with
  | obj C fs =>
    have h : ((fs.lookup a).elim (cond (a == "name") ((clsNm.find? fun p => p.1 == C).map fun p => V.str p.2) none) fun u => cond (attrTab.any fun p => p.1 == C && p.2 == a) (some u) none).elim False k := h
    cases e : fs.lookup a with
    | none =>
      rw [e] at h
      cases e2 : a == "name" with
      | false => rw [e2] at h; exact h.elim
      | true =>
        have ea := eq_of_beq e2
        subst ea
        cases e3 : clsNm.find? fun p => p.1 == C with
        | none => rw [e2, e3] at h; exact h.elim
        | some p =>
          rw [e2, e3] at h
          have ec : p.1 = C := eq_of_beq (List.find?_some (p := fun p : Addr × Str => p.1 == C) e3)
          subst ec
          obtain ⟨hc, t, ht⟩ := name_ok w.params p (List.mem_of_find?_eq_some e3)
          exact ⟨_, fs, _, rfl, .str p.2 t rfl hc e ht (strGet _) noName, h⟩
    | some u =>
      rw [e] at h
      cases e2 : attrTab.any fun p => p.1 == C && p.2 == a with
      | false => rw [e2] at h; exact h.elim
      | true =>
        rw [e2] at h
        obtain ⟨p, hm, hp⟩ := List.any_eq_true.mp e2
        obtain ⟨p1, p2⟩ := Bool.and_eq_true_iff.mp hp
        have e1 := eq_of_beq p1
        have e3 := eq_of_beq p2
        subst e1; subst e3
        have ho := own_ok w.params p hm
        exact ⟨_, fs, u, rfl, .own none ho.1 e ho.2.1 ho.2.2, h⟩
  | _ => exact h.elim
section
variable {ns : Names} {b : Bool} {e e1 e2 e3 : Expr} {es : List Expr} {pos fp apos p0 p1 p2 p3 : Pos} {x y f a : Str} {j : Nat} {k : NameKind} {F F1 F2 F3 : DV} {G G2 : DL} {T : DB}
noncomputable abbrev vAt (a : Str) (F : DV) : DV := fun w d ρ Q => F w d ρ fun v ρ₁ => attrF a v fun u => Q u ρ₁
theorem SV.att (h : SV ns b e F) (he : ∀ env, eval (.Attribute e a pos) env = (do
      let o ← eval e env
      standAt pos.atName
      let r ← holding [o] (getAttr o a true)
      letTemporaryGo e o r
      pure r)) : SV ns b (.Attribute e a pos) (vAt a F) := fun w d cx c ρ Q q => e_attr c ((h c q).mono fun _ _ q => attr_ok q) (he _)

-- calls
/-- a call of a def -/
inductive CallP (w : World) (d : Nat) (a : Addr) (vs : List V) (Q : R → Prop) : Prop
  | mk (h : Fn (GL w) d a vs Q)
theorem CallP.of {w : World} {d d' : Nat} {a : Addr} {vs : List V} {Q : R → Prop} {r : R} (h : Fn (GL w) d' a vs (fun x => x = r)) (hd : d' ≤ d) (q : Q r) : CallP w d a vs Q := ⟨h.mono hd fun _ e => e ▸ q⟩
structure GlobFn (ns : Names) (f : Str) (a : Addr) : Prop where
  at_ : ∃ j : Nat, ns[j]? = some (f, .globalImplicit)
  is : ∀ w, nsIn (GL w).K mainGlobals f = some (some (.ref a))
  kp : ∀ w, keepIn (GL w).K (.ref a) = true
theorem GlobFn.mem {a : Addr} (h : GlobFn ns f a) : (f, NameKind.globalImplicit) ∈ ns := h.at_.elim fun j h => List.mem_of_getElem? h
noncomputable abbrev vCall (a : Addr) (G : DL) : DV := fun w d ρ Q => G w d ρ fun vs ρ₁ => CallP w d a vs (RVal fun v => Q v ρ₁)
noncomputable abbrev lCall (a : Addr) (G : DL) : DL := fun w d ρ Q => G w d ρ fun vs ρ₁ => CallP w d a vs (RFresh fun v => Q v ρ₁)
noncomputable abbrev Plain (es : List Expr) : Prop := ∀ env pos, (backTo pos (starEach es env)).any (·.1) = false
theorem SV.call {a : Addr} (hf : GlobFn ns f a) (h : SL ns b es G) (hp : Plain es) : SV ns b (.Call (.Name f fp) es [] pos) (vCall a G) := fun w d cx c ρ Q q => e_call c hf.mem (hf.is _) (hf.kp _) ((h c pos q).mono fun _ _ q => q.rec id) (hp _ _)
theorem SF.call {a : Addr} (hf : GlobFn ns f a) (h : SL ns b es G) (hp : Plain es) : SF ns b (.Call (.Name f fp) es [] pos) (lCall a G) := fun w d cx c ρ Q q => f_call c hf.mem (hf.is _) (hf.kp _) ((h c pos q).mono fun _ _ q => q.rec id) (hp _ _)
/-- a built-in, by its name -/
structure GlobB (ns : Names) (f : Str) (fv : Value) : Prop where
  at_ : ∃ j : Nat, ns[j]? = some (f, .globalImplicit)
  is : ∀ w, nsIn (GL w).K mainGlobals f = some none
  bt : bootBuiltins f = some fv
  ne : f ≠ "__name__"
  mv : machineV fv = true
theorem GlobB.mem {fv : Value} (h : GlobB ns f fv) : (f, NameKind.globalImplicit) ∈ ns := h.at_.elim fun j h => List.mem_of_getElem? h
noncomputable abbrev BltF := List V → (V → Prop) → Prop
noncomputable def BltOk (fv : Value) (o : BltF) : Prop := ∀ ⦃w d cx ns b⦄, Here cx (GL w) d ns b → ∀ ⦃vs Q⦄, o vs Q → Op cx vs (fun xs => call fv xs) Q
noncomputable abbrev vBlt (o : BltF) (G : DL) : DV := fun w d ρ Q => G w d ρ fun vs ρ₁ => o vs fun v => Q v ρ₁
theorem SV.blt {fv : Value} {o : BltF} (hb : GlobB ns f fv) (ho : BltOk fv o) (h : SL ns b es G) (hp : Plain es) : SV ns b (.Call (.Name f fp) es [] pos) (vBlt o G) := fun w d cx c ρ Q q => e_built c hb.mem (hb.is _) hb.bt hb.ne hb.mv ((h c pos q).mono fun _ _ q => ho c q) (hp _ _)
noncomputable def on1 (vs : List V) (k : V → Prop) : Prop := vs.casesOn (motive := fun _ => Prop) False fun v us => us.casesOn (motive := fun _ => Prop) (k v) fun _ _ => False
noncomputable def on2 (vs : List V) (k : V → V → Prop) : Prop := vs.casesOn (motive := fun _ => Prop) False fun v us => us.casesOn (motive := fun _ => Prop) False fun u us => us.casesOn (motive := fun _ => Prop) (k v u) fun _ _ => False
theorem on1_of {vs : List V} {k : V → Prop} (h : on1 vs k) : ∃ v, vs = [v] ∧ k v := by
  obtain _ | ⟨v, _ | ⟨u, us⟩⟩ := vs
  · exact h.elim
  · exact ⟨v, rfl, h⟩
  · exact h.elim
theorem on2_of {vs : List V} {k : V → V → Prop} (h : on2 vs k) : ∃ u v, vs = [u, v] ∧ k u v := by
  obtain _ | ⟨v, _ | ⟨u, _ | ⟨z, us⟩⟩⟩ := vs
  · exact h.elim
  · exact h.elim
  · exact ⟨v, u, rfl, h⟩
  · exact h.elim
noncomputable def lenO (v : V) : Option Nat := v.casesOn (motive_1 := fun _ => Option Nat) none (fun _ => none) (fun _ => none) (fun x => some x.length) (fun us => some us.length) (fun us => some us.length) (fun _ _ => none) (fun _ _ => none)
noncomputable abbrev bLen : BltF := fun vs Q => on1 vs fun v => (lenO v).elim False fun n => n ≤ 100000 ∧ Q (.int n)
theorem ok_len : BltOk (.builtin "len") bLen := fun w d cx ns b c vs Q q => by
  obtain ⟨v, rfl, q1⟩ := on1_of q
  cases v with
  | str x => exact b_len_str q1.1 q1.2
  | tup x => exact b_len_tup q1.1 q1.2
  | lst x => exact b_len_lst q1.1 q1.2
  | _ => exact q1.elim
noncomputable abbrev bII (f : Int → Int → V) : BltF := fun vs Q => on2 vs fun u v => onI u fun m => onI v fun n => Q (f m n)
theorem bII_of {f : Int → Int → V} {vs : List V} {Q : V → Prop} (h : bII f vs Q) : ∃ m n, vs = [.int m, .int n] ∧ Q (f m n) := by
  obtain ⟨u, v, rfl, q1⟩ := on2_of h
  obtain ⟨m, rfl, q2⟩ := onI_of q1
  obtain ⟨n, rfl, q3⟩ := onI_of q2
  exact ⟨m, n, rfl, q3⟩
theorem ok_max : BltOk (.builtin "max") (bII fun m n => .int (max m n)) := fun w d cx ns b c vs Q q => by
  obtain ⟨m, n, rfl, q1⟩ := bII_of q
  exact b_max c q1
theorem ok_min : BltOk (.builtin "min") (bII fun m n => .int (min m n)) := fun w d cx ns b c vs Q q => by
  obtain ⟨m, n, rfl, q1⟩ := bII_of q
  exact b_min c q1
theorem ok_range2 : BltOk (.type "range") (bII .rng) := fun w d cx ns b c vs Q q => by
  obtain ⟨m, n, rfl, q1⟩ := bII_of q
  exact b_range2 q1
noncomputable abbrev bI (f : Int → V) : BltF := fun vs Q => on1 vs fun u => onI u fun m => Q (f m)
theorem bI_of {f : Int → V} {vs : List V} {Q : V → Prop} (h : bI f vs Q) : ∃ m, vs = [.int m] ∧ Q (f m) := by
  obtain ⟨u, rfl, q1⟩ := on1_of h
  obtain ⟨m, rfl, q2⟩ := onI_of q1
  exact ⟨m, rfl, q2⟩
theorem ok_range1 : BltOk (.type "range") (bI (.rng 0)) := fun w d cx ns b c vs Q q => by
  obtain ⟨m, rfl, q1⟩ := bI_of q
  exact b_range1 q1
theorem ok_int : BltOk (.type "int") (bI .int) := fun w d cx ns b c vs Q q => by
  obtain ⟨m, rfl, q1⟩ := bI_of q
  exact b_int q1
theorem ok_abs : BltOk (.builtin "abs") (bI fun n => .int (if n < 0 then -n else n)) := fun w d cx ns b c vs Q q => by
  obtain ⟨m, rfl, q1⟩ := bI_of q
  exact b_abs q1
/-- built-ins that want more of their values -/
inductive OrdP (vs : List V) (Q : V → Prop) : Prop
  | mk (n : Nat) (e : vs = [.str ⟨#[n]⟩]) (q : Q (.int n))
theorem ok_ord : BltOk (.builtin "ord") OrdP := fun w d cx ns b c vs Q q => by
  obtain ⟨n, rfl, q1⟩ := q
  exact b_ord q1
inductive ChrP (vs : List V) (Q : V → Prop) : Prop
  | mk (n : Int) (e : vs = [.int n]) (h : 0 ≤ n ∧ n ≤ 0x10FFFF) (q : Q (.str ⟨#[n.toNat]⟩))
theorem ok_chr : BltOk (.builtin "chr") ChrP := fun w d cx ns b c vs Q q => by
  obtain ⟨n, rfl, h, q1⟩ := q
  exact b_chr h.1 h.2 q1
inductive TupP (vs : List V) (Q : V → Prop) : Prop
  | mk (us : List V) (e : vs = [.lst us]) (h : us.length ≤ 100000) (q : Q (.tup us))
theorem ok_tuple : BltOk (.type "tuple") TupP := fun w d cx ns b c vs Q q => by
  obtain ⟨n, rfl, h, q1⟩ := q
  exact b_tuple_lst h q1
inductive LstP (vs : List V) (Q : V → Prop) : Prop
  | lst (us : List V) (e : vs = [.lst us]) (h : us.length ≤ 100000) (q : Q (.lst us))
  | str (l : List Nat) (e : vs = [.str (sOf l)]) (h : l.length ≤ 1000) (q : Q (.lst (wsV (l.map fun k => [k]))))
theorem ok_list : BltOk (.type "list") LstP := fun w d cx ns b c vs Q q => by
  rcases q with ⟨n, rfl, h, q1⟩ | ⟨n, rfl, h, q1⟩
  · exact b_list_lst h q1
  · exact b_list_str c h q1
inductive SortP (vs : List V) (Q : V → Prop) : Prop
  | prs (l : List (Int × Int)) (e : vs = [.lst (prs l)]) (h : (l.map (·.1)).Pairwise (· < ·)) (hl : l.length ≤ 3) (q : Q (.lst (prs l)))
  | txt (ws : List (List Nat)) (e : vs = [.lst (wsV ws)]) (hl : ws.length < 64) (q : ∀ W : List (List Nat), W.Perm ws → W.Pairwise (· ≤ ·) → Q (.lst (wsV W)))
theorem ok_sorted : BltOk (.builtin "sorted") SortP := fun w d cx ns b c vs Q q => by
  rcases q with ⟨n, rfl, h, hl, q1⟩ | ⟨n, rfl, hl, q1⟩
  · exact b_sorted_prs h hl q1
  · exact b_sortedW hl q1
noncomputable abbrev vSortSet (G : DL) : DV := fun w d ρ Q => G w d ρ fun vs ρ₁ => TextsP (fun W => Q (.lst (wsV W)) ρ₁) vs
theorem SV.sortSet (h1 : GlobB ns "sorted" (.builtin "sorted")) (h2 : GlobB ns "set" (.type "set")) (h : SL ns b [e] G)
    (he : ∀ env, starEach [Expr.Call (.Name "set" p2) [e] [] p3] env = (false, eval (Expr.Call (.Name "set" p2) [e] [] p3) env) :: starEach [] env) (hp1 : Plain [Expr.Call (.Name "set" p2) [e] [] p3]) (hp2 : Plain [e]) :
    SV ns b (.Call (.Name "sorted" fp) [.Call (.Name "set" p2) [e] [] p3] [] pos) (vSortSet G) := fun w d cx c ρ Q q => e_sortedSet c (h1.is _) (h2.is _) h1.mem h2.mem (h c p3 q) (he _) (hp1 _ _) (hp2 _ _)
noncomputable abbrev vIsT (F : DV) : DV := fun w d ρ Q => F w d ρ fun v ρ₁ => Way (atomT v) (Q (.bool (isT v)) ρ₁) False
theorem SV.isT (h1 : GlobB ns "isinstance" (.builtin "isinstance")) (h2 : GlobB ns "tuple" (.type "tuple")) (h : SV ns b e F) (he : ∀ env, starEach (e :: [.Name "tuple" p1]) env = (false, eval e env) :: starEach [.Name "tuple" p1] env) (hp : Plain [e, .Name "tuple" p1]) :
    SV ns b (.Call (.Name "isinstance" fp) [e, .Name "tuple" p1] [] pos) (vIsT F) := fun w d cx c ρ Q q => e_isTuple c (h1.is _) (h2.is _) h1.mem h2.mem ((h c q).mono fun v ρ₁ q => by
    cases hv : atomT v with
    | true => rw [hv] at q; exact ⟨rfl, q⟩
    | false => rw [hv] at q; exact q.elim) (he _) (hp _ _)
noncomputable abbrev vJoin (G : DL) : DV := fun w d ρ Q => G w d ρ fun vs ρ₁ => JoinP (fun l => Q (.str (sOf l)) ρ₁) vs
noncomputable abbrev MethEq (e : Expr) (name : Str) (apos : Pos) (es : List Expr) (pos : Pos) (pl : Env → Sem Bool) : Prop := ∀ env, eval (.Call (.Attribute e name apos) es [] pos) env = (do
      let ov ← eval e env
      standAt apos.atName
      let (f, first) ← holding [ov] (getMethod ov name (pl env))
      callWith pos f first (backTo pos (starEach es env)) [])
theorem SV.join {pl : Env → Sem Bool} {k0 : Nat} (h : SL ns b es G) (hp : Plain es) (he : MethEq (.Constant (.str "") k0 p0) "join" apos es pos pl) : SV ns b (.Call (.Attribute (.Constant (.str "") k0 p0) "join" apos) es [] pos) (vJoin G) := fun w d cx c ρ Q q => e_join c (h c pos q) (hp _ _) (he _)

-- methods
noncomputable abbrev vMeth (a : Str) (F : DV) : DV := fun w d ρ Q => F w d ρ fun v ρ₁ => Meth (GL w) d a (RVal fun u => Q u ρ₁) v
noncomputable abbrev lMeth (a : Str) (F : DV) : DL := fun w d ρ Q => F w d ρ fun v ρ₁ => Meth (GL w) d a (RFresh fun u => Q u ρ₁) v
theorem SV.meth {pl : Env → Sem Bool} (h : SV ns b e F) (he : MethEq e a apos [] pos pl) : SV ns b (.Call (.Attribute e a apos) [] [] pos) (vMeth a F) := fun w d cx c ρ Q q => e_meth c (h c q) (he _)
theorem SF.meth {pl : Env → Sem Bool} (h : SV ns b e F) (he : MethEq e a apos [] pos pl) : SF ns b (.Call (.Attribute e a apos) [] [] pos) (lMeth a F) := fun w d cx c ρ Q q => f_meth c (h c q) (he _)
theorem Meth.of {g : Gl} {d d' : Nat} {a : Str} {v : V} {Q : R → Prop} {r : R} (h : Meth g d' a (fun x => x = r) v) (hd : d' ≤ d) (q : Q r) : Meth g d a Q v := h.rec fun C fs e f co hl hf ht hk hF => ⟨C, fs, e, f, co, hl, hf, ht, hk, hF.mono hd fun _ e => e ▸ q⟩
theorem SV.stat {C p a : Addr} {pl : Env → Sem Bool} (hx : ∃ j : Nat, ns[j]? = some (x, .globalImplicit)) (hC : ∀ w, nsIn (GL w).K mainGlobals x = some (some (.ref C))) (S : ∃ rest, ∀ w, StatOk (GL w).K C f p a rest) (h : SL ns b es G) (hp : Plain es) (he : MethEq (.Name x p0) f apos es pos pl) :
    SV ns b (.Call (.Attribute (.Name x p0) f apos) es [] pos) (vCall a G) := fun w d cx c ρ Q q => S.elim fun rest S => e_stat c (hx.elim fun j h => List.mem_of_getElem? h) (hC _) (S _) ((h c pos q).mono fun _ _ q => q.rec id) (hp _ _) (he _)
noncomputable abbrev vMake (C : Addr) (G : DL) : DV := fun w d ρ Q => 3 ≤ d ∧ G w d ρ fun vs ρ₁ => Make (GL w) 2 C vs fun fs => Q (.obj C fs) ρ₁
theorem SV.make {C : Addr} (hf : GlobFn ns f C) (h : SL ns b es G) (hp : Plain es) : SV ns b (.Call (.Name f fp) es [] pos) (vMake C G) := fun w d cx c ρ Q q => e_make c hf.mem (hf.is _) (hf.kp _) q.1 (h c pos q.2) (hp _ _)

-- a list of the frame's own
noncomputable def ownF (o : Option (Option Slot)) (k : List V → Prop) : Prop := o.elim False fun o => o.elim False fun sl => sl.casesOn (motive := fun _ => Prop) (fun _ => False) k
theorem ownF_of {o : Option (Option Slot)} {k : List V → Prop} (h : ownF o k) : ∃ vs, o = some (some (.own vs)) ∧ k vs := by
  obtain _ | _ | v | vs := o
  · exact h.elim
  · exact h.elim
  · exact h.elim
  · exact ⟨vs, rfl, h⟩
noncomputable abbrev OwnM := List V → List V → (V → List V → Prop) → Prop
noncomputable def OwnOk (name : Str) (o : OwnM) : Prop := ∃ id, PySem.Slot "list" name id ∧ typeOf (.builtin id) = pure (.type "method_descriptor") ∧ ∀ ⦃w d cx ns b⦄, Here cx (GL w) d ns b → ∀ ⦃vs us P⦄, o vs us P → OwnOp cx id vs us P
noncomputable abbrev vOwn (j : Nat) (o : OwnM) (G : DL) : DV := fun w d ρ Q => ownF ρ[j]? fun _ => G w d ρ fun us ρ₁ => ownF ρ₁[j]? fun vs => o vs us fun v vs' => Q v (ρ₁.set j (some (.own vs')))
theorem SV.own {name : Str} {o : OwnM} {pl : Env → Sem Bool} (ho : OwnOk name o) (hn : ns[j]? = some (x, k)) (hk : plainK k = true) (h : SL ns b es G) (hp : Plain es) (he : MethEq (.Name x p0) name apos es pos pl) :
    SV ns b (.Call (.Attribute (.Name x p0) name apos) es [] pos) (vOwn j o G) := fun w d cx c ρ Q q => by
  obtain ⟨id, h1, h2, h3⟩ := ho
  obtain ⟨vs₀, h0, q⟩ := ownF_of q
  exact e_own c hn hk h1 h2 h0 ((h c pos q).mono fun us ρ₁ q => (ownF_of q).elim fun vs q => ⟨vs, q.1, h3 c q.2⟩) (hp _ _) (he _)
noncomputable def mAppend : OwnM := fun vs us P => on1 us fun u => vs.length ≤ 100000 ∧ P .none (vs ++ [u])
noncomputable def mReverse : OwnM := fun vs us P => us.casesOn (motive := fun _ => Prop) (vs.length ≤ 100000 ∧ P .none vs.reverse) fun _ _ => False
inductive PopP (vs us : List V) (P : V → List V → Prop) : Prop
  | mk (ws : List V) (u : V) (e : vs = ws ++ [u]) (e2 : us = []) (h : ws.length ≤ 100000) (q : P u ws)
inductive ExtP (vs us : List V) (P : V → List V → Prop) : Prop
  | mk (m n : Int) (e : vs = []) (e2 : us = [.rng m n]) (hs : Builtin.Range.small m n 1 = true) (hn : (n - m).toNat ≤ 1000) (q : P .none ((List.range (n - m).toNat).map fun i : Nat => .int (m + i)))
theorem ok_append : OwnOk "append" mAppend := ⟨"list.append", PySem.F.slot_list_append, rfl, fun w d cx ns b c vs us P q => by
  obtain ⟨u, rfl, q1⟩ := on1_of q
  exact own_append q1.1 q1.2⟩
theorem ok_reverse : OwnOk "reverse" mReverse := ⟨"list.reverse", PySem.F.slot_list_reverse, rfl, fun w d cx ns b c vs us P q => by
  cases us with
  | nil => exact own_reverse q.1 q.2
  | cons _ _ => exact q.elim⟩
theorem ok_pop : OwnOk "pop" PopP := ⟨"list.pop", PySem.F.slot_list_pop, rfl, fun w d cx ns b c vs us P q => by
  obtain ⟨ws, u, rfl, rfl, h, q⟩ := q
  exact own_pop h q⟩
theorem ok_extend : OwnOk "extend" ExtP := ⟨"list.extend", PySem.F.slot_list_extend, rfl, fun w d cx ns b c vs us P q => by
  obtain ⟨m, n, rfl, rfl, h, h2, q⟩ := q
  exact own_extend_rng c h h2 q⟩
noncomputable abbrev vLenO (j : Nat) : DV := fun w d ρ Q => ownF ρ[j]? fun vs => vs.length ≤ 100000 ∧ Q (.int vs.length) ρ
theorem SV.lenO (hb : GlobB ns "len" (.builtin "len")) (hn : ns[j]? = some (x, k)) (hk : plainK k = true) : SV ns b (.Call (.Name "len" fp) [.Name x p0] [] pos) (vLenO j) := fun w d cx c ρ Q q => by
  obtain ⟨vs, h0, q⟩ := ownF_of q
  exact e_lenOwn c (hb.is _) hb.mem hn hk h0 q.1 q.2
/-- a call that lends the list under a name -/
inductive LendP (w : World) (d : Nat) (a : Addr) (us vs : List V) (Q : V → List V → Prop) : Prop
  | mk (h : FnP (GL w) d a us vs Q)
noncomputable abbrev vLend (a : Addr) (j : Nat) (G : DL) : DV := fun w d ρ Q => ownF ρ[j]? fun _ => G w d ρ fun us ρ₁ => ownF ρ₁[j]? fun vs => LendP w d a us vs fun v vs' => Q v (ρ₁.set j (some (.own vs')))
theorem SV.lend {a : Addr} (hf : GlobFn ns f a) (hn : ns[j]? = some (x, k)) (hk : plainK k = true) (h : SL ns b es G) (hp : Plain (.Name x p0 :: es)) : SV ns b (.Call (.Name f fp) (.Name x p0 :: es) [] pos) (vLend a j G) := fun w d cx c ρ Q q => by
  obtain ⟨vs₀, h0, q⟩ := ownF_of q
  exact e_callP c hf.mem (hf.is _) (hf.kp _) hn hk h0 ((h c pos q).mono fun us ρ₁ q => (ownF_of q).elim fun vs q => ⟨vs, q.1, q.2.rec id⟩) (hp _ _)

-- items
/-- the item at a written place -/
noncomputable def itemO (n : Nat) (v : V) : Option V := v.casesOn (motive_1 := fun _ => Option V) none (fun _ => none) (fun _ => none) (fun _ => none) (fun us => us[n]?) (fun us => us[n]?) (fun _ _ => none) (fun _ _ => none)
noncomputable abbrev itemF (n : Nat) (v : V) (k : V → Prop) : Prop := (itemO n v).elim False k
theorem item_ok {n : Nat} {v : V} {k : V → Prop} (hn : (n : Int) < 2 ^ 63) (h : itemF n v k) : ItemP k v (.int n) := by
  cases v with
  | tup us =>
    have h : us[n]?.elim False k := h
    cases e : us[n]? with
    | none => rw [e] at h; exact h.elim
    | some u =>
      rw [e] at h
      refine ⟨u, .tup us n n rfl rfl (Int.le_trans (by decide) (Int.natCast_nonneg n)) hn ?_ e, h⟩
      obtain ⟨hl, _⟩ := List.getElem?_eq_some_iff.mp e
      have h0 : ¬ ((n : Int) < 0) := Int.not_lt.mpr (Int.natCast_nonneg n)
      unfold seqIndex?
      simp [h0, hl]
  | lst us =>
    have h : us[n]?.elim False k := h
    cases e : us[n]? with
    | none => rw [e] at h; exact h.elim
    | some u => rw [e] at h; exact ⟨u, .lst us n rfl rfl (Int.natCast_nonneg n) hn e, h⟩
  | _ => exact h.elim
noncomputable abbrev SubEq (e : Expr) : Prop := ∀ o i : Value, subscripted e false o i = operate [o, i] (getItem o i)
noncomputable abbrev vIt (n : Nat) (F : DV) : DV := fun w d ρ Q => F w d ρ fun v ρ₁ => itemF n v fun u => Q u ρ₁
theorem SV.it {n : Nat} {k : Nat} (h : SV ns b e F) (hn : (n : Int) < 2 ^ 63) (hs : SubEq (.Constant (.int n) k p0)) : SV ns b (.Subscript e (.Constant (.int n) k p0) pos) (vIt n F) := fun w d cx c ρ Q q => e_sub ((h c q).mono fun v ρ₁ q => ev_int (item_ok hn q)) hs
noncomputable abbrev vSub (F1 F2 : DV) : DV := fun w d ρ Q => F1 w d ρ fun v ρ₁ => F2 w d ρ₁ fun k ρ₂ => ItemP (fun u => Q u ρ₂) v k
theorem SV.sub (h1 : SV ns b e1 F1) (h2 : SV ns b e2 F2) (hs : SubEq e2) : SV ns b (.Subscript e1 e2 pos) (vSub F1 F2) := fun w d cx c ρ Q q => e_sub ((h1 c q).mono fun v ρ₁ q => h2 c q) hs
noncomputable abbrev vSubO (j : Nat) (F : DV) : DV := fun w d ρ Q => ownF ρ[j]? fun _ => F w d ρ fun v ρ₁ => OwnItem ρ j (fun u => Q u ρ₁) v ρ₁
theorem SV.subO (hn : ns[j]? = some (x, k)) (hk : plainK k = true) (h : SV ns b e F) (hs : SubEq e) : SV ns b (.Subscript (.Name x p0) e pos) (vSubO j F) := fun w d cx c ρ Q q => by
  obtain ⟨vs, h0, q⟩ := ownF_of q
  exact e_subO c hn hk h0 (h c q) hs
/-- the item of an own list at a written place -/
noncomputable abbrev vItO (j n : Nat) : DV := fun w d ρ Q => ownF ρ[j]? fun vs => vs[n]?.elim False fun u => Q u ρ
theorem SV.itO {n : Nat} {k' : Nat} (hn : ns[j]? = some (x, k)) (hk : plainK k = true) (h63 : (n : Int) < 2 ^ 63) (hs : SubEq (.Constant (.int n) k' p1)) : SV ns b (.Subscript (.Name x p0) (.Constant (.int n) k' p1) pos) (vItO j n) := fun w d cx c ρ Q q => by
  obtain ⟨vs, h0, q⟩ := ownF_of q
  cases e : vs[n]? with
  | none => rw [e] at q; exact q.elim
  | some u =>
    rw [e] at q
    exact e_subO c hn hk h0 (ev_int ⟨n, n, vs, u, rfl, h0, .inl ⟨Int.natCast_nonneg n, h63, rfl⟩, e, q⟩) hs
noncomputable def DP := World → Nat → Env' → (V → Env' → Prop) → Prop
noncomputable def SP (ns : Names) (b : Bool) (o : Option Expr) (F : DV) : Prop := ∀ ⦃w d cx⦄, Here cx (GL w) d ns b → ∀ ⦃ρ Q⦄, F w d ρ Q → EvP cx o ρ Q
theorem SP.no : SP ns b none (vC .none) := fun w d cx c ρ Q h => evp_none h
theorem SP.so (h : SV ns b e F) : SP ns b (some e) F := fun w d cx c ρ Q q => evp_some (h c q)
noncomputable abbrev vSlice (F F1 F2 : DV) : DV := fun w d ρ Q => F w d ρ fun v ρ₁ => F1 w d ρ₁ fun l ρ₂ => F2 w d ρ₂ fun u ρ₃ => SliceP (fun ws => Q (.lst ws) ρ₃) v l u
theorem EvP.mono {cx : Cx} {o : Option Expr} {ρ : Env'} {Q Q' : V → Env' → Prop} (h : EvP cx o ρ Q) (hq : ∀ v ρ', Q v ρ' → Q' v ρ') : EvP cx o ρ Q' := fun H vr s K i k => h H vr s K i fun x s v H' ρ' l i r q => k x s v H' ρ' l i r (hq v ρ' q)
theorem SV.slice {l u : Option Expr} (h : SV ns b (.Name x p0) F) (h1 : SP ns b l F1) (h2 : SP ns b u F2) : SV ns b (.Subscript (.Name x p0) (.Slice l u none p1) pos) (vSlice F F1 F2) := fun w d cx c ρ Q q => e_slice ((h c q).mono fun v ρ₁ q => (h1 c q).mono fun l ρ₂ q => h2 c q)
noncomputable abbrev vTail (F : DV) : DV := fun w d ρ Q => F w d ρ fun v ρ₁ => onT v fun vs => (1 ≤ vs.length ∧ vs.length ≤ 100000) ∧ Q (.tup (vs.drop 1)) ρ₁
theorem SV.tail {k : Nat} (h : SV ns b (.Name x p0) F) : SV ns b (.Subscript (.Name x p0) (.Slice (some (.Constant (.int 1) k p2)) none none p1) pos) (vTail F) := fun w d cx c ρ Q q => e_slice1_tup ((h c q).mono fun v ρ₁ q => onT_of q)
noncomputable abbrev vRev (F F1 : DV) : DV := fun w d ρ Q => F w d ρ fun v ρ₁ => ∃ l, v = .str (sOf l) ∧ l.length ≤ 3 ∧ F1 w d ρ₁ fun u ρ₂ => u = .int (-1) ∧ Q (.str (sOf l.reverse)) ρ₂
theorem SV.rev (h : SV ns b e F) (h1 : SV ns b e1 F1) (ht : ∀ o r, letTemporaryGo e o r = pure ()) : SV ns b (.Subscript e (.Slice none none (some e1) p1) pos) (vRev F F1) := fun w d cx c ρ Q q => e_rev c ((h c q).mono fun v ρ₁ ⟨l, h1', h2, q⟩ => ⟨l, h1', h2, h1 c q⟩) ht
noncomputable abbrev vDict3 (k1 k2 k3 : Str) (F1 F2 F3 F : DV) : DV := fun w d ρ Q => F1 w d ρ fun a1 ρ1 => F2 w d ρ1 fun a2 ρ2 => F3 w d ρ2 fun a3 ρ3 => F w d ρ3 fun k ρ4 => DictP k1 k2 k3 a1 a2 a3 (fun u => Q u ρ4) k
theorem SV.dict3 {k1 k2 k3 : Str} {c1 c2 c3 : Nat} (h1 : SV ns b e1 F1) (h2 : SV ns b e2 F2) (h3 : SV ns b e3 F3) (h : SV ns b e F) (hs : SubEq e) :
    SV ns b (.Subscript (.Dict [some (.Constant (.str k1) c1 p1), some (.Constant (.str k2) c2 p2), some (.Constant (.str k3) c3 p3)] [e1, e2, e3] p0) e pos) (vDict3 k1 k2 k3 F1 F2 F3 F) := fun w d cx c ρ Q q =>
  e_dict3 c (fun cx1 c1 => (h1 c1 q).mono fun _ _ q => (h2 c1 q).mono fun _ _ q => (h3 c1 q).mono fun _ _ q cx2 c2 => h c2 q) hs
end
end Mine

end
section
-- E3
open PySem PySem.W PySem.Calls PyProof.Rows
set_option Elab.async false
set_option linter.all false
set_option maxRecDepth 100000
set_option maxHeartbeats 4000000
set_option genInjectivity false
set_option genSizeOfSpec false
namespace Mine
theorem Src.mono {cx : Cx} {iter tgt : Expr} {ρ : Env'} {Q Q' : List V → Env' → Prop} (h : Src cx iter tgt ρ Q) (hq : ∀ v ρ', Q v ρ' → Q' v ρ') : Src cx iter tgt ρ Q' := fun H vr s K i k => h H vr s K i fun I as Z s vs H' ρ' T l i o z q => k I as Z s vs H' ρ' T l i o z (hq vs ρ' q)
section
variable {ns : Names} {b : Bool} {e e1 e2 e3 iter tgt elt : Expr} {es : List Expr} {pos pos' fp apos p0 p1 p2 p3 p4 p5 : Pos} {x y z f a : Str} {i j l : Nat} {k k2 k3 : NameKind} {F F1 F2 F3 : DV} {G G2 I : DL} {T : DB} {st : Stmt} {sts sts2 : List Stmt} {D D2 : DS}
noncomputable abbrev sNil : DS := fun _ _ ρ Qn _ => Qn ρ
noncomputable abbrev sSeq (D D2 : DS) : DS := fun w d ρ Qn Qr => D w d ρ (fun ρ₁ => D2 w d ρ₁ Qn Qr) Qr
theorem SS.nil : SS ns b [] sNil := fun w d cx c ρ Qn Qr h => ex_nil h
theorem SS.cons (h : S1 ns b st D) (h2 : SS ns b sts D2) : SS ns b (st :: sts) (sSeq D D2) := fun w d cx c ρ Qn Qr q => ex_cons ((h c q).cut fun _ q => h2 c q)
/-- the last statement, which hands back -/
theorem SS.one (h : S1 ns b st D) : SS ns b [st] D := fun w d cx c ρ Qn Qr q => ex_cons ((h c q).cut fun _ q => ex_nil q)
noncomputable abbrev sAsg (j : Nat) (F : DV) : DS := fun w d ρ Qn _ => F w d ρ fun v ρ₁ => Qn (ρ₁.set j (some (.val v)))
noncomputable abbrev NoSwap (e : Expr) (t : Option Expr) (n : Nat) : Prop := ∀ env, swapsWith e t n env = pure false
theorem S1.asg (hn : ns[j]? = some (x, k)) (hk : storeK b k = true) (h : SV ns b e F) (hs : NoSwap e (some (.Name x p0)) pos.line) : S1 ns b (.Assign [.Name x p0] e pos) (sAsg j F) := fun w d cx c ρ Qn Qr q => x_assign c ((h c q).mono fun v ρ₁ q => ⟨j, k, hn, hk, q⟩) (hs _)
noncomputable abbrev sAsgF (j : Nat) (G : DL) : DS := fun w d ρ Qn _ => G w d ρ fun vs ρ₁ => Qn (ρ₁.set j (some (.own vs)))
theorem S1.asgF (hn : ns[j]? = some (x, k)) (hk : storeK b k = true) (h : SF ns b e G) (hs : NoSwap e (some (.Name x p0)) pos.line) : S1 ns b (.Assign [.Name x p0] e pos) (sAsgF j G) := fun w d cx c ρ Qn Qr q => x_assignF c ((h c q).mono fun v ρ₁ q => ⟨j, k, hn, hk, q⟩) (hs _)
noncomputable abbrev sRet (F : DV) : DS := fun w d ρ _ Qr => F w d ρ fun v => Qr (.val v)
theorem S1.ret (h : SV ns b e F) : S1 ns b (.Return (some e) pos) (sRet F) := fun w d cx c ρ Qn Qr q => ex_return (h c q)
noncomputable abbrev sRetF (G : DL) : DS := fun w d ρ _ Qr => G w d ρ fun v => Qr (.fresh v)
theorem S1.retF (h : SF ns b e G) : S1 ns b (.Return (some e) pos) (sRetF G) := fun w d cx c ρ Qn Qr q => ex_returnF (h c q)
noncomputable abbrev sIf (T : DB) (D D2 : DS) : DS := fun w d ρ Qn Qr => T w d ρ fun c ρ₁ => Way c (D w d ρ₁ Qn Qr) (D2 w d ρ₁ Qn Qr)
theorem S1.ife (h : SB ns b e T) (h1 : SS ns b sts D) (h2 : SS ns b sts2 D2) : S1 ns b (.If e sts sts2 pos) (sIf T D D2) := fun w d cx c ρ Qn Qr q => ex_if ((h c q).mono fun _ _ q => q.mono (fun q => h1 c q) fun q => h2 c q)
noncomputable def onN (v : V) (P : Prop) : Prop := v.casesOn (motive_1 := fun _ => Prop) P (fun _ => False) (fun _ => False) (fun _ => False) (fun _ => False) (fun _ => False) (fun _ _ => False) (fun _ _ => False)
theorem onN_of {v : V} {P : Prop} (h : onN v P) : v = .none ∧ P := by cases v with | none => exact ⟨rfl, h⟩ | _ => exact h.elim
noncomputable abbrev sExp (F : DV) : DS := fun w d ρ Qn _ => F w d ρ fun v ρ₁ => onN v (Qn ρ₁)
theorem S1.exp (h : SV ns b e F) (hs : NoSwap e none pos.line) : S1 ns b (.Expr e pos) (sExp F) := fun w d cx c ρ Qn Qr q => x_expr c ((h c q).mono fun v ρ₁ q => onN_of q) (hs _)
noncomputable abbrev sSetI (j : Nat) (F F2 : DV) : DS := fun w d ρ Qn _ => F w d ρ fun v ρ₁ => ownF ρ₁[j]? fun _ => F2 w d ρ₁ fun iv ρ₂ => SetP ρ₁ j v Qn iv ρ₂
theorem S1.setI (hn : ns[j]? = some (x, k)) (hk : plainK k = true) (h : SV ns b e F) (h2 : SV ns b e2 F2) (hs : NoSwap e (some (.Subscript (.Name x p0) e2 p1)) pos.line) : S1 ns b (.Assign [.Subscript (.Name x p0) e2 p1] e pos) (sSetI j F F2) := fun w d cx c ρ Qn Qr q =>
  x_setI c hn hk ((h c q).mono fun v ρ₁ q => (ownF_of q).elim fun vs q => ⟨vs, q.1, h2 c q.2⟩) (hs _)

-- targets
noncomputable abbrev TgF := V → Env' → (Env' → Prop) → Prop
structure TgOk (ns : Names) (b : Bool) (tgt : Expr) (t : TgF) : Prop where
  form : TgtF tgt
  run : ∀ {v ρ} {Q Q' : Env' → Prop}, t v ρ Q → (∀ ρ, Q ρ → Q' ρ) → Tgt ns b tgt v ρ Q'
noncomputable abbrev tName (j : Nat) : TgF := fun v ρ Q => Q (ρ.set j (some (.val v)))
theorem TgOk.name (hn : ns[j]? = some (x, k)) (hk : storeK b k = true) : TgOk ns b (.Name x pos) (tName j) := ⟨.inl ⟨x, pos, rfl⟩, fun h hq => .name x pos rfl ⟨j, k, hn, hk, hq _ h⟩⟩
noncomputable abbrev tPair (i j : Nat) : TgF := fun v ρ Q => onT v fun vs => on2 vs fun u w => Q ((ρ.set i (some (.val u))).set j (some (.val w)))
theorem TgOk.pair {kk : Nat} (hn : ns[i]? = some (x, k)) (hk : storeK b k = true) (hn2 : ns[j]? = some (y, k2)) (hk2 : storeK b k2 = true) : TgOk ns b (.Tuple [.Name x p0, .Name y p1] kk pos) (tPair i j) := ⟨.inr ⟨_, kk, pos, rfl⟩, fun h hq => by
  obtain ⟨vs, rfl, h1⟩ := onT_of h
  obtain ⟨u, w, rfl, h2⟩ := on2_of h1
  exact .pair x p0 y p1 kk pos u w rfl rfl ⟨i, k, hn, hk, ⟨j, k2, hn2, hk2, hq _ h2⟩⟩⟩
noncomputable abbrev sUnp (t : TgF) (F : DV) : DS := fun w d ρ Qn _ => F w d ρ fun v ρ₁ => t v ρ₁ Qn
theorem S1.unp {kk : Nat} {t : TgF} (ht : TgOk ns b (.Tuple [.Name x p0, .Name y p1] kk p2) t) (h : SV ns b e F) (hs : ∀ env, swapsWithSole [.Tuple [.Name x p0, .Name y p1] kk p2] e pos.line env = pure false) (hw : ∀ env, swappedStores [.Tuple [.Name x p0, .Name y p1] kk p2] e env = pure none) :
    S1 ns b (.Assign [.Tuple [.Name x p0, .Name y p1] kk p2] e pos) (sUnp t F) := fun w d cx c ρ Qn Qr q => x_unpack c ((h c q).mono fun v ρ₁ q => ht.run q fun _ h => h) (hs _) (hw _)
theorem S1.unpC {kk kk2 : Nat} {t : TgF} (ht : TgOk ns b (.Tuple [.Name x p0, .Name y p1] kk p2) t) (hx : ns[j]? = some (x, .cell)) (h1 : (es.any fun | .Starred .. => true | _ => false) = false) (hl : es.length = 2) (h : SV ns b (.Tuple es kk2 p3) F)
    (hs : ∀ env, swapsWithSole [.Tuple [.Name x p0, .Name y p1] kk p2] (.Tuple es kk2 p3) pos.line env = pure false) : S1 ns b (.Assign [.Tuple [.Name x p0, .Name y p1] kk p2] (.Tuple es kk2 p3) pos) (sUnp t F) := fun w d cx c ρ Qn Qr q =>
  x_unpackC c (List.mem_of_getElem? hx) h1 hl ((h c q).mono fun v ρ₁ q => ht.run q fun _ h => h) (hs _)
noncomputable abbrev sSwap2 (i j : Nat) (F1 F2 : DV) : DS := fun w d ρ Qn _ => F1 w d ρ fun u ρ₁ => F2 w d ρ₁ fun v ρ₂ => Qn ((ρ₂.set j (some (.val v))).set i (some (.val u)))
theorem S1.swap2 {kk kk2 : Nat} (hx : ns[i]? = some (x, .local)) (hy : ns[j]? = some (y, .local)) (hq : (p1.line == p0.line) = true) (hxy : ([x, y].eraseDups.length != 2) = false) (h1 : ([e1, e2].any fun | .Starred .. => true | _ => false) = false) (h2 : [e1, e2].all (foldedForSure 8) = false) (h3 : [e1, e2].all (constantsAlone 8) = false)
    (a1 : SV ns b e1 F1) (a2 : SV ns b e2 F2) (he1 : ∀ env, starEach [e1, e2] env = (false, eval e1 env) :: starEach [e2] env) (he2 : ∀ env, starEach [e2] env = (false, eval e2 env) :: starEach [] env)
    (hs : ∀ env, swapsWithSole [.Tuple [.Name x p0, .Name y p1] kk p2] (.Tuple [e1, e2] kk2 p3) pos.line env = pure false) : S1 ns b (.Assign [.Tuple [.Name x p0, .Name y p1] kk p2] (.Tuple [e1, e2] kk2 p3) pos) (sSwap2 i j F1 F2) := fun w d cx c ρ Qn Qr q =>
  x_swapB c (List.mem_of_getElem? hx) (List.mem_of_getElem? hy) hq hxy h1 h2 h3 (ev_tuple (evs_cons ((a1 c q).mono fun u ρ₁ q => evs_cons ((a2 c q).mono fun v ρ₂ q => evs_nil ⟨(by decide : 2 ≤ 1000), u, v, rfl, j, _, hy, rfl, i, _, hx, rfl, q⟩) (he2 _)) (he1 _))) (hs _)
noncomputable abbrev sSwap3 (i j l : Nat) (F1 F2 F3 : DV) : DS := fun w d ρ Qn _ => F1 w d ρ fun u ρ₁ => F2 w d ρ₁ fun v ρ₂ => F3 w d ρ₂ fun o ρ₃ => Qn (((ρ₃.set l (some (.val o))).set j (some (.val v))).set i (some (.val u)))
theorem S1.swap3 {kk kk2 : Nat} (hx : ns[i]? = some (x, .local)) (hy : ns[j]? = some (y, .local)) (hz : ns[l]? = some (z, .local)) (hq : (p1.line == p0.line) = true) (hr : (p2.line == p0.line) = true) (hxy : ([x, y, z].eraseDups.length != 3) = false) (h1 : ([e1, e2, e3].any fun | .Starred .. => true | _ => false) = false) (h2 : [e1, e2, e3].all (foldedForSure 8) = false) (h3 : [e1, e2, e3].all (constantsAlone 8) = false)
    (a1 : SV ns b e1 F1) (a2 : SV ns b e2 F2) (a3 : SV ns b e3 F3) (he1 : ∀ env, starEach [e1, e2, e3] env = (false, eval e1 env) :: starEach [e2, e3] env) (he2 : ∀ env, starEach [e2, e3] env = (false, eval e2 env) :: starEach [e3] env) (he3 : ∀ env, starEach [e3] env = (false, eval e3 env) :: starEach [] env)
    (hs : ∀ env, swapsWithSole [.Tuple [.Name x p0, .Name y p1, .Name z p2] kk p3] (.Tuple [e1, e2, e3] kk2 p4) pos.line env = pure false) : S1 ns b (.Assign [.Tuple [.Name x p0, .Name y p1, .Name z p2] kk p3] (.Tuple [e1, e2, e3] kk2 p4) pos) (sSwap3 i j l F1 F2 F3) := fun w d cx c ρ Qn Qr q =>
  x_swap3 c (List.mem_of_getElem? hx) (List.mem_of_getElem? hy) (List.mem_of_getElem? hz) hq hr hxy h1 h2 h3
    (ev_tuple (evs_cons ((a1 c q).mono fun u ρ₁ q => evs_cons ((a2 c q).mono fun v ρ₂ q => evs_cons ((a3 c q).mono fun o ρ₃ q => evs_nil ⟨(by decide : 3 ≤ 1000), u, v, o, rfl, l, _, hz, rfl, j, _, hy, rfl, i, _, hx, rfl, q⟩) (he3 _)) (he2 _)) (he1 _))) (hs _)

-- loops
noncomputable def iterF (v : V) (k : List V → Prop) : Prop := v.casesOn (motive_1 := fun _ => Prop) False (fun _ => False) (fun _ => False) (fun x => x.cps.all (· < 128) = true ∧ k (x.cps.toList.map fun c => .str ⟨#[c]⟩)) k k (fun _ _ => False)
  fun a b => Builtin.Range.small a b 1 = true ∧ k ((List.range (b - a).toNat).map fun (i : Nat) => .int (a + (i : Int)))
theorem iter_ok {v : V} {k : List V → Prop} (h : iterF v k) : IterP k v := by
  cases v with
  | str x => exact ⟨_, ⟨h.1, rfl⟩, h.2⟩
  | tup x => exact ⟨_, rfl, h⟩
  | lst x => exact ⟨_, rfl, h⟩
  | rng a b => exact ⟨_, ⟨h.1, rfl⟩, h.2⟩
  | _ => exact h.elim
noncomputable abbrev lIter (F : DV) : DL := fun w d ρ Q => F w d ρ fun v ρ₁ => iterF v fun vs => Q vs ρ₁
theorem SI.val (ht : TgtF tgt) (h : SV ns b e F) : SI ns b e tgt (lIter F) := fun w d cx c ρ Q q => src_of c ht ((h c q).mono fun v ρ₁ q => iter_ok q)
noncomputable abbrev lEnum (F : DV) : DL := fun w d ρ Q => F w d ρ fun v ρ₁ => onL v fun ws => Q (en 0 ws) ρ₁
theorem SI.enum {kk : Nat} (hb : GlobB ns "enumerate" (.type "enumerate")) (h : SV ns b e F) (he : ∀ env, starEach [e] env = (false, eval e env) :: starEach [] env) (hp : Plain [e]) : SI ns b (.Call (.Name "enumerate" fp) [e] [] p0) (.Tuple es kk p1) (lEnum F) := fun w d cx c ρ Q q =>
  src_enum c (hb.is _) hb.mem (evs_cons ((h c q).mono fun v ρ₁ q => evs_nil ((onL_of q).elim fun ws q => ⟨ws, congrArg (fun v => [v]) q.1, q.2⟩)) (he _)) (hp _ _)
noncomputable abbrev sFor (I : DL) (t : TgF) (D : DS) : DS := fun w d ρ Qn Qr => I w d ρ (LoopI (fun J => ∀ u us ρ, J (u :: us) ρ → t u ρ fun ρ₂ => D w d ρ₂ (J us) Qr) Qn)
theorem S1.loop {t : TgF} (hi : SI ns b iter tgt I) (ht : TgOk ns b tgt t) (h : SS ns b sts D) (hs : ∀ env x, foldedSetIterable iter env x = pure x) : S1 ns b (.For tgt iter sts [] pos) (sFor I t D) := fun w d cx c ρ Qn Qr q =>
  x_for c ((hi c q).mono fun vs ρ₁ ⟨J, h0, step, fin⟩ => ⟨J, h0, fun u us ρ hJ => ht.run (step u us ρ hJ) fun ρ₂ q cx' c' => h c' q, fin⟩) (hs _)
inductive WhileP (T : Env' → (Bool → Env' → Prop) → Prop) (D : Env' → (Env' → Prop) → Prop) (Qn : Env' → Prop) (ρ : Env') : Prop
  | mk (ι : Type) (St : ι → Env') (P : ι → Prop) (μ : ι → Nat) (i₀ : ι) (h0 : P i₀) (hρ : ρ = St i₀) (step : ∀ i, P i → T (St i) fun c ρ₁ => Way c (D ρ₁ (NextI St P fun j => μ j < μ i)) (Qn ρ₁))
noncomputable abbrev sWhile (T : DB) (D : DS) : DS := fun w d ρ Qn Qr => WhileP (T w d) (fun ρ Q => D w d ρ Q Qr) Qn ρ
theorem S1.whl (h : SB ns b e T) (h1 : SS ns b sts D) : S1 ns b (.While e sts [] pos) (sWhile T D) := fun w d cx c ρ Qn Qr q => q.rec fun ι St P μ i₀ h0 hρ step => x_while St P μ i₀ h0 hρ fun i hp => (h c (step i hp)).mono fun _ _ q => q.mono (fun q => h1 c q) id

-- comprehensions
noncomputable def STs (ns : Names) (ifs : List Expr) (T : DB) : Prop := ∀ ⦃w d cx⦄, Here cx (GL w) d ns true → ∀ ⦃ρ Q⦄, T w d ρ Q → TestsP cx ifs ρ Q
theorem STs.nil : STs ns [] (bC true) := fun w d cx c ρ Q q => tests_nil q
theorem STs.one (h : SB ns true e T) : STs ns [e] T := fun w d cx c ρ Q q => tests_one (h c q)
theorem TestsP.mono {cx : Cx} {ifs : List Expr} {ρ : Env'} {Q Q' : Bool → Env' → Prop} (h : TestsP cx ifs ρ Q) (hq : ∀ v ρ', Q v ρ' → Q' v ρ') : TestsP cx ifs ρ Q' := fun H vr s K i k => h H vr s K i fun x s H' ρ' l i q => k x s H' ρ' l i (hq x ρ' q)
noncomputable abbrev DG := World → Nat → Env' → List V → (List V → Env' → Prop) → Prop
noncomputable def SG (ns : Names) (elt : Expr) (gs : List Comprehension) (G : DG) : Prop := ∀ ⦃w d ρ acc Q⦄, G w d ρ acc Q → GenP (GL w) d ns elt gs ρ acc Q
noncomputable abbrev gElt (F : DV) : DG := fun w d ρ acc Q => F w d ρ fun y ρ' => acc.length < 100000 ∧ Q (acc ++ [y]) ρ'
theorem SG.el (h : SV ns true elt F) : SG ns elt [] (gElt F) := fun w d ρ acc Q q cx c => h c q
noncomputable abbrev turnF (w : World) (d : Nat) (t : TgF) (T : DB) (G : DG) (J : List V → List V → Env' → Prop) : Prop := ∀ a u us ρ, J a (u :: us) ρ → t u ρ fun ρ₂ => T w d ρ₂ fun ok ρ₃ => Way ok (G w d ρ₃ a fun a' ρ₄ => J a' us ρ₄) (J a us ρ₃)
theorem turn_of {t : TgF} {G : DG} {gs : List Comprehension} {ifs : List Expr} (ht : TgOk ns true tgt t) (hT : STs ns ifs T) (hG : SG ns elt gs G) {w : World} {d : Nat} {J : List V → List V → Env' → Prop} (h : turnF w d t T G J) : TurnP (GL w) d ns tgt ifs (GenP (GL w) d ns elt gs) J :=
  fun a u us ρ hJ => ht.run (h a u us ρ hJ) fun ρ₂ q cx c => (hT c q).mono fun ok ρ₃ q => q.mono (fun q => hG q) id
noncomputable abbrev gFor (I : DL) (t : TgF) (T : DB) (G : DG) : DG := fun w d ρ acc Q => I w d ρ fun vs ρ₁ => LoopC (turnF w d t T G) Q acc vs ρ₁
theorem LoopC.map {A B : (List V → List V → Env' → Prop) → Prop} {Q Q' : List V → Env' → Prop} {acc vs : List V} {ρ : Env'} (h : LoopC A Q acc vs ρ) (hab : ∀ J, A J → B J) (hq : ∀ a ρ, Q a ρ → Q' a ρ) : LoopC B Q' acc vs ρ := h.rec fun J h0 step fin => ⟨J, h0, hab J step, fun a ρ q => hq a ρ (fin a ρ q)⟩
theorem SG.fo {t : TgF} {G : DG} {gs : List Comprehension} {ifs : List Expr} (hi : SI ns true iter tgt I) (ht : TgOk ns true tgt t) (hT : STs ns ifs T) (hG : SG ns elt gs G) (hs : ∀ env x, foldedSetIterable iter env x = pure x) : SG ns elt (⟨tgt, iter, ifs, 0⟩ :: gs) (gFor I t T G) := fun w d ρ acc Q q => ⟨hs, fun cx c => (hi c q).mono fun vs ρ₁ q => q.map (fun J => turn_of ht hT hG) fun _ _ => id⟩
noncomputable abbrev lComp (js : List (Option Nat)) (I : DL) (t : TgF) (T : DB) (G : DG) : DL := fun w d ρ Q => I w d ρ fun vs ρ₁ => LoopC (turnF w d t T G) (fun a _ => Q a ρ₁) [] vs (compEnv ρ₁ js)
structure CompD (ns : Names) (b : Bool) (elt tgt iter : Expr) (ifs : List Expr) (gs : List Comprehension) (scope : Scope) (js : List (Option Nat)) (I : DL) (t : TgF) (T : DB) (G : DG) : Prop where
  ok : CompOk ns scope
  at_ : compAt ns scope.names js = true
  zs : ∀ q ∈ gs, q.is_async = 0
  hs : ∀ env x, foldedSetIterable iter env x = pure x
  src : SI ns b iter tgt I
  tg : TgOk scope.names true tgt t
  ts : STs scope.names ifs T
  gen : SG scope.names elt gs G
section
variable {ifs : List Expr} {gs : List Comprehension} {scope : Scope} {js : List (Option Nat)} {t : TgF} {GG : DG}
theorem CompD.run (C : CompD ns b elt tgt iter ifs gs scope js I t T GG) {cx : Cx} {w : World} {d : Nat} (c : Here cx (GL w) d ns b) {ρ : Env'} {Q : List V → Env' → Prop} (q : lComp js I t T GG w d ρ Q) : Src cx iter tgt ρ fun vs ρ => CompP (GL w) d ns scope.names elt tgt ifs gs (fun a => Q a ρ) vs ρ :=
  (C.src c q).mono fun vs ρ₁ q => ⟨js, C.at_, q.map (fun J => turn_of C.tg C.ts C.gen) fun _ _ => id⟩
theorem SF.comp (C : CompD ns b elt tgt iter ifs gs scope js I t T GG) : SF ns b (.ListComp elt (⟨tgt, iter, ifs, 0⟩ :: gs) scope pos) (lComp js I t T GG) := fun w d cx c ρ Q q => f_comp c C.ok (C.run c q) C.zs (C.hs _)
theorem CompP.mono {g : Gl} {d : Nat} {nc : Names} {Q Q' : List V → Prop} {vs : List V} {ρ : Env'} (h : CompP g d ns nc elt tgt ifs gs Q vs ρ) (hq : ∀ a, Q a → Q' a) : CompP g d ns nc elt tgt ifs gs Q' vs ρ := h.rec fun js hj h => ⟨js, hj, h.map (fun _ => id) fun a _ => hq a⟩
theorem S1.compL (C : CompD ns b elt tgt iter ifs gs scope js I t T GG) (hn : ns[j]? = some (x, .local)) (hl : (p0.line == p1.line) = true) (hx : (scope.names.any fun p => p.1 == x && (p.2 == .local || p.2 == .cell)) = false) :
    S1 ns b (.Assign [.Name x p0] (.ListComp elt (⟨tgt, iter, ifs, 0⟩ :: gs) scope p1) pos) (sAsgF j (lComp js I t T GG)) := fun w d cx c ρ Qn Qr q =>
  x_compL c C.ok (List.mem_of_getElem? hn) hl hx ((C.run c q).mono fun vs ρ₁ q => q.mono fun a q => ⟨j, _, hn, rfl, q⟩) C.zs (C.hs _)
theorem S1.compC (C : CompD ns true elt tgt iter ifs gs scope js I t T GG) (hn : ns[j]? = some (x, .cell)) :
    S1 ns true (.Assign [.Name x p0] (.ListComp elt (⟨tgt, iter, ifs, 0⟩ :: gs) scope p1) pos) (sAsg j fun w d ρ Q => lComp js I t T GG w d ρ fun vs => Q (.lst vs)) := fun w d cx c ρ Qn Qr q =>
  x_compC c C.ok (List.mem_of_getElem? hn) ((C.run c q).mono fun vs ρ₁ q => q.mono fun a q => ⟨j, _, hn, rfl, q⟩) C.zs (C.hs _)
end
-- a list of the frame's own that is read as a value for a while
noncomputable abbrev bBor (j : Nat) (T : DB) : DB := fun w d ρ Q => ownF ρ[j]? fun vs => T w d ((dropOwn ρ).set j (some (.val (.lst vs)))) fun c ρ₁ => ρ₁ = (dropOwn ρ).set j (some (.val (.lst vs))) ∧ Q c ρ
theorem SB.bor (hn : ns[j]? = some (x, k)) (h : SB ns b e T) : SB ns b e (bBor j T) := fun w d cx c ρ Q q => by
  obtain ⟨vs, h0, q⟩ := ownF_of q
  exact tr_borrow c hn h0 fun cx' c' => h c' q
noncomputable abbrev vBor (j : Nat) (F : DV) : DV := fun w d ρ Q => ownF ρ[j]? fun vs => F w d ((dropOwn ρ).set j (some (.val (.lst vs)))) fun v ρ₁ => ρ₁ = (dropOwn ρ).set j (some (.val (.lst vs))) ∧ isAtom v = true ∧ Q v ρ
theorem SV.bor (hn : ns[j]? = some (x, k)) (h : SV ns b e F) : SV ns b e (vBor j F) := fun w d cx c ρ Q q => by
  obtain ⟨vs, h0, q⟩ := ownF_of q
  exact e_borrow c hn h0 fun cx' c' => h c' q

-- defs
theorem Ex.mono' {cx : Cx} {sts : List Stmt} {ρ : Env'} {Qn : Env' → Prop} {Qr Qr' : R → Env' → Prop} (h : Ex cx sts ρ Qn Qr) (hq : ∀ r ρ, Qr r ρ → Qr' r ρ) : Ex cx sts ρ Qn Qr' := fun H vr s K i kn kr => h H vr s K i kn fun x s r H' ρ' vr' l i rr q => kr x s r H' ρ' vr' l i rr (hq r ρ' q)
noncomputable abbrev DefF := World → Nat → List V → (R → Prop) → Prop
noncomputable abbrev DefLF := World → Nat → List V → List V → (V → List V → Prop) → Prop
/-- a def of the file, and what it does -/
inductive Def (a : Addr) (n : Nat) (E : DefF) : Prop
  | mk (fd : FuncData) (body : List Stmt) (ns : Names) (D : DS) (ok : ∀ w, FnOk (GL w) a fd n body) (en : fd.scope.names = ns) (h : SS ns true body D) (e : E = fun w d vs Q => D w d (initEnv ns vs) (fun _ => Q (.val .none)) fun r _ => Q r)
theorem Def.fn {a : Addr} {n : Nat} {E : DefF} (h : Def a n E) {w : World} {d : Nat} {vs : List V} {Q : R → Prop} (hn : vs.length = n) (q : E w d vs Q) : Fn (GL w) (d + 1) a vs Q := by
  obtain ⟨fd, body, ns, D, ok, rfl, h, rfl⟩ := h
  subst hn
  exact fn_intro (ok w) fun cx c => h c q
structure FnD (a : Addr) (n : Nat) where
  fd : FuncData
  body : List Stmt
  ns : Names
  ok : ∀ w, FnOk (GL w) a fd n body
  en : fd.scope.names = ns
noncomputable def FnD.den {a : Addr} {n : Nat} (F : FnD a n) {D : DS} (h : SS F.ns true F.body D) : {E : DefF // Def a n E} := ⟨_, .mk F.fd F.body F.ns D F.ok F.en h rfl⟩
inductive DefL (a : Addr) (n : Nat) (E : DefLF) : Prop
  | mk (fd : FuncData) (body : List Stmt) (x : Str) (nt : Names) (D : DS) (ok : ∀ w, FnOk (GL w) a fd (n + 1) body) (en : fd.scope.names = (x, .local) :: nt) (h : SS ((x, .globalExplicit) :: nt) true body D)
    (e : E = fun w d vs ws Q => D w d (some (.own ws) :: initEnv nt vs) (fun _ => False) fun r ρ => r.rec (fun v => ownF ρ[0]? fun ws' => Q v ws') fun _ => False)
structure FnDL (a : Addr) (n : Nat) where
  fd : FuncData
  body : List Stmt
  x : Str
  nt : Names
  ok : ∀ w, FnOk (GL w) a fd (n + 1) body
  en : fd.scope.names = (x, .local) :: nt
noncomputable def FnDL.den {a : Addr} {n : Nat} (F : FnDL a n) {D : DS} (h : SS ((F.x, .globalExplicit) :: F.nt) true F.body D) : {E : DefLF // DefL a n E} := ⟨_, .mk F.fd F.body F.x F.nt D F.ok F.en h rfl⟩
theorem DefL.fn {a : Addr} {n : Nat} {E : DefLF} (h : DefL a n E) {w : World} {d : Nat} {vs ws : List V} {Q : V → List V → Prop} (hn : vs.length = n) (q : E w d vs ws Q) : FnP (GL w) (d + 1) a vs ws Q := by
  obtain ⟨fd, body, x, nt, D, ok, en, h, rfl⟩ := h
  subst hn
  exact pin_intro (ok w) en fun cx _ c => (h c q).mono' fun r ρ q => by
    cases r with
    | val v => exact (ownF_of q).elim fun ws' q => ⟨v, ws', rfl, q⟩
    | fresh vs => exact q.elim
theorem bnd0 {P : List Value → Prop} (h : P []) : ∀ xs : List Value, xs.length = 0 → P xs := fun xs e => (List.length_eq_zero_iff.mp e) ▸ h
theorem bnd1 {P : List Value → Prop} (h : ∀ x, P [x]) : ∀ xs : List Value, xs.length = 1 → P xs := fun xs => xs.casesOn (motive := fun xs => xs.length = 1 → P xs) (fun e => nomatch e) fun x xs e => bnd0 (P := fun xs => P (x :: xs)) (h x) xs (Nat.succ.inj e)
theorem bnd2 {P : List Value → Prop} (h : ∀ x y, P [x, y]) : ∀ xs : List Value, xs.length = 2 → P xs := fun xs => xs.casesOn (motive := fun xs => xs.length = 2 → P xs) (fun e => nomatch e) fun x xs e => bnd1 (P := fun xs => P (x :: xs)) (h x) xs (Nat.succ.inj e)
theorem bnd3 {P : List Value → Prop} (h : ∀ x y z, P [x, y, z]) : ∀ xs : List Value, xs.length = 3 → P xs := fun xs => xs.casesOn (motive := fun xs => xs.length = 3 → P xs) (fun e => nomatch e) fun x xs e => bnd2 (P := fun xs => P (x :: xs)) (h x) xs (Nat.succ.inj e)
theorem bnd4 {P : List Value → Prop} (h : ∀ x y z u, P [x, y, z, u]) : ∀ xs : List Value, xs.length = 4 → P xs := fun xs => xs.casesOn (motive := fun xs => xs.length = 4 → P xs) (fun e => nomatch e) fun x xs e => bnd3 (P := fun xs => P (x :: xs)) (h x) xs (Nat.succ.inj e)
structure GlobA (f : Str) (a : Addr) : Prop where
  is : ∀ w, nsIn (GL w).K mainGlobals f = some (some (.ref a))
  kp : ∀ w, keepIn (GL w).K (.ref a) = true
theorem GlobFn.of {a : Addr} (hn : ns[j]? = some (f, .globalImplicit)) (g : GlobA f a) : GlobFn ns f a := ⟨⟨j, hn⟩, g.is, g.kp⟩
structure GlobBA (f : Str) (fv : Value) : Prop where
  is : ∀ w, nsIn (GL w).K mainGlobals f = some none
  bt : bootBuiltins f = some fv
  ne : f ≠ "__name__"
  mv : machineV fv = true
theorem GlobB.of {fv : Value} (hn : ns[j]? = some (f, .globalImplicit)) (g : GlobBA f fv) : GlobB ns f fv := ⟨⟨j, hn⟩, g.is, g.bt, g.ne, g.mv⟩
end
end Mine

end
section
-- E4
open PySem PySem.W PySem.Calls PyProof.Rows
set_option Elab.async false
set_option linter.all false
set_option maxRecDepth 100000
set_option maxHeartbeats 4000000
set_option genInjectivity false
set_option genSizeOfSpec false
namespace Mine
theorem g_spine : GlobA "spine" 298 := ⟨fun _ => by kernel_rfl, fun _ => by kernel_rfl⟩
theorem g_cat_all : GlobA "cat_all" 305 := ⟨fun _ => by kernel_rfl, fun _ => by kernel_rfl⟩
theorem g_alt_all : GlobA "alt_all" 312 := ⟨fun _ => by kernel_rfl, fun _ => by kernel_rfl⟩
theorem g_can_be_empty : GlobA "can_be_empty" 319 := ⟨fun _ => by kernel_rfl, fun _ => by kernel_rfl⟩
theorem g_least_length : GlobA "least_length" 326 := ⟨fun _ => by kernel_rfl, fun _ => by kernel_rfl⟩
theorem g_most_length : GlobA "most_length" 333 := ⟨fun _ => by kernel_rfl, fun _ => by kernel_rfl⟩
theorem g_most_of_row : GlobA "most_of_row" 340 := ⟨fun _ => by kernel_rfl, fun _ => by kernel_rfl⟩
theorem g_most_of_loop : GlobA "most_of_loop" 347 := ⟨fun _ => by kernel_rfl, fun _ => by kernel_rfl⟩
theorem g_fixed_length : GlobA "fixed_length" 354 := ⟨fun _ => by kernel_rfl, fun _ => by kernel_rfl⟩
theorem g_least_word : GlobA "least_word" 361 := ⟨fun _ => by kernel_rfl, fun _ => by kernel_rfl⟩
theorem g_charsets : GlobA "charsets" 366 := ⟨fun _ => by kernel_rfl, fun _ => by kernel_rfl⟩
theorem g_node_count : GlobA "node_count" 373 := ⟨fun _ => by kernel_rfl, fun _ => by kernel_rfl⟩
theorem g_loop_like : GlobA "loop_like" 380 := ⟨fun _ => by kernel_rfl, fun _ => by kernel_rfl⟩
theorem g_mirrored : GlobA "mirrored" 385 := ⟨fun _ => by kernel_rfl, fun _ => by kernel_rfl⟩
theorem g__law_pen : GlobA "_law_pen" 560 := ⟨fun _ => by kernel_rfl, fun _ => by kernel_rfl⟩
theorem g__law_draw : GlobA "_law_draw" 567 := ⟨fun _ => by kernel_rfl, fun _ => by kernel_rfl⟩
theorem g__law_tree : GlobA "_law_tree" 574 := ⟨fun _ => by kernel_rfl, fun _ => by kernel_rfl⟩
theorem g__law_node : GlobA "_law_node" 579 := ⟨fun _ => by kernel_rfl, fun _ => by kernel_rfl⟩
theorem g__law_bounds : GlobA "_law_bounds" 586 := ⟨fun _ => by kernel_rfl, fun _ => by kernel_rfl⟩
theorem g__law_ends : GlobA "_law_ends" 593 := ⟨fun _ => by kernel_rfl, fun _ => by kernel_rfl⟩
theorem g__law_words : GlobA "_law_words" 598 := ⟨fun _ => by kernel_rfl, fun _ => by kernel_rfl⟩
theorem g__law_leaves : GlobA "_law_leaves" 605 := ⟨fun _ => by kernel_rfl, fun _ => by kernel_rfl⟩
theorem g__law_lengths_right : GlobA "_law_lengths_right" 612 := ⟨fun _ => by kernel_rfl, fun _ => by kernel_rfl⟩
theorem g_Empty : GlobA "Empty" 99 := ⟨fun _ => by kernel_rfl, fun _ => by kernel_rfl⟩
theorem g_Never : GlobA "Never" 111 := ⟨fun _ => by kernel_rfl, fun _ => by kernel_rfl⟩
theorem g_Chars : GlobA "Chars" 137 := ⟨fun _ => by kernel_rfl, fun _ => by kernel_rfl⟩
theorem g_Cat : GlobA "Cat" 182 := ⟨fun _ => by kernel_rfl, fun _ => by kernel_rfl⟩
theorem g_Alt : GlobA "Alt" 194 := ⟨fun _ => by kernel_rfl, fun _ => by kernel_rfl⟩
theorem g_Star : GlobA "Star" 239 := ⟨fun _ => by kernel_rfl, fun _ => by kernel_rfl⟩
theorem g_Plus : GlobA "Plus" 251 := ⟨fun _ => by kernel_rfl, fun _ => by kernel_rfl⟩
theorem g_Opt : GlobA "Opt" 263 := ⟨fun _ => by kernel_rfl, fun _ => by kernel_rfl⟩
theorem g_Repeat : GlobA "Repeat" 289 := ⟨fun _ => by kernel_rfl, fun _ => by kernel_rfl⟩
theorem g_CharSet : GlobA "CharSet" 551 := ⟨fun _ => by kernel_rfl, fun _ => by kernel_rfl⟩
theorem gb_len : GlobBA "len" (.builtin "len") := ⟨fun _ => by kernel_rfl, PySem.boot_len, by decide, rfl⟩
theorem gb_max : GlobBA "max" (.builtin "max") := ⟨fun _ => by kernel_rfl, PyProof.Rows.boot_max, by decide, rfl⟩
theorem gb_min : GlobBA "min" (.builtin "min") := ⟨fun _ => by kernel_rfl, PyProof.Rows.boot_min, by decide, rfl⟩
theorem gb_int : GlobBA "int" (.type "int") := ⟨fun _ => by kernel_rfl, PyProof.Rows.boot_int, by decide, rfl⟩
theorem gb_abs : GlobBA "abs" (.builtin "abs") := ⟨fun _ => by kernel_rfl, PyProof.Rows.boot_abs, by decide, rfl⟩
theorem gb_ord : GlobBA "ord" (.builtin "ord") := ⟨fun _ => by kernel_rfl, PyProof.Rows.boot_ord, by decide, rfl⟩
theorem gb_chr : GlobBA "chr" (.builtin "chr") := ⟨fun _ => by kernel_rfl, PyProof.Rows.boot_chr, by decide, rfl⟩
theorem gb_range : GlobBA "range" (.type "range") := ⟨fun _ => by kernel_rfl, PyProof.Rows.boot_range, by decide, rfl⟩
theorem gb_tuple : GlobBA "tuple" (.type "tuple") := ⟨fun _ => by kernel_rfl, PyProof.Rows.boot_tuple, by decide, rfl⟩
theorem gb_list : GlobBA "list" (.type "list") := ⟨fun _ => by kernel_rfl, PyProof.Rows.boot_list, by decide, rfl⟩
theorem gb_sorted : GlobBA "sorted" (.builtin "sorted") := ⟨fun _ => by kernel_rfl, PyProof.Rows.boot_sorted, by decide, rfl⟩
theorem gb_isinstance : GlobBA "isinstance" (.builtin "isinstance") := ⟨fun _ => by kernel_rfl, PyProof.Rows.boot_isinstance, by decide, rfl⟩
theorem gb_enumerate : GlobBA "enumerate" (.type "enumerate") := ⟨fun _ => by kernel_rfl, PyProof.Rows.boot_enumerate, by decide, rfl⟩
theorem gb_set : GlobBA "set" (.type "set") := ⟨fun _ => by kernel_rfl, PyProof.Rows.boot_set, by decide, rfl⟩
theorem st_of : ∃ rest, ∀ w, StatOk (GL w).K 551 "of" 436 434 rest := ⟨_, fun w => ⟨by kernel_rfl, by kernel_rfl, by kernel_rfl, by with_unfolding_all exact rfl, by kernel_rfl⟩⟩
theorem st_made : ∃ rest, ∀ w, StatOk (GL w).K 551 "made" 456 454 rest := ⟨_, fun w => ⟨by kernel_rfl, by kernel_rfl, by kernel_rfl, by with_unfolding_all exact rfl, by kernel_rfl⟩⟩
theorem g_MOST_REPEAT : ∃ t, ∀ w, nsIn (GL w).K mainGlobals "MOST_REPEAT" = some (some (.int 40 t)) := ⟨_, fun w => by with_unfolding_all exact rfl⟩
theorem g_TOP : ∃ t, ∀ w, nsIn (GL w).K mainGlobals "TOP" = some (some (.int 127 t)) := ⟨_, fun w => by with_unfolding_all exact rfl⟩
end Mine

end
section
-- E5
open PySem PySem.W PySem.Calls PyProof.Rows
set_option Elab.async false
set_option linter.all false
set_option maxRecDepth 100000
set_option maxHeartbeats 4000000
set_option genInjectivity false
set_option genSizeOfSpec false
namespace Mine
noncomputable def f_m_charsTold : FnD 134 1 := by
  refine' ⟨_, _, [_], (fun w => ⟨⟨_, _, _, ?obj⟩, ?code, ?bind, ?names, ?nodup, ?body, ?clo, ?co, ?gen, ?kind, ?glob, ?built⟩), ?en⟩
  case obj => with_unfolding_all exact rfl
  case en => with_unfolding_all exact rfl
  case code => kernel_rfl
  case bind => exact bnd1 fun _ => rfl
  case names => decide +kernel
  case nodup => decide +kernel
  case body => rfl
  case clo => rfl
  case co => rfl
  case gen => rfl
  case kind => rfl
  case glob => rfl
  case built => rfl
noncomputable def d_m_charsTold := f_m_charsTold.den (.one (.ret (.tup (.cons (.att (.nm (j:=0) rfl (by rfl)) (fun _ => by with_unfolding_all rfl)) (.cons (.meth (.att (.nm (j:=0) rfl (by rfl)) (fun _ => by with_unfolding_all rfl)) (fun _ => rfl)) .nil (fun _ => rfl)) (fun _ => rfl)))))
noncomputable def f_m_nodeParts : FnD 75 1 := by
  refine' ⟨_, _, [_], (fun w => ⟨⟨_, _, _, ?obj⟩, ?code, ?bind, ?names, ?nodup, ?body, ?clo, ?co, ?gen, ?kind, ?glob, ?built⟩), ?en⟩
  case obj => with_unfolding_all exact rfl
  case en => with_unfolding_all exact rfl
  case code => kernel_rfl
  case bind => exact bnd1 fun _ => rfl
  case names => decide +kernel
  case nodup => decide +kernel
  case body => rfl
  case clo => rfl
  case co => rfl
  case gen => rfl
  case kind => rfl
  case glob => rfl
  case built => rfl
noncomputable def d_m_nodeParts := f_m_nodeParts.den (.one (.retF (.lst .nil)))
noncomputable def f_m_nodeTold : FnD 82 1 := by
  refine' ⟨_, _, [_], (fun w => ⟨⟨_, _, _, ?obj⟩, ?code, ?bind, ?names, ?nodup, ?body, ?clo, ?co, ?gen, ?kind, ?glob, ?built⟩), ?en⟩
  case obj => with_unfolding_all exact rfl
  case en => with_unfolding_all exact rfl
  case code => kernel_rfl
  case bind => exact bnd1 fun _ => rfl
  case names => decide +kernel
  case nodup => decide +kernel
  case body => rfl
  case clo => rfl
  case co => rfl
  case gen => rfl
  case kind => rfl
  case glob => rfl
  case built => rfl
noncomputable def d_m_nodeTold := f_m_nodeTold.den (.one (.ret (.tup (.cons (.att (.nm (j:=0) rfl (by rfl)) (fun _ => by with_unfolding_all rfl)) .nil (fun _ => rfl)))))
noncomputable def f_m_pairParts : FnD 160 1 := by
  refine' ⟨_, _, [_], (fun w => ⟨⟨_, _, _, ?obj⟩, ?code, ?bind, ?names, ?nodup, ?body, ?clo, ?co, ?gen, ?kind, ?glob, ?built⟩), ?en⟩
  case obj => with_unfolding_all exact rfl
  case en => with_unfolding_all exact rfl
  case code => kernel_rfl
  case bind => exact bnd1 fun _ => rfl
  case names => decide +kernel
  case nodup => decide +kernel
  case body => rfl
  case clo => rfl
  case co => rfl
  case gen => rfl
  case kind => rfl
  case glob => rfl
  case built => rfl
noncomputable def d_m_pairParts := f_m_pairParts.den (.one (.retF (.lst (.cons (.att (.nm (j:=0) rfl (by rfl)) (fun _ => by with_unfolding_all rfl)) (.cons (.att (.nm (j:=0) rfl (by rfl)) (fun _ => by with_unfolding_all rfl)) .nil (fun _ => rfl)) (fun _ => rfl)))))
noncomputable def f_m_pairTold : FnD 167 1 := by
  refine' ⟨_, _, [_, _, _, _, _], (fun w => ⟨⟨_, _, _, ?obj⟩, ?code, ?bind, ?names, ?nodup, ?body, ?clo, ?co, ?gen, ?kind, ?glob, ?built⟩), ?en⟩
  case obj => with_unfolding_all exact rfl
  case en => with_unfolding_all exact rfl
  case code => kernel_rfl
  case bind => exact bnd1 fun _ => rfl
  case names => decide +kernel
  case nodup => decide +kernel
  case body => rfl
  case clo => rfl
  case co => rfl
  case gen => rfl
  case kind => rfl
  case glob => rfl
  case built => rfl
noncomputable def d_m_pairTold := f_m_pairTold.den (.cons (.asg (j:=1) rfl (by rfl) (.call (.of (j:=4) rfl g_spine) (.cons (.nm (j:=0) rfl (by rfl)) .nil (fun _ => rfl)) (fun _ _ => rfl)) (fun _ => rfl)) (.cons (.asg (j:=2) rfl (by rfl) (.meth (.it (.nm (j:=1) rfl (by rfl)) (by decide) (fun _ _ => rfl)) (fun _ => rfl)) (fun _ => rfl)) (.cons (.loop (.val (.inl ⟨_, _, rfl⟩) (.slice (.nm (j:=1) rfl (by rfl)) (.so .int) .no)) (.name (j:=3) rfl (by rfl)) (.one (.asg (j:=2) rfl (by rfl) (.tup (.cons (.att (.nm (j:=0) rfl (by rfl)) (fun _ => by with_unfolding_all rfl)) (.cons (.nm (j:=2) rfl (by rfl)) (.cons (.meth (.nm (j:=3) rfl (by rfl)) (fun _ => rfl)) .nil (fun _ => rfl)) (fun _ => rfl)) (fun _ => rfl))) (fun _ => rfl))) (fun _ _ => rfl)) (.one (.ret (.nm (j:=2) rfl (by rfl)))))))
noncomputable def f_m_loopParts : FnD 217 1 := by
  refine' ⟨_, _, [_], (fun w => ⟨⟨_, _, _, ?obj⟩, ?code, ?bind, ?names, ?nodup, ?body, ?clo, ?co, ?gen, ?kind, ?glob, ?built⟩), ?en⟩
  case obj => with_unfolding_all exact rfl
  case en => with_unfolding_all exact rfl
  case code => kernel_rfl
  case bind => exact bnd1 fun _ => rfl
  case names => decide +kernel
  case nodup => decide +kernel
  case body => rfl
  case clo => rfl
  case co => rfl
  case gen => rfl
  case kind => rfl
  case glob => rfl
  case built => rfl
noncomputable def d_m_loopParts := f_m_loopParts.den (.one (.retF (.lst (.cons (.att (.nm (j:=0) rfl (by rfl)) (fun _ => by with_unfolding_all rfl)) .nil (fun _ => rfl)))))
noncomputable def f_m_loopTold : FnD 224 1 := by
  refine' ⟨_, _, [_], (fun w => ⟨⟨_, _, _, ?obj⟩, ?code, ?bind, ?names, ?nodup, ?body, ?clo, ?co, ?gen, ?kind, ?glob, ?built⟩), ?en⟩
  case obj => with_unfolding_all exact rfl
  case en => with_unfolding_all exact rfl
  case code => kernel_rfl
  case bind => exact bnd1 fun _ => rfl
  case names => decide +kernel
  case nodup => decide +kernel
  case body => rfl
  case clo => rfl
  case co => rfl
  case gen => rfl
  case kind => rfl
  case glob => rfl
  case built => rfl
noncomputable def d_m_loopTold := f_m_loopTold.den (.one (.ret (.tup (.cons (.att (.nm (j:=0) rfl (by rfl)) (fun _ => by with_unfolding_all rfl)) (.cons (.meth (.att (.nm (j:=0) rfl (by rfl)) (fun _ => by with_unfolding_all rfl)) (fun _ => rfl)) .nil (fun _ => rfl)) (fun _ => rfl)))))
noncomputable def f_m_repTold : FnD 286 1 := by
  refine' ⟨_, _, [_], (fun w => ⟨⟨_, _, _, ?obj⟩, ?code, ?bind, ?names, ?nodup, ?body, ?clo, ?co, ?gen, ?kind, ?glob, ?built⟩), ?en⟩
  case obj => with_unfolding_all exact rfl
  case en => with_unfolding_all exact rfl
  case code => kernel_rfl
  case bind => exact bnd1 fun _ => rfl
  case names => decide +kernel
  case nodup => decide +kernel
  case body => rfl
  case clo => rfl
  case co => rfl
  case gen => rfl
  case kind => rfl
  case glob => rfl
  case built => rfl
noncomputable def d_m_repTold := f_m_repTold.den (.one (.ret (.tup (.cons (.att (.nm (j:=0) rfl (by rfl)) (fun _ => by with_unfolding_all rfl)) (.cons (.meth (.att (.nm (j:=0) rfl (by rfl)) (fun _ => by with_unfolding_all rfl)) (fun _ => rfl)) (.cons (.att (.nm (j:=0) rfl (by rfl)) (fun _ => by with_unfolding_all rfl)) (.cons (.att (.nm (j:=0) rfl (by rfl)) (fun _ => by with_unfolding_all rfl)) .nil (fun _ => rfl)) (fun _ => rfl)) (fun _ => rfl)) (fun _ => rfl)))))
noncomputable def f_m_of : FnD 434 1 := by
  refine' ⟨_, _, [_, _], (fun w => ⟨⟨_, _, _, ?obj⟩, ?code, ?bind, ?names, ?nodup, ?body, ?clo, ?co, ?gen, ?kind, ?glob, ?built⟩), ?en⟩
  case obj => with_unfolding_all exact rfl
  case en => with_unfolding_all exact rfl
  case code => kernel_rfl
  case bind => exact bnd1 fun _ => rfl
  case names => decide +kernel
  case nodup => decide +kernel
  case body => rfl
  case clo => rfl
  case co => rfl
  case gen => rfl
  case kind => rfl
  case glob => rfl
  case built => rfl
noncomputable def d_m_of := f_m_of.den (.one (.ret (.stat ⟨1, rfl⟩ g_CharSet.1 st_made (.cons (.ofF (.comp (js := [none, none, none]) ⟨⟨by decide +kernel, by decide +kernel, by decide +kernel, rfl⟩, rfl, (fun _ h => nomatch h), (fun _ _ => rfl), (.val (.inl ⟨_, _, rfl⟩) (.nm (j:=0) rfl (by rfl))), (.name (j:=1) rfl (by rfl)), .nil, (.el (.tup (.cons (.blt (.of (j:=2) rfl gb_ord) ok_ord (.cons (.nm (j:=1) rfl (by rfl)) .nil (fun _ => rfl)) (fun _ _ => rfl)) (.cons (.blt (.of (j:=2) rfl gb_ord) ok_ord (.cons (.nm (j:=1) rfl (by rfl)) .nil (fun _ => rfl)) (fun _ _ => rfl)) .nil (fun _ => rfl)) (fun _ => rfl))))⟩)) .nil (fun _ => rfl)) (fun _ _ => rfl) (fun _ => rfl))))
noncomputable def f_m_made : FnD 454 1 := by
  refine' ⟨_, _, [_, _, _, _, _, _, _, _, _, _, _, _, _], (fun w => ⟨⟨_, _, _, ?obj⟩, ?code, ?bind, ?names, ?nodup, ?body, ?clo, ?co, ?gen, ?kind, ?glob, ?built⟩), ?en⟩
  case obj => with_unfolding_all exact rfl
  case en => with_unfolding_all exact rfl
  case code => kernel_rfl
  case bind => exact bnd1 fun _ => rfl
  case names => decide +kernel
  case nodup => decide +kernel
  case body => rfl
  case clo => rfl
  case co => rfl
  case gen => rfl
  case kind => rfl
  case glob => rfl
  case built => rfl
noncomputable def d_m_made := f_m_made.den (.cons (.asgF (j:=1) rfl (by rfl) (.lst .nil) (fun _ => rfl)) (.cons (.loop (.val (.inr ⟨_, _, _, rfl⟩) (.nm (j:=0) rfl (by rfl))) (.pair (i:=2) (j:=3) rfl (by rfl) rfl (by rfl)) (.cons (.asg (j:=4) rfl (by rfl) (.blt (.of (j:=7) rfl gb_max) ok_max (.cons (.nm (j:=2) rfl (by rfl)) (.cons .int .nil (fun _ => rfl)) (fun _ => rfl)) (fun _ _ => rfl)) (fun _ => rfl)) (.cons (.asg (j:=5) rfl (by rfl) (.blt (.of (j:=8) rfl gb_min) ok_min (.cons (.nm (j:=3) rfl (by rfl)) (.cons (.glob (j:=9) rfl g_TOP) .nil (fun _ => rfl)) (fun _ => rfl)) (fun _ _ => rfl)) (fun _ => rfl)) (.one (.ife (.cmp ok_le (.nm (j:=4) rfl (by rfl)) (.nm (j:=5) rfl (by rfl)) rfl) (.one (.exp (.own ok_append (j:=1) rfl (by rfl) (.cons (.tup (.cons (.nm (j:=4) rfl (by rfl)) (.cons (.nm (j:=5) rfl (by rfl)) .nil (fun _ => rfl)) (fun _ => rfl))) .nil (fun _ => rfl)) (fun _ _ => rfl) (fun _ => rfl)) (fun _ => rfl))) .nil)))) (fun _ _ => rfl)) (.cons (.asgF (j:=6) rfl (by rfl) (.lst .nil) (fun _ => rfl)) (.cons (.loop (.val (.inr ⟨_, _, _, rfl⟩) (.blt (.of (j:=10) rfl gb_sorted) ok_sorted (.cons (.nm (j:=1) rfl (by rfl)) .nil (fun _ => rfl)) (fun _ _ => rfl))) (.pair (i:=4) (j:=5) rfl (by rfl) rfl (by rfl)) (.one (.ife (.all (.and (.bor (j:=6) rfl (.val (.nm (j:=6) rfl (by rfl)) (fun _ => rfl))) (.and (.cmp ok_le (.nm (j:=4) rfl (by rfl)) (.bin ok_add (.it (.subO (j:=6) rfl (by rfl) (.neg .int) (fun _ _ => rfl)) (by decide) (fun _ _ => rfl)) .int) rfl) .andN))) (.one (.ife (.cmp ok_gt (.nm (j:=5) rfl (by rfl)) (.it (.subO (j:=6) rfl (by rfl) (.neg .int) (fun _ _ => rfl)) (by decide) (fun _ _ => rfl)) rfl) (.one (.setI (j:=6) rfl (by rfl) (.tup (.cons (.it (.subO (j:=6) rfl (by rfl) (.neg .int) (fun _ _ => rfl)) (by decide) (fun _ _ => rfl)) (.cons (.nm (j:=5) rfl (by rfl)) .nil (fun _ => rfl)) (fun _ => rfl))) (.neg .int) (fun _ => rfl))) .nil)) (.one (.exp (.own ok_append (j:=6) rfl (by rfl) (.cons (.tup (.cons (.nm (j:=4) rfl (by rfl)) (.cons (.nm (j:=5) rfl (by rfl)) .nil (fun _ => rfl)) (fun _ => rfl))) .nil (fun _ => rfl)) (fun _ _ => rfl) (fun _ => rfl)) (fun _ => rfl))))) (fun _ _ => rfl)) (.one (.ret (.make (.of (j:=11) rfl g_CharSet) (.cons (.blt (.of (j:=12) rfl gb_tuple) ok_tuple (.cons (.nm (j:=6) rfl (by rfl)) .nil (fun _ => rfl)) (fun _ _ => rfl)) .nil (fun _ => rfl)) (fun _ _ => rfl))))))))
noncomputable def f_m_codes : FnD 478 1 := by
  refine' ⟨_, _, [_, _, _, _, _], (fun w => ⟨⟨_, _, _, ?obj⟩, ?code, ?bind, ?names, ?nodup, ?body, ?clo, ?co, ?gen, ?kind, ?glob, ?built⟩), ?en⟩
  case obj => with_unfolding_all exact rfl
  case en => with_unfolding_all exact rfl
  case code => kernel_rfl
  case bind => exact bnd1 fun _ => rfl
  case names => decide +kernel
  case nodup => decide +kernel
  case body => rfl
  case clo => rfl
  case co => rfl
  case gen => rfl
  case kind => rfl
  case glob => rfl
  case built => rfl
noncomputable def d_m_codes := f_m_codes.den (.cons (.asgF (j:=1) rfl (by rfl) (.lst .nil) (fun _ => rfl)) (.cons (.loop (.val (.inr ⟨_, _, _, rfl⟩) (.att (.nm (j:=0) rfl (by rfl)) (fun _ => by with_unfolding_all rfl))) (.pair (i:=2) (j:=3) rfl (by rfl) rfl (by rfl)) (.one (.exp (.own ok_extend (j:=1) rfl (by rfl) (.cons (.blt (.of (j:=4) rfl gb_range) ok_range2 (.cons (.nm (j:=2) rfl (by rfl)) (.cons (.bin ok_add (.nm (j:=3) rfl (by rfl)) .int) .nil (fun _ => rfl)) (fun _ => rfl)) (fun _ _ => rfl)) .nil (fun _ => rfl)) (fun _ _ => rfl) (fun _ => rfl)) (fun _ => rfl))) (fun _ _ => rfl)) (.one (.retF (.nm (j:=1) rfl (by rfl))))))
noncomputable def f_m_least : FnD 485 1 := by
  refine' ⟨_, _, [_], (fun w => ⟨⟨_, _, _, ?obj⟩, ?code, ?bind, ?names, ?nodup, ?body, ?clo, ?co, ?gen, ?kind, ?glob, ?built⟩), ?en⟩
  case obj => with_unfolding_all exact rfl
  case en => with_unfolding_all exact rfl
  case code => kernel_rfl
  case bind => exact bnd1 fun _ => rfl
  case names => decide +kernel
  case nodup => decide +kernel
  case body => rfl
  case clo => rfl
  case co => rfl
  case gen => rfl
  case kind => rfl
  case glob => rfl
  case built => rfl
noncomputable def d_m_least := f_m_least.den (.cons (.ife (.not (.val (.att (.nm (j:=0) rfl (by rfl)) (fun _ => by with_unfolding_all rfl)) (fun _ => rfl))) (.one (.ret .non)) .nil) (.one (.ret (.it (.it (.att (.nm (j:=0) rfl (by rfl)) (fun _ => by with_unfolding_all rfl)) (by decide) (fun _ _ => rfl)) (by decide) (fun _ _ => rfl)))))
noncomputable def f_m_empty : FnD 492 1 := by
  refine' ⟨_, _, [_, _], (fun w => ⟨⟨_, _, _, ?obj⟩, ?code, ?bind, ?names, ?nodup, ?body, ?clo, ?co, ?gen, ?kind, ?glob, ?built⟩), ?en⟩
  case obj => with_unfolding_all exact rfl
  case en => with_unfolding_all exact rfl
  case code => kernel_rfl
  case bind => exact bnd1 fun _ => rfl
  case names => decide +kernel
  case nodup => decide +kernel
  case body => rfl
  case clo => rfl
  case co => rfl
  case gen => rfl
  case kind => rfl
  case glob => rfl
  case built => rfl
noncomputable def d_m_empty := f_m_empty.den (.one (.ret (.cmp ok_eq (.blt (.of (j:=1) rfl gb_len) ok_len (.cons (.att (.nm (j:=0) rfl (by rfl)) (fun _ => by with_unfolding_all rfl)) .nil (fun _ => rfl)) (fun _ _ => rfl)) .int rfl)))
noncomputable def f_m_key : FnD 548 1 := by
  refine' ⟨_, _, [_], (fun w => ⟨⟨_, _, _, ?obj⟩, ?code, ?bind, ?names, ?nodup, ?body, ?clo, ?co, ?gen, ?kind, ?glob, ?built⟩), ?en⟩
  case obj => with_unfolding_all exact rfl
  case en => with_unfolding_all exact rfl
  case code => kernel_rfl
  case bind => exact bnd1 fun _ => rfl
  case names => decide +kernel
  case nodup => decide +kernel
  case body => rfl
  case clo => rfl
  case co => rfl
  case gen => rfl
  case kind => rfl
  case glob => rfl
  case built => rfl
noncomputable def d_m_key := f_m_key.den (.one (.ret (.att (.nm (j:=0) rfl (by rfl)) (fun _ => by with_unfolding_all rfl))))
noncomputable def f_spine : FnD 298 1 := by
  refine' ⟨_, _, [_, _, _], (fun w => ⟨⟨_, _, _, ?obj⟩, ?code, ?bind, ?names, ?nodup, ?body, ?clo, ?co, ?gen, ?kind, ?glob, ?built⟩), ?en⟩
  case obj => with_unfolding_all exact rfl
  case en => with_unfolding_all exact rfl
  case code => kernel_rfl
  case bind => exact bnd1 fun _ => rfl
  case names => decide +kernel
  case nodup => decide +kernel
  case body => rfl
  case clo => rfl
  case co => rfl
  case gen => rfl
  case kind => rfl
  case glob => rfl
  case built => rfl
noncomputable def d_spine := f_spine.den (.cons (.asgF (j:=1) rfl (by rfl) (.lst .nil) (fun _ => rfl)) (.cons (.asg (j:=2) rfl (by rfl) (.nm (j:=0) rfl (by rfl)) (fun _ => rfl)) (.cons (.whl (.all (.and (.cmp ok_eqS (.att (.nm (j:=2) rfl (by rfl)) (fun _ => by with_unfolding_all rfl)) (.att (.nm (j:=0) rfl (by rfl)) (fun _ => by with_unfolding_all rfl)) rfl) (.and (.all (.or (.cmp ok_eqS (.att (.nm (j:=2) rfl (by rfl)) (fun _ => by with_unfolding_all rfl)) .str rfl) (.or (.cmp ok_eqS (.att (.nm (j:=2) rfl (by rfl)) (fun _ => by with_unfolding_all rfl)) .str rfl) .orN))) .andN))) (.cons (.exp (.own ok_append (j:=1) rfl (by rfl) (.cons (.att (.nm (j:=2) rfl (by rfl)) (fun _ => by with_unfolding_all rfl)) .nil (fun _ => rfl)) (fun _ _ => rfl) (fun _ => rfl)) (fun _ => rfl)) (.one (.asg (j:=2) rfl (by rfl) (.att (.nm (j:=2) rfl (by rfl)) (fun _ => by with_unfolding_all rfl)) (fun _ => rfl))))) (.cons (.exp (.own ok_append (j:=1) rfl (by rfl) (.cons (.nm (j:=2) rfl (by rfl)) .nil (fun _ => rfl)) (fun _ _ => rfl) (fun _ => rfl)) (fun _ => rfl)) (.cons (.exp (.own ok_reverse (j:=1) rfl (by rfl) .nil (fun _ _ => rfl) (fun _ => rfl)) (fun _ => rfl)) (.one (.retF (.nm (j:=1) rfl (by rfl)))))))))
noncomputable def f_can_be_empty : FnD 319 1 := by
  refine' ⟨_, _, [_, _, _, _], (fun w => ⟨⟨_, _, _, ?obj⟩, ?code, ?bind, ?names, ?nodup, ?body, ?clo, ?co, ?gen, ?kind, ?glob, ?built⟩), ?en⟩
  case obj => with_unfolding_all exact rfl
  case en => with_unfolding_all exact rfl
  case code => kernel_rfl
  case bind => exact bnd1 fun _ => rfl
  case names => decide +kernel
  case nodup => decide +kernel
  case body => rfl
  case clo => rfl
  case co => rfl
  case gen => rfl
  case kind => rfl
  case glob => rfl
  case built => rfl
noncomputable def d_can_be_empty := f_can_be_empty.den (.cons (.ife (.all (.or (.cmp ok_eqS (.att (.nm (j:=0) rfl (by rfl)) (fun _ => by with_unfolding_all rfl)) .str rfl) (.or (.cmp ok_eqS (.att (.nm (j:=0) rfl (by rfl)) (fun _ => by with_unfolding_all rfl)) .str rfl) (.or (.cmp ok_eqS (.att (.nm (j:=0) rfl (by rfl)) (fun _ => by with_unfolding_all rfl)) .str rfl) .orN)))) (.one (.ret .boo)) .nil) (.cons (.ife (.all (.or (.cmp ok_eqS (.att (.nm (j:=0) rfl (by rfl)) (fun _ => by with_unfolding_all rfl)) .str rfl) (.or (.cmp ok_eqS (.att (.nm (j:=0) rfl (by rfl)) (fun _ => by with_unfolding_all rfl)) .str rfl) .orN))) (.one (.ret .boo)) .nil) (.cons (.ife (.cmp ok_eqS (.att (.nm (j:=0) rfl (by rfl)) (fun _ => by with_unfolding_all rfl)) .str rfl) (.cons (.loop (.val (.inl ⟨_, _, rfl⟩) (.call (.of (j:=2) rfl g_spine) (.cons (.nm (j:=0) rfl (by rfl)) .nil (fun _ => rfl)) (fun _ _ => rfl))) (.name (j:=1) rfl (by rfl)) (.one (.ife (.not (.val (.call (.of (j:=3) rfl g_can_be_empty) (.cons (.nm (j:=1) rfl (by rfl)) .nil (fun _ => rfl)) (fun _ _ => rfl)) (fun _ => rfl))) (.one (.ret .boo)) .nil)) (fun _ _ => rfl)) (.one (.ret .boo))) .nil) (.cons (.ife (.cmp ok_eqS (.att (.nm (j:=0) rfl (by rfl)) (fun _ => by with_unfolding_all rfl)) .str rfl) (.cons (.loop (.val (.inl ⟨_, _, rfl⟩) (.call (.of (j:=2) rfl g_spine) (.cons (.nm (j:=0) rfl (by rfl)) .nil (fun _ => rfl)) (fun _ _ => rfl))) (.name (j:=1) rfl (by rfl)) (.one (.ife (.val (.call (.of (j:=3) rfl g_can_be_empty) (.cons (.nm (j:=1) rfl (by rfl)) .nil (fun _ => rfl)) (fun _ _ => rfl)) (fun _ => rfl)) (.one (.ret .boo)) .nil)) (fun _ _ => rfl)) (.one (.ret .boo))) .nil) (.cons (.ife (.all (.and (.cmp ok_eqS (.att (.nm (j:=0) rfl (by rfl)) (fun _ => by with_unfolding_all rfl)) .str rfl) (.and (.cmp ok_eq (.att (.nm (j:=0) rfl (by rfl)) (fun _ => by with_unfolding_all rfl)) .int rfl) .andN))) (.one (.ret .boo)) .nil) (.one (.ret (.call (.of (j:=3) rfl g_can_be_empty) (.cons (.att (.nm (j:=0) rfl (by rfl)) (fun _ => by with_unfolding_all rfl)) .nil (fun _ => rfl)) (fun _ _ => rfl)))))))))
noncomputable def f_least_length : FnD 326 1 := by
  refine' ⟨_, _, [_, _, _, _, _, _, _, _], (fun w => ⟨⟨_, _, _, ?obj⟩, ?code, ?bind, ?names, ?nodup, ?body, ?clo, ?co, ?gen, ?kind, ?glob, ?built⟩), ?en⟩
  case obj => with_unfolding_all exact rfl
  case en => with_unfolding_all exact rfl
  case code => kernel_rfl
  case bind => exact bnd1 fun _ => rfl
  case names => decide +kernel
  case nodup => decide +kernel
  case body => rfl
  case clo => rfl
  case co => rfl
  case gen => rfl
  case kind => rfl
  case glob => rfl
  case built => rfl
noncomputable def d_least_length := f_least_length.den (.cons (.ife (.cmp ok_eqS (.att (.nm (j:=0) rfl (by rfl)) (fun _ => by with_unfolding_all rfl)) .str rfl) (.one (.ret (.ife (.val (.meth (.att (.nm (j:=0) rfl (by rfl)) (fun _ => by with_unfolding_all rfl)) (fun _ => rfl)) (fun _ => rfl)) .non .int))) .nil) (.cons (.ife (.cmp ok_eqS (.att (.nm (j:=0) rfl (by rfl)) (fun _ => by with_unfolding_all rfl)) .str rfl) (.one (.ret .non)) .nil) (.cons (.ife (.val (.call (.of (j:=5) rfl g_can_be_empty) (.cons (.nm (j:=0) rfl (by rfl)) .nil (fun _ => rfl)) (fun _ _ => rfl)) (fun _ => rfl)) (.one (.ret .int)) .nil) (.cons (.ife (.cmp ok_eqS (.att (.nm (j:=0) rfl (by rfl)) (fun _ => by with_unfolding_all rfl)) .str rfl) (.cons (.asg (j:=1) rfl (by rfl) .int (fun _ => rfl)) (.cons (.loop (.val (.inl ⟨_, _, rfl⟩) (.call (.of (j:=6) rfl g_spine) (.cons (.nm (j:=0) rfl (by rfl)) .nil (fun _ => rfl)) (fun _ _ => rfl))) (.name (j:=2) rfl (by rfl)) (.cons (.asg (j:=3) rfl (by rfl) (.call (.of (j:=7) rfl g_least_length) (.cons (.nm (j:=2) rfl (by rfl)) .nil (fun _ => rfl)) (fun _ _ => rfl)) (fun _ => rfl)) (.cons (.ife (.cmp ok_is (.nm (j:=3) rfl (by rfl)) .non rfl) (.one (.ret .non)) .nil) (.one (.asg (j:=1) rfl (by rfl) (.bin ok_add (.nm (j:=1) rfl (by rfl)) (.nm (j:=3) rfl (by rfl))) (fun _ => rfl))))) (fun _ _ => rfl)) (.one (.ret (.nm (j:=1) rfl (by rfl)))))) .nil) (.cons (.ife (.cmp ok_eqS (.att (.nm (j:=0) rfl (by rfl)) (fun _ => by with_unfolding_all rfl)) .str rfl) (.cons (.asg (j:=1) rfl (by rfl) .non (fun _ => rfl)) (.cons (.loop (.val (.inl ⟨_, _, rfl⟩) (.call (.of (j:=6) rfl g_spine) (.cons (.nm (j:=0) rfl (by rfl)) .nil (fun _ => rfl)) (fun _ _ => rfl))) (.name (j:=2) rfl (by rfl)) (.cons (.asg (j:=4) rfl (by rfl) (.call (.of (j:=7) rfl g_least_length) (.cons (.nm (j:=2) rfl (by rfl)) .nil (fun _ => rfl)) (fun _ _ => rfl)) (fun _ => rfl)) (.one (.ife (.all (.and (.cmp ok_isNot (.nm (j:=4) rfl (by rfl)) .non rfl) (.and (.all (.or (.cmp ok_is (.nm (j:=1) rfl (by rfl)) .non rfl) (.or (.cmp ok_lt (.nm (j:=4) rfl (by rfl)) (.nm (j:=1) rfl (by rfl)) rfl) .orN))) .andN))) (.one (.asg (j:=1) rfl (by rfl) (.nm (j:=4) rfl (by rfl)) (fun _ => rfl))) .nil))) (fun _ _ => rfl)) (.one (.ret (.nm (j:=1) rfl (by rfl)))))) .nil) (.cons (.asg (j:=1) rfl (by rfl) (.call (.of (j:=7) rfl g_least_length) (.cons (.att (.nm (j:=0) rfl (by rfl)) (fun _ => by with_unfolding_all rfl)) .nil (fun _ => rfl)) (fun _ _ => rfl)) (fun _ => rfl)) (.cons (.ife (.all (.and (.cmp ok_isNot (.nm (j:=1) rfl (by rfl)) .non rfl) (.and (.cmp ok_eqS (.att (.nm (j:=0) rfl (by rfl)) (fun _ => by with_unfolding_all rfl)) .str rfl) .andN))) (.one (.ret (.bin ok_mul (.nm (j:=1) rfl (by rfl)) (.att (.nm (j:=0) rfl (by rfl)) (fun _ => by with_unfolding_all rfl))))) .nil) (.one (.ret (.nm (j:=1) rfl (by rfl)))))))))))
noncomputable def f_most_length : FnD 333 1 := by
  refine' ⟨_, _, [_, _, _, _, _, _, _, _, _], (fun w => ⟨⟨_, _, _, ?obj⟩, ?code, ?bind, ?names, ?nodup, ?body, ?clo, ?co, ?gen, ?kind, ?glob, ?built⟩), ?en⟩
  case obj => with_unfolding_all exact rfl
  case en => with_unfolding_all exact rfl
  case code => kernel_rfl
  case bind => exact bnd1 fun _ => rfl
  case names => decide +kernel
  case nodup => decide +kernel
  case body => rfl
  case clo => rfl
  case co => rfl
  case gen => rfl
  case kind => rfl
  case glob => rfl
  case built => rfl
noncomputable def d_most_length := f_most_length.den (.cons (.ife (.cmp ok_eqS (.att (.nm (j:=0) rfl (by rfl)) (fun _ => by with_unfolding_all rfl)) .str rfl) (.one (.ret (.ife (.val (.meth (.att (.nm (j:=0) rfl (by rfl)) (fun _ => by with_unfolding_all rfl)) (fun _ => rfl)) (fun _ => rfl)) (.neg .int) .int))) .nil) (.cons (.ife (.cmp ok_eqS (.att (.nm (j:=0) rfl (by rfl)) (fun _ => by with_unfolding_all rfl)) .str rfl) (.one (.ret (.neg .int))) .nil) (.cons (.ife (.cmp ok_eqS (.att (.nm (j:=0) rfl (by rfl)) (fun _ => by with_unfolding_all rfl)) .str rfl) (.one (.ret .int)) .nil) (.cons (.ife (.cmp ok_eqS (.att (.nm (j:=0) rfl (by rfl)) (fun _ => by with_unfolding_all rfl)) .str rfl) (.one (.ret (.call (.of (j:=4) rfl g_most_of_row) (.cons (.call (.of (j:=5) rfl g_spine) (.cons (.nm (j:=0) rfl (by rfl)) .nil (fun _ => rfl)) (fun _ _ => rfl)) .nil (fun _ => rfl)) (fun _ _ => rfl)))) .nil) (.cons (.ife (.cmp ok_eqS (.att (.nm (j:=0) rfl (by rfl)) (fun _ => by with_unfolding_all rfl)) .str rfl) (.cons (.asg (j:=1) rfl (by rfl) (.neg .int) (fun _ => rfl)) (.cons (.loop (.val (.inl ⟨_, _, rfl⟩) (.call (.of (j:=5) rfl g_spine) (.cons (.nm (j:=0) rfl (by rfl)) .nil (fun _ => rfl)) (fun _ _ => rfl))) (.name (j:=2) rfl (by rfl)) (.cons (.asg (j:=3) rfl (by rfl) (.call (.of (j:=6) rfl g_most_length) (.cons (.nm (j:=2) rfl (by rfl)) .nil (fun _ => rfl)) (fun _ _ => rfl)) (fun _ => rfl)) (.cons (.ife (.cmp ok_is (.nm (j:=3) rfl (by rfl)) .non rfl) (.one (.ret .non)) .nil) (.one (.asg (j:=1) rfl (by rfl) (.blt (.of (j:=7) rfl gb_max) ok_max (.cons (.nm (j:=1) rfl (by rfl)) (.cons (.nm (j:=3) rfl (by rfl)) .nil (fun _ => rfl)) (fun _ => rfl)) (fun _ _ => rfl)) (fun _ => rfl))))) (fun _ _ => rfl)) (.one (.ret (.nm (j:=1) rfl (by rfl)))))) .nil) (.one (.ret (.call (.of (j:=8) rfl g_most_of_loop) (.cons (.nm (j:=0) rfl (by rfl)) (.cons (.call (.of (j:=6) rfl g_most_length) (.cons (.att (.nm (j:=0) rfl (by rfl)) (fun _ => by with_unfolding_all rfl)) .nil (fun _ => rfl)) (fun _ _ => rfl)) .nil (fun _ => rfl)) (fun _ => rfl)) (fun _ _ => rfl)))))))))
noncomputable def f_most_of_row : FnD 340 1 := by
  refine' ⟨_, _, [_, _, _, _, _, _], (fun w => ⟨⟨_, _, _, ?obj⟩, ?code, ?bind, ?names, ?nodup, ?body, ?clo, ?co, ?gen, ?kind, ?glob, ?built⟩), ?en⟩
  case obj => with_unfolding_all exact rfl
  case en => with_unfolding_all exact rfl
  case code => kernel_rfl
  case bind => exact bnd1 fun _ => rfl
  case names => decide +kernel
  case nodup => decide +kernel
  case body => rfl
  case clo => rfl
  case co => rfl
  case gen => rfl
  case kind => rfl
  case glob => rfl
  case built => rfl
noncomputable def d_most_of_row := f_most_of_row.den (.cons (.asg (j:=1) rfl (by rfl) .int (fun _ => rfl)) (.cons (.asg (j:=2) rfl (by rfl) .boo (fun _ => rfl)) (.cons (.loop (.val (.inl ⟨_, _, rfl⟩) (.nm (j:=0) rfl (by rfl))) (.name (j:=3) rfl (by rfl)) (.cons (.asg (j:=4) rfl (by rfl) (.call (.of (j:=5) rfl g_most_length) (.cons (.nm (j:=3) rfl (by rfl)) .nil (fun _ => rfl)) (fun _ _ => rfl)) (fun _ => rfl)) (.one (.ife (.cmp ok_is (.nm (j:=4) rfl (by rfl)) .non rfl) (.one (.asg (j:=2) rfl (by rfl) .boo (fun _ => rfl))) (.one (.ife (.cmp ok_lt (.nm (j:=4) rfl (by rfl)) .int rfl) (.one (.ret (.neg .int))) (.one (.asg (j:=1) rfl (by rfl) (.bin ok_add (.nm (j:=1) rfl (by rfl)) (.nm (j:=4) rfl (by rfl))) (fun _ => rfl)))))))) (fun _ _ => rfl)) (.one (.ret (.ife (.val (.nm (j:=2) rfl (by rfl)) (fun _ => rfl)) .non (.nm (j:=1) rfl (by rfl))))))))
noncomputable def f_most_of_loop : FnD 347 2 := by
  refine' ⟨_, _, [_, _, _, _], (fun w => ⟨⟨_, _, _, ?obj⟩, ?code, ?bind, ?names, ?nodup, ?body, ?clo, ?co, ?gen, ?kind, ?glob, ?built⟩), ?en⟩
  case obj => with_unfolding_all exact rfl
  case en => with_unfolding_all exact rfl
  case code => kernel_rfl
  case bind => exact bnd2 fun _ _ => rfl
  case names => decide +kernel
  case nodup => decide +kernel
  case body => rfl
  case clo => rfl
  case co => rfl
  case gen => rfl
  case kind => rfl
  case glob => rfl
  case built => rfl
noncomputable def d_most_of_loop := f_most_of_loop.den (.cons (.asg (j:=2) rfl (by rfl) .int (fun _ => rfl)) (.cons (.asg (j:=3) rfl (by rfl) .non (fun _ => rfl)) (.cons (.ife (.cmp ok_eqS (.att (.nm (j:=0) rfl (by rfl)) (fun _ => by with_unfolding_all rfl)) .str rfl) (.one (.asg (j:=2) rfl (by rfl) .int (fun _ => rfl))) (.one (.ife (.cmp ok_eqS (.att (.nm (j:=0) rfl (by rfl)) (fun _ => by with_unfolding_all rfl)) .str rfl) (.one (.asg (j:=3) rfl (by rfl) .int (fun _ => rfl))) (.one (.ife (.cmp ok_eqS (.att (.nm (j:=0) rfl (by rfl)) (fun _ => by with_unfolding_all rfl)) .str rfl) (.cons (.asg (j:=2) rfl (by rfl) (.att (.nm (j:=0) rfl (by rfl)) (fun _ => by with_unfolding_all rfl)) (fun _ => rfl)) (.one (.asg (j:=3) rfl (by rfl) (.att (.nm (j:=0) rfl (by rfl)) (fun _ => by with_unfolding_all rfl)) (fun _ => rfl)))) .nil))))) (.cons (.ife (.cmp ok_eqD (.nm (j:=3) rfl (by rfl)) .int rfl) (.one (.ret .int)) .nil) (.cons (.ife (.cmp ok_is (.nm (j:=1) rfl (by rfl)) .non rfl) (.one (.ret .non)) .nil) (.cons (.ife (.cmp ok_lt (.nm (j:=1) rfl (by rfl)) .int rfl) (.one (.ret (.ife (.cmp ok_eq (.nm (j:=2) rfl (by rfl)) .int rfl) .int (.neg .int)))) .nil) (.cons (.ife (.cmp ok_eq (.nm (j:=1) rfl (by rfl)) .int rfl) (.one (.ret .int)) .nil) (.cons (.ife (.cmp ok_is (.nm (j:=3) rfl (by rfl)) .non rfl) (.one (.ret .non)) .nil) (.one (.ret (.bin ok_mul (.nm (j:=1) rfl (by rfl)) (.nm (j:=3) rfl (by rfl)))))))))))))
noncomputable def f_fixed_length : FnD 354 1 := by
  refine' ⟨_, _, [_, _, _, _], (fun w => ⟨⟨_, _, _, ?obj⟩, ?code, ?bind, ?names, ?nodup, ?body, ?clo, ?co, ?gen, ?kind, ?glob, ?built⟩), ?en⟩
  case obj => with_unfolding_all exact rfl
  case en => with_unfolding_all exact rfl
  case code => kernel_rfl
  case bind => exact bnd1 fun _ => rfl
  case names => decide +kernel
  case nodup => decide +kernel
  case body => rfl
  case clo => rfl
  case co => rfl
  case gen => rfl
  case kind => rfl
  case glob => rfl
  case built => rfl
noncomputable def d_fixed_length := f_fixed_length.den (.cons (.asg (j:=1) rfl (by rfl) (.call (.of (j:=2) rfl g_least_length) (.cons (.nm (j:=0) rfl (by rfl)) .nil (fun _ => rfl)) (fun _ _ => rfl)) (fun _ => rfl)) (.cons (.ife (.cmp ok_neD (.call (.of (j:=3) rfl g_most_length) (.cons (.nm (j:=0) rfl (by rfl)) .nil (fun _ => rfl)) (fun _ _ => rfl)) (.nm (j:=1) rfl (by rfl)) rfl) (.one (.ret .non)) .nil) (.one (.ret (.nm (j:=1) rfl (by rfl))))))
noncomputable def f_least_word : FnD 361 1 := by
  refine' ⟨_, _, [_, _, _, _, _, _, _, _, _, _], (fun w => ⟨⟨_, _, _, ?obj⟩, ?code, ?bind, ?names, ?nodup, ?body, ?clo, ?co, ?gen, ?kind, ?glob, ?built⟩), ?en⟩
  case obj => with_unfolding_all exact rfl
  case en => with_unfolding_all exact rfl
  case code => kernel_rfl
  case bind => exact bnd1 fun _ => rfl
  case names => decide +kernel
  case nodup => decide +kernel
  case body => rfl
  case clo => rfl
  case co => rfl
  case gen => rfl
  case kind => rfl
  case glob => rfl
  case built => rfl
noncomputable def d_least_word := f_least_word.den (.cons (.ife (.cmp ok_eqS (.att (.nm (j:=0) rfl (by rfl)) (fun _ => by with_unfolding_all rfl)) .str rfl) (.one (.ret (.ife (.val (.meth (.att (.nm (j:=0) rfl (by rfl)) (fun _ => by with_unfolding_all rfl)) (fun _ => rfl)) (fun _ => rfl)) .non (.blt (.of (j:=5) rfl gb_chr) ok_chr (.cons (.meth (.att (.nm (j:=0) rfl (by rfl)) (fun _ => by with_unfolding_all rfl)) (fun _ => rfl)) .nil (fun _ => rfl)) (fun _ _ => rfl))))) .nil) (.cons (.ife (.cmp ok_eqS (.att (.nm (j:=0) rfl (by rfl)) (fun _ => by with_unfolding_all rfl)) .str rfl) (.one (.ret .non)) .nil) (.cons (.ife (.val (.call (.of (j:=6) rfl g_can_be_empty) (.cons (.nm (j:=0) rfl (by rfl)) .nil (fun _ => rfl)) (fun _ _ => rfl)) (fun _ => rfl)) (.one (.ret .str)) .nil) (.cons (.ife (.cmp ok_eqS (.att (.nm (j:=0) rfl (by rfl)) (fun _ => by with_unfolding_all rfl)) .str rfl) (.cons (.asgF (j:=1) rfl (by rfl) (.lst .nil) (fun _ => rfl)) (.cons (.loop (.val (.inl ⟨_, _, rfl⟩) (.call (.of (j:=7) rfl g_spine) (.cons (.nm (j:=0) rfl (by rfl)) .nil (fun _ => rfl)) (fun _ _ => rfl))) (.name (j:=2) rfl (by rfl)) (.cons (.asg (j:=3) rfl (by rfl) (.call (.of (j:=8) rfl g_least_word) (.cons (.nm (j:=2) rfl (by rfl)) .nil (fun _ => rfl)) (fun _ _ => rfl)) (fun _ => rfl)) (.cons (.ife (.cmp ok_is (.nm (j:=3) rfl (by rfl)) .non rfl) (.one (.ret .non)) .nil) (.one (.exp (.own ok_append (j:=1) rfl (by rfl) (.cons (.nm (j:=3) rfl (by rfl)) .nil (fun _ => rfl)) (fun _ _ => rfl) (fun _ => rfl)) (fun _ => rfl))))) (fun _ _ => rfl)) (.one (.ret (.join (.cons (.nm (j:=1) rfl (by rfl)) .nil (fun _ => rfl)) (fun _ _ => rfl) (fun _ => rfl)))))) .nil) (.cons (.ife (.cmp ok_eqS (.att (.nm (j:=0) rfl (by rfl)) (fun _ => by with_unfolding_all rfl)) .str rfl) (.cons (.asg (j:=4) rfl (by rfl) .non (fun _ => rfl)) (.cons (.loop (.val (.inl ⟨_, _, rfl⟩) (.call (.of (j:=7) rfl g_spine) (.cons (.nm (j:=0) rfl (by rfl)) .nil (fun _ => rfl)) (fun _ _ => rfl))) (.name (j:=2) rfl (by rfl)) (.cons (.asg (j:=3) rfl (by rfl) (.call (.of (j:=8) rfl g_least_word) (.cons (.nm (j:=2) rfl (by rfl)) .nil (fun _ => rfl)) (fun _ _ => rfl)) (fun _ => rfl)) (.one (.ife (.all (.and (.cmp ok_isNot (.nm (j:=3) rfl (by rfl)) .non rfl) (.and (.all (.or (.cmp ok_is (.nm (j:=4) rfl (by rfl)) .non rfl) (.or (.cmp ok_ltP (.tup (.cons (.blt (.of (j:=9) rfl gb_len) ok_len (.cons (.nm (j:=3) rfl (by rfl)) .nil (fun _ => rfl)) (fun _ _ => rfl)) (.cons (.nm (j:=3) rfl (by rfl)) .nil (fun _ => rfl)) (fun _ => rfl))) (.tup (.cons (.blt (.of (j:=9) rfl gb_len) ok_len (.cons (.nm (j:=4) rfl (by rfl)) .nil (fun _ => rfl)) (fun _ _ => rfl)) (.cons (.nm (j:=4) rfl (by rfl)) .nil (fun _ => rfl)) (fun _ => rfl))) rfl) .orN))) .andN))) (.one (.asg (j:=4) rfl (by rfl) (.nm (j:=3) rfl (by rfl)) (fun _ => rfl))) .nil))) (fun _ _ => rfl)) (.one (.ret (.nm (j:=4) rfl (by rfl)))))) .nil) (.cons (.asg (j:=3) rfl (by rfl) (.call (.of (j:=8) rfl g_least_word) (.cons (.att (.nm (j:=0) rfl (by rfl)) (fun _ => by with_unfolding_all rfl)) .nil (fun _ => rfl)) (fun _ _ => rfl)) (fun _ => rfl)) (.cons (.ife (.all (.and (.cmp ok_isNot (.nm (j:=3) rfl (by rfl)) .non rfl) (.and (.cmp ok_eqS (.att (.nm (j:=0) rfl (by rfl)) (fun _ => by with_unfolding_all rfl)) .str rfl) .andN))) (.one (.ret (.bin ok_rep (.nm (j:=3) rfl (by rfl)) (.att (.nm (j:=0) rfl (by rfl)) (fun _ => by with_unfolding_all rfl))))) .nil) (.one (.ret (.nm (j:=3) rfl (by rfl)))))))))))
noncomputable def f_cat_all : FnD 305 1 := by
  refine' ⟨_, _, [_, _, _, _, _, _], (fun w => ⟨⟨_, _, _, ?obj⟩, ?code, ?bind, ?names, ?nodup, ?body, ?clo, ?co, ?gen, ?kind, ?glob, ?built⟩), ?en⟩
  case obj => with_unfolding_all exact rfl
  case en => with_unfolding_all exact rfl
  case code => kernel_rfl
  case bind => exact bnd1 fun _ => rfl
  case names => decide +kernel
  case nodup => decide +kernel
  case body => rfl
  case clo => rfl
  case co => rfl
  case gen => rfl
  case kind => rfl
  case glob => rfl
  case built => rfl
noncomputable def d_cat_all := f_cat_all.den (.cons (.ife (.cmp ok_eq (.blt (.of (j:=3) rfl gb_len) ok_len (.cons (.nm (j:=0) rfl (by rfl)) .nil (fun _ => rfl)) (fun _ _ => rfl)) .int rfl) (.one (.ret (.make (.of (j:=4) rfl g_Empty) .nil (fun _ _ => rfl)))) .nil) (.cons (.asg (j:=1) rfl (by rfl) (.it (.nm (j:=0) rfl (by rfl)) (by decide) (fun _ _ => rfl)) (fun _ => rfl)) (.cons (.loop (.val (.inl ⟨_, _, rfl⟩) (.slice (.nm (j:=0) rfl (by rfl)) (.so .int) .no)) (.name (j:=2) rfl (by rfl)) (.one (.asg (j:=1) rfl (by rfl) (.make (.of (j:=5) rfl g_Cat) (.cons (.nm (j:=1) rfl (by rfl)) (.cons (.nm (j:=2) rfl (by rfl)) .nil (fun _ => rfl)) (fun _ => rfl)) (fun _ _ => rfl)) (fun _ => rfl))) (fun _ _ => rfl)) (.one (.ret (.nm (j:=1) rfl (by rfl)))))))
noncomputable def f_alt_all : FnD 312 1 := by
  refine' ⟨_, _, [_, _, _, _, _, _], (fun w => ⟨⟨_, _, _, ?obj⟩, ?code, ?bind, ?names, ?nodup, ?body, ?clo, ?co, ?gen, ?kind, ?glob, ?built⟩), ?en⟩
  case obj => with_unfolding_all exact rfl
  case en => with_unfolding_all exact rfl
  case code => kernel_rfl
  case bind => exact bnd1 fun _ => rfl
  case names => decide +kernel
  case nodup => decide +kernel
  case body => rfl
  case clo => rfl
  case co => rfl
  case gen => rfl
  case kind => rfl
  case glob => rfl
  case built => rfl
noncomputable def d_alt_all := f_alt_all.den (.cons (.ife (.cmp ok_eq (.blt (.of (j:=3) rfl gb_len) ok_len (.cons (.nm (j:=0) rfl (by rfl)) .nil (fun _ => rfl)) (fun _ _ => rfl)) .int rfl) (.one (.ret (.make (.of (j:=4) rfl g_Never) .nil (fun _ _ => rfl)))) .nil) (.cons (.asg (j:=1) rfl (by rfl) (.it (.nm (j:=0) rfl (by rfl)) (by decide) (fun _ _ => rfl)) (fun _ => rfl)) (.cons (.loop (.val (.inl ⟨_, _, rfl⟩) (.slice (.nm (j:=0) rfl (by rfl)) (.so .int) .no)) (.name (j:=2) rfl (by rfl)) (.one (.asg (j:=1) rfl (by rfl) (.make (.of (j:=5) rfl g_Alt) (.cons (.nm (j:=1) rfl (by rfl)) (.cons (.nm (j:=2) rfl (by rfl)) .nil (fun _ => rfl)) (fun _ => rfl)) (fun _ _ => rfl)) (fun _ => rfl))) (fun _ _ => rfl)) (.one (.ret (.nm (j:=1) rfl (by rfl)))))))
noncomputable def f_charsets : FnD 366 1 := by
  refine' ⟨_, _, [_, _, _, _, _, _, _], (fun w => ⟨⟨_, _, _, ?obj⟩, ?code, ?bind, ?names, ?nodup, ?body, ?clo, ?co, ?gen, ?kind, ?glob, ?built⟩), ?en⟩
  case obj => with_unfolding_all exact rfl
  case en => with_unfolding_all exact rfl
  case code => kernel_rfl
  case bind => exact bnd1 fun _ => rfl
  case names => decide +kernel
  case nodup => decide +kernel
  case body => rfl
  case clo => rfl
  case co => rfl
  case gen => rfl
  case kind => rfl
  case glob => rfl
  case built => rfl
noncomputable def d_charsets := f_charsets.den (.cons (.asgF (j:=1) rfl (by rfl) (.lst .nil) (fun _ => rfl)) (.cons (.asgF (j:=2) rfl (by rfl) (.lst (.cons (.nm (j:=0) rfl (by rfl)) .nil (fun _ => rfl))) (fun _ => rfl)) (.cons (.whl (.cmp ok_gt (.lenO (.of (j:=6) rfl gb_len) (j:=2) rfl (by rfl)) .int rfl) (.cons (.asg (j:=3) rfl (by rfl) (.own ok_pop (j:=2) rfl (by rfl) .nil (fun _ _ => rfl) (fun _ => rfl)) (fun _ => rfl)) (.one (.ife (.cmp ok_eqS (.att (.nm (j:=3) rfl (by rfl)) (fun _ => by with_unfolding_all rfl)) .str rfl) (.one (.ife (.bor (j:=1) rfl (.cmp ok_notIn (.meth (.att (.nm (j:=3) rfl (by rfl)) (fun _ => by with_unfolding_all rfl)) (fun _ => rfl)) (.ofF (.comp (js := [none, none]) ⟨⟨by decide +kernel, by decide +kernel, by decide +kernel, rfl⟩, rfl, (fun _ h => nomatch h), (fun _ _ => rfl), (.val (.inl ⟨_, _, rfl⟩) (.nm (j:=1) rfl (by rfl))), (.name (j:=1) rfl (by rfl)), .nil, (.el (.meth (.nm (j:=1) rfl (by rfl)) (fun _ => rfl)))⟩)) rfl)) (.one (.exp (.own ok_append (j:=1) rfl (by rfl) (.cons (.att (.nm (j:=3) rfl (by rfl)) (fun _ => by with_unfolding_all rfl)) .nil (fun _ => rfl)) (fun _ _ => rfl) (fun _ => rfl)) (fun _ => rfl))) .nil)) (.cons (.asgF (j:=4) rfl (by rfl) (.meth (.nm (j:=3) rfl (by rfl)) (fun _ => rfl)) (fun _ => rfl)) (.cons (.exp (.own ok_reverse (j:=4) rfl (by rfl) .nil (fun _ _ => rfl) (fun _ => rfl)) (fun _ => rfl)) (.one (.loop (.val (.inl ⟨_, _, rfl⟩) (.nm (j:=4) rfl (by rfl))) (.name (j:=5) rfl (by rfl)) (.one (.exp (.own ok_append (j:=2) rfl (by rfl) (.cons (.nm (j:=5) rfl (by rfl)) .nil (fun _ => rfl)) (fun _ _ => rfl) (fun _ => rfl)) (fun _ => rfl))) (fun _ _ => rfl))))))))) (.one (.retF (.nm (j:=1) rfl (by rfl)))))))
noncomputable def f_node_count : FnD 373 1 := by
  refine' ⟨_, _, [_, _, _, _, _, _], (fun w => ⟨⟨_, _, _, ?obj⟩, ?code, ?bind, ?names, ?nodup, ?body, ?clo, ?co, ?gen, ?kind, ?glob, ?built⟩), ?en⟩
  case obj => with_unfolding_all exact rfl
  case en => with_unfolding_all exact rfl
  case code => kernel_rfl
  case bind => exact bnd1 fun _ => rfl
  case names => decide +kernel
  case nodup => decide +kernel
  case body => rfl
  case clo => rfl
  case co => rfl
  case gen => rfl
  case kind => rfl
  case glob => rfl
  case built => rfl
noncomputable def d_node_count := f_node_count.den (.cons (.asg (j:=1) rfl (by rfl) .int (fun _ => rfl)) (.cons (.asgF (j:=2) rfl (by rfl) (.lst (.cons (.nm (j:=0) rfl (by rfl)) .nil (fun _ => rfl))) (fun _ => rfl)) (.cons (.whl (.cmp ok_gt (.lenO (.of (j:=5) rfl gb_len) (j:=2) rfl (by rfl)) .int rfl) (.cons (.asg (j:=3) rfl (by rfl) (.own ok_pop (j:=2) rfl (by rfl) .nil (fun _ _ => rfl) (fun _ => rfl)) (fun _ => rfl)) (.cons (.asg (j:=1) rfl (by rfl) (.bin ok_add (.nm (j:=1) rfl (by rfl)) .int) (fun _ => rfl)) (.one (.loop (.val (.inl ⟨_, _, rfl⟩) (.meth (.nm (j:=3) rfl (by rfl)) (fun _ => rfl))) (.name (j:=4) rfl (by rfl)) (.one (.exp (.own ok_append (j:=2) rfl (by rfl) (.cons (.nm (j:=4) rfl (by rfl)) .nil (fun _ => rfl)) (fun _ _ => rfl) (fun _ => rfl)) (fun _ => rfl))) (fun _ _ => rfl)))))) (.one (.ret (.nm (j:=1) rfl (by rfl)))))))
noncomputable def f_loop_like : FnD 380 2 := by
  refine' ⟨_, _, [_, _, _, _, _, _], (fun w => ⟨⟨_, _, _, ?obj⟩, ?code, ?bind, ?names, ?nodup, ?body, ?clo, ?co, ?gen, ?kind, ?glob, ?built⟩), ?en⟩
  case obj => with_unfolding_all exact rfl
  case en => with_unfolding_all exact rfl
  case code => kernel_rfl
  case bind => exact bnd2 fun _ _ => rfl
  case names => decide +kernel
  case nodup => decide +kernel
  case body => rfl
  case clo => rfl
  case co => rfl
  case gen => rfl
  case kind => rfl
  case glob => rfl
  case built => rfl
noncomputable def d_loop_like := f_loop_like.den (.cons (.ife (.cmp ok_eqS (.att (.nm (j:=0) rfl (by rfl)) (fun _ => by with_unfolding_all rfl)) .str rfl) (.one (.ret (.make (.of (j:=2) rfl g_Star) (.cons (.nm (j:=1) rfl (by rfl)) .nil (fun _ => rfl)) (fun _ _ => rfl)))) .nil) (.cons (.ife (.cmp ok_eqS (.att (.nm (j:=0) rfl (by rfl)) (fun _ => by with_unfolding_all rfl)) .str rfl) (.one (.ret (.make (.of (j:=3) rfl g_Plus) (.cons (.nm (j:=1) rfl (by rfl)) .nil (fun _ => rfl)) (fun _ _ => rfl)))) .nil) (.cons (.ife (.cmp ok_eqS (.att (.nm (j:=0) rfl (by rfl)) (fun _ => by with_unfolding_all rfl)) .str rfl) (.one (.ret (.make (.of (j:=4) rfl g_Opt) (.cons (.nm (j:=1) rfl (by rfl)) .nil (fun _ => rfl)) (fun _ _ => rfl)))) .nil) (.one (.ret (.make (.of (j:=5) rfl g_Repeat) (.cons (.nm (j:=1) rfl (by rfl)) (.cons (.att (.nm (j:=0) rfl (by rfl)) (fun _ => by with_unfolding_all rfl)) (.cons (.att (.nm (j:=0) rfl (by rfl)) (fun _ => by with_unfolding_all rfl)) .nil (fun _ => rfl)) (fun _ => rfl)) (fun _ => rfl)) (fun _ _ => rfl)))))))
noncomputable def f_mirrored : FnD 385 1 := by
  refine' ⟨_, _, [_, _, _, _, _, _, _, _], (fun w => ⟨⟨_, _, _, ?obj⟩, ?code, ?bind, ?names, ?nodup, ?body, ?clo, ?co, ?gen, ?kind, ?glob, ?built⟩), ?en⟩
  case obj => with_unfolding_all exact rfl
  case en => with_unfolding_all exact rfl
  case code => kernel_rfl
  case bind => exact bnd1 fun _ => rfl
  case names => decide +kernel
  case nodup => decide +kernel
  case body => rfl
  case clo => rfl
  case co => rfl
  case gen => rfl
  case kind => rfl
  case glob => rfl
  case built => rfl
noncomputable def d_mirrored := f_mirrored.den (.cons (.ife (.cmp ok_eqS (.att (.nm (j:=0) rfl (by rfl)) (fun _ => by with_unfolding_all rfl)) .str rfl) (.cons (.compL (j:=1) (js := [none, none, none]) ⟨⟨by decide +kernel, by decide +kernel, by decide +kernel, rfl⟩, rfl, (fun _ h => nomatch h), (fun _ _ => rfl), (.val (.inl ⟨_, _, rfl⟩) (.call (.of (j:=2) rfl g_spine) (.cons (.nm (j:=0) rfl (by rfl)) .nil (fun _ => rfl)) (fun _ _ => rfl))), (.name (j:=1) rfl (by rfl)), .nil, (.el (.call (.of (j:=2) rfl g_mirrored) (.cons (.nm (j:=1) rfl (by rfl)) .nil (fun _ => rfl)) (fun _ _ => rfl)))⟩ rfl (by rfl) (by decide +kernel)) (.cons (.exp (.own ok_reverse (j:=1) rfl (by rfl) .nil (fun _ _ => rfl) (fun _ => rfl)) (fun _ => rfl)) (.one (.ret (.call (.of (j:=3) rfl g_cat_all) (.cons (.nm (j:=1) rfl (by rfl)) .nil (fun _ => rfl)) (fun _ _ => rfl)))))) .nil) (.cons (.ife (.cmp ok_eqS (.att (.nm (j:=0) rfl (by rfl)) (fun _ => by with_unfolding_all rfl)) .str rfl) (.one (.ret (.call (.of (j:=4) rfl g_alt_all) (.cons (.ofF (.comp (js := [none, none, none]) ⟨⟨by decide +kernel, by decide +kernel, by decide +kernel, rfl⟩, rfl, (fun _ h => nomatch h), (fun _ _ => rfl), (.val (.inl ⟨_, _, rfl⟩) (.call (.of (j:=2) rfl g_spine) (.cons (.nm (j:=0) rfl (by rfl)) .nil (fun _ => rfl)) (fun _ _ => rfl))), (.name (j:=1) rfl (by rfl)), .nil, (.el (.call (.of (j:=2) rfl g_mirrored) (.cons (.nm (j:=1) rfl (by rfl)) .nil (fun _ => rfl)) (fun _ _ => rfl)))⟩)) .nil (fun _ => rfl)) (fun _ _ => rfl)))) .nil) (.cons (.ife (.cmp ok_eq (.blt (.of (j:=5) rfl gb_len) ok_len (.cons (.meth (.nm (j:=0) rfl (by rfl)) (fun _ => rfl)) .nil (fun _ => rfl)) (fun _ _ => rfl)) .int rfl) (.one (.ret (.nm (j:=0) rfl (by rfl)))) .nil) (.one (.ret (.call (.of (j:=6) rfl g_loop_like) (.cons (.nm (j:=0) rfl (by rfl)) (.cons (.call (.of (j:=7) rfl g_mirrored) (.cons (.att (.nm (j:=0) rfl (by rfl)) (fun _ => by with_unfolding_all rfl)) .nil (fun _ => rfl)) (fun _ _ => rfl)) .nil (fun _ => rfl)) (fun _ => rfl)) (fun _ _ => rfl)))))))
end Mine

end
section
-- E6
open PySem PySem.W PySem.Calls PyProof.Rows
set_option Elab.async false
set_option linter.all false
set_option maxRecDepth 100000
set_option maxHeartbeats 4000000
set_option genInjectivity false
set_option genSizeOfSpec false
namespace Mine
noncomputable def f__law_pen : FnD 560 1 := by
  refine' ⟨_, _, [_], (fun w => ⟨⟨_, _, _, ?obj⟩, ?code, ?bind, ?names, ?nodup, ?body, ?clo, ?co, ?gen, ?kind, ?glob, ?built⟩), ?en⟩
  case obj => with_unfolding_all exact rfl
  case en => with_unfolding_all exact rfl
  case code => kernel_rfl
  case bind => exact bnd1 fun _ => rfl
  case names => decide +kernel
  case nodup => decide +kernel
  case body => rfl
  case clo => rfl
  case co => rfl
  case gen => rfl
  case kind => rfl
  case glob => rfl
  case built => rfl
noncomputable def d__law_pen := f__law_pen.den (.one (.retF (.lst (.cons (.ofF (.comp (js := [none, none, none]) ⟨⟨by decide +kernel, by decide +kernel, by decide +kernel, rfl⟩, rfl, (fun _ h => nomatch h), (fun _ _ => rfl), (.val (.inl ⟨_, _, rfl⟩) (.slice (.nm (j:=0) rfl (by rfl)) .no (.so .int))), (.name (j:=1) rfl (by rfl)), .nil, (.el (.blt (.of (j:=2) rfl gb_int) ok_int (.cons (.nm (j:=1) rfl (by rfl)) .nil (fun _ => rfl)) (fun _ _ => rfl)))⟩)) (.cons .int (.cons .int .nil (fun _ => rfl)) (fun _ => rfl)) (fun _ => rfl)))))
noncomputable def f__law_draw : FnDL 567 1 := by
  refine' ⟨_, _, _, [_, _, _, _, _, _, _, _, _], (fun w => ⟨⟨_, _, _, ?obj⟩, ?code, ?bind, ?names, ?nodup, ?body, ?clo, ?co, ?gen, ?kind, ?glob, ?built⟩), ?en⟩
  case obj => with_unfolding_all exact rfl
  case en => with_unfolding_all exact rfl
  case code => kernel_rfl
  case bind => exact bnd2 fun _ _ => rfl
  case names => decide +kernel
  case nodup => decide +kernel
  case body => rfl
  case clo => rfl
  case co => rfl
  case gen => rfl
  case kind => rfl
  case glob => rfl
  case built => rfl
noncomputable def d__law_draw := f__law_draw.den (.cons (.ife (.cmp ok_gt (.itO (j:=0) rfl (by rfl) (by decide) (fun _ _ => rfl)) .int rfl) (.cons (.asg (j:=2) rfl (by rfl) (.bin ok_mod (.blt (.of (j:=7) rfl gb_int) ok_int (.cons (.itO (j:=0) rfl (by rfl) (by decide) (fun _ _ => rfl)) .nil (fun _ => rfl)) (fun _ _ => rfl)) (.nm (j:=1) rfl (by rfl))) (fun _ => rfl)) (.cons (.setI (j:=0) rfl (by rfl) (.bin ok_div (.blt (.of (j:=7) rfl gb_int) ok_int (.cons (.itO (j:=0) rfl (by rfl) (by decide) (fun _ _ => rfl)) .nil (fun _ => rfl)) (fun _ _ => rfl)) (.nm (j:=1) rfl (by rfl))) .int (fun _ => rfl)) (.one (.ret (.nm (j:=2) rfl (by rfl)))))) .nil) (.cons (.asg (j:=3) rfl (by rfl) (.itO (j:=0) rfl (by rfl) (by decide) (fun _ _ => rfl)) (fun _ => rfl)) (.cons (.setI (j:=0) rfl (by rfl) (.bin ok_add (.nm (j:=3) rfl (by rfl)) .int) .int (fun _ => rfl)) (.cons (.asg (j:=4) rfl (by rfl) (.bin ok_add (.bin ok_mul .int (.nm (j:=3) rfl (by rfl))) .int) (fun _ => rfl)) (.cons (.ife (.cmp ok_neD (.itO (j:=0) rfl (by rfl) (by decide) (fun _ _ => rfl)) (.ofF (.lst .nil)) rfl) (.one (.asg (j:=4) rfl (by rfl) (.sub (.itO (j:=0) rfl (by rfl) (by decide) (fun _ _ => rfl)) (.bin ok_mod (.blt (.of (j:=7) rfl gb_int) ok_int (.cons (.nm (j:=3) rfl (by rfl)) .nil (fun _ => rfl)) (fun _ _ => rfl)) (.blt (.of (j:=8) rfl gb_len) ok_len (.cons (.itO (j:=0) rfl (by rfl) (by decide) (fun _ _ => rfl)) .nil (fun _ => rfl)) (fun _ _ => rfl))) (fun _ _ => rfl)) (fun _ => rfl))) .nil) (.cons (.ife (.all (.and (.cmp ok_lt (.nm (j:=3) rfl (by rfl)) (.blt (.of (j:=8) rfl gb_len) ok_len (.cons (.itO (j:=0) rfl (by rfl) (by decide) (fun _ _ => rfl)) .nil (fun _ => rfl)) (fun _ _ => rfl)) rfl) (.and (.cmp ok_ge (.blt (.of (j:=9) rfl gb_abs) ok_abs (.cons (.nm (j:=4) rfl (by rfl)) .nil (fun _ => rfl)) (fun _ _ => rfl)) (.bin ok_pow .int .int) rfl) .andN))) (.cons (.asg (j:=5) rfl (by rfl) (.bin ok_sub (.blt (.of (j:=9) rfl gb_abs) ok_abs (.cons (.nm (j:=4) rfl (by rfl)) .nil (fun _ => rfl)) (fun _ _ => rfl)) (.bin ok_pow .int .int)) (fun _ => rfl)) (.cons (.setI (j:=0) rfl (by rfl) (.bin ok_div (.blt (.of (j:=7) rfl gb_int) ok_int (.cons (.nm (j:=5) rfl (by rfl)) .nil (fun _ => rfl)) (fun _ _ => rfl)) (.nm (j:=1) rfl (by rfl))) .int (fun _ => rfl)) (.one (.ret (.bin ok_mod (.blt (.of (j:=7) rfl gb_int) ok_int (.cons (.nm (j:=5) rfl (by rfl)) .nil (fun _ => rfl)) (fun _ _ => rfl)) (.nm (j:=1) rfl (by rfl))))))) .nil) (.cons (.asg (j:=6) rfl (by rfl) (.bin ok_mod (.blt (.of (j:=7) rfl gb_int) ok_int (.cons (.bin ok_pow (.bin ok_add (.bin ok_add (.bin ok_mod (.blt (.of (j:=7) rfl gb_int) ok_int (.cons (.nm (j:=4) rfl (by rfl)) .nil (fun _ => rfl)) (fun _ _ => rfl)) .int) (.bin ok_mul .int (.nm (j:=3) rfl (by rfl)))) .int) .int) .nil (fun _ => rfl)) (fun _ _ => rfl)) .int) (fun _ => rfl)) (.one (.ret (.bin ok_mod (.bin ok_div (.blt (.of (j:=7) rfl gb_int) ok_int (.cons (.bin ok_mod (.bin ok_add (.bin ok_mul (.nm (j:=6) rfl (by rfl)) (.bin ok_add (.bin ok_mul .int (.nm (j:=3) rfl (by rfl))) .int)) (.bin ok_mul (.bin ok_mul .int (.nm (j:=3) rfl (by rfl))) (.nm (j:=3) rfl (by rfl)))) .int) .nil (fun _ => rfl)) (fun _ _ => rfl)) .int) (.nm (j:=1) rfl (by rfl))))))))))))
noncomputable def f__law_tree : FnDL 574 2 := by
  refine' ⟨_, _, _, [_, _, _, _, _, _, _, _], (fun w => ⟨⟨_, _, _, ?obj⟩, ?code, ?bind, ?names, ?nodup, ?body, ?clo, ?co, ?gen, ?kind, ?glob, ?built⟩), ?en⟩
  case obj => with_unfolding_all exact rfl
  case en => with_unfolding_all exact rfl
  case code => kernel_rfl
  case bind => exact bnd3 fun _ _ _ => rfl
  case names => decide +kernel
  case nodup => decide +kernel
  case body => rfl
  case clo => rfl
  case co => rfl
  case gen => rfl
  case kind => rfl
  case glob => rfl
  case built => rfl
noncomputable def d__law_tree := f__law_tree.den (.cons (.asg (j:=3) rfl (by rfl) (.lend (.of (j:=6) rfl g__law_draw) (j:=0) rfl (by rfl) (.cons .int .nil (fun _ => rfl)) (fun _ _ => rfl)) (fun _ => rfl)) (.cons (.ife (.all (.or (.cmp ok_eq (.nm (j:=1) rfl (by rfl)) .int rfl) (.or (.cmp ok_lt (.nm (j:=3) rfl (by rfl)) .int rfl) (.or (.all (.and (.cmp ok_gt (.nm (j:=3) rfl (by rfl)) .int rfl) (.and (.cmp ok_eq (.nm (j:=2) rfl (by rfl)) .int rfl) .andN))) .orN)))) (.cons (.asg (j:=4) rfl (by rfl) (.lend (.of (j:=6) rfl g__law_draw) (j:=0) rfl (by rfl) (.cons .int .nil (fun _ => rfl)) (fun _ _ => rfl)) (fun _ => rfl)) (.cons (.ife (.cmp ok_eq (.nm (j:=4) rfl (by rfl)) .int rfl) (.one (.ret (.tup (.cons .str .nil (fun _ => rfl))))) .nil) (.cons (.ife (.cmp ok_eq (.nm (j:=4) rfl (by rfl)) .int rfl) (.one (.ret (.tup (.cons .str .nil (fun _ => rfl))))) .nil) (.one (.ret (.tup (.cons .str (.cons (.sub (.ofF (.lst (.cons .str (.cons .str (.cons .str (.cons .str (.cons .str (.cons .str (.cons .str (.cons .str (.cons .str .nil (fun _ => rfl)) (fun _ => rfl)) (fun _ => rfl)) (fun _ => rfl)) (fun _ => rfl)) (fun _ => rfl)) (fun _ => rfl)) (fun _ => rfl)) (fun _ => rfl)))) (.nm (j:=4) rfl (by rfl)) (fun _ _ => rfl)) .nil (fun _ => rfl)) (fun _ => rfl)))))))) .nil) (.cons (.ife (.cmp ok_lt (.nm (j:=3) rfl (by rfl)) .int rfl) (.one (.ret (.tup (.cons .str (.cons (.lend (.of (j:=7) rfl g__law_tree) (j:=0) rfl (by rfl) (.cons (.bin ok_sub (.nm (j:=1) rfl (by rfl)) .int) (.cons (.nm (j:=2) rfl (by rfl)) .nil (fun _ => rfl)) (fun _ => rfl)) (fun _ _ => rfl)) (.cons (.lend (.of (j:=7) rfl g__law_tree) (j:=0) rfl (by rfl) (.cons (.bin ok_sub (.nm (j:=1) rfl (by rfl)) .int) (.cons (.nm (j:=2) rfl (by rfl)) .nil (fun _ => rfl)) (fun _ => rfl)) (fun _ _ => rfl)) .nil (fun _ => rfl)) (fun _ => rfl)) (fun _ => rfl))))) .nil) (.cons (.ife (.cmp ok_lt (.nm (j:=3) rfl (by rfl)) .int rfl) (.one (.ret (.tup (.cons .str (.cons (.lend (.of (j:=7) rfl g__law_tree) (j:=0) rfl (by rfl) (.cons (.bin ok_sub (.nm (j:=1) rfl (by rfl)) .int) (.cons (.nm (j:=2) rfl (by rfl)) .nil (fun _ => rfl)) (fun _ => rfl)) (fun _ _ => rfl)) (.cons (.lend (.of (j:=7) rfl g__law_tree) (j:=0) rfl (by rfl) (.cons (.bin ok_sub (.nm (j:=1) rfl (by rfl)) .int) (.cons (.nm (j:=2) rfl (by rfl)) .nil (fun _ => rfl)) (fun _ => rfl)) (fun _ _ => rfl)) .nil (fun _ => rfl)) (fun _ => rfl)) (fun _ => rfl))))) .nil) (.cons (.ife (.cmp ok_lt (.nm (j:=3) rfl (by rfl)) .int rfl) (.one (.ret (.tup (.cons (.sub (.ofF (.lst (.cons .str (.cons .str (.cons .str .nil (fun _ => rfl)) (fun _ => rfl)) (fun _ => rfl)))) (.lend (.of (j:=6) rfl g__law_draw) (j:=0) rfl (by rfl) (.cons .int .nil (fun _ => rfl)) (fun _ _ => rfl)) (fun _ _ => rfl)) (.cons (.lend (.of (j:=7) rfl g__law_tree) (j:=0) rfl (by rfl) (.cons (.bin ok_sub (.nm (j:=1) rfl (by rfl)) .int) (.cons (.bin ok_sub (.nm (j:=2) rfl (by rfl)) .int) .nil (fun _ => rfl)) (fun _ => rfl)) (fun _ _ => rfl)) .nil (fun _ => rfl)) (fun _ => rfl))))) .nil) (.cons (.asg (j:=5) rfl (by rfl) (.lend (.of (j:=6) rfl g__law_draw) (j:=0) rfl (by rfl) (.cons .int .nil (fun _ => rfl)) (fun _ _ => rfl)) (fun _ => rfl)) (.one (.ret (.tup (.cons .str (.cons (.lend (.of (j:=7) rfl g__law_tree) (j:=0) rfl (by rfl) (.cons (.bin ok_sub (.nm (j:=1) rfl (by rfl)) .int) (.cons (.bin ok_sub (.nm (j:=2) rfl (by rfl)) .int) .nil (fun _ => rfl)) (fun _ => rfl)) (fun _ _ => rfl)) (.cons (.nm (j:=5) rfl (by rfl)) (.cons (.sub (.ofF (.lst (.cons (.nm (j:=5) rfl (by rfl)) (.cons (.bin ok_add (.nm (j:=5) rfl (by rfl)) .int) (.cons .non (.cons (.blt (.of (j:=8) rfl gb_max) ok_max (.cons (.nm (j:=5) rfl (by rfl)) (.cons (.ife (.cmp ok_eq (.nm (j:=2) rfl (by rfl)) .int rfl) .int .int) .nil (fun _ => rfl)) (fun _ => rfl)) (fun _ _ => rfl)) .nil (fun _ => rfl)) (fun _ => rfl)) (fun _ => rfl)) (fun _ => rfl)))) (.lend (.of (j:=6) rfl g__law_draw) (j:=0) rfl (by rfl) (.cons .int .nil (fun _ => rfl)) (fun _ _ => rfl)) (fun _ _ => rfl)) .nil (fun _ => rfl)) (fun _ => rfl)) (fun _ => rfl)) (fun _ => rfl)))))))))))
noncomputable def f__law_node : FnD 579 1 := by
  refine' ⟨_, _, [_, _, _, _, _, _, _, _, _, _, _, _, _], (fun w => ⟨⟨_, _, _, ?obj⟩, ?code, ?bind, ?names, ?nodup, ?body, ?clo, ?co, ?gen, ?kind, ?glob, ?built⟩), ?en⟩
  case obj => with_unfolding_all exact rfl
  case en => with_unfolding_all exact rfl
  case code => kernel_rfl
  case bind => exact bnd1 fun _ => rfl
  case names => decide +kernel
  case nodup => decide +kernel
  case body => rfl
  case clo => rfl
  case co => rfl
  case gen => rfl
  case kind => rfl
  case glob => rfl
  case built => rfl
noncomputable def d__law_node := f__law_node.den (.cons (.asg (j:=1) rfl (by rfl) (.it (.nm (j:=0) rfl (by rfl)) (by decide) (fun _ _ => rfl)) (fun _ => rfl)) (.cons (.ife (.cmp ok_eqS (.nm (j:=1) rfl (by rfl)) .str rfl) (.one (.ret (.make (.of (j:=3) rfl g_Chars) (.cons (.stat ⟨4, rfl⟩ g_CharSet.1 st_of (.cons (.it (.nm (j:=0) rfl (by rfl)) (by decide) (fun _ _ => rfl)) .nil (fun _ => rfl)) (fun _ _ => rfl) (fun _ => rfl)) .nil (fun _ => rfl)) (fun _ _ => rfl)))) .nil) (.cons (.ife (.cmp ok_eqS (.nm (j:=1) rfl (by rfl)) .str rfl) (.one (.ret (.make (.of (j:=5) rfl g_Empty) .nil (fun _ _ => rfl)))) .nil) (.cons (.ife (.cmp ok_eqS (.nm (j:=1) rfl (by rfl)) .str rfl) (.one (.ret (.make (.of (j:=6) rfl g_Never) .nil (fun _ _ => rfl)))) .nil) (.cons (.compL (j:=2) (js := [none, none, none, none, none]) ⟨⟨by decide +kernel, by decide +kernel, by decide +kernel, rfl⟩, rfl, (fun _ h => nomatch h), (fun _ _ => rfl), (.val (.inl ⟨_, _, rfl⟩) (.tail (.nm (j:=0) rfl (by rfl)))), (.name (j:=1) rfl (by rfl)), (.one (.val (.isT (.of (j:=2) rfl gb_isinstance) (.of (j:=3) rfl gb_tuple) (.nm (j:=1) rfl (by rfl)) (fun _ => rfl) (fun _ _ => rfl)) (fun _ => rfl))), (.el (.call (.of (j:=4) rfl g__law_node) (.cons (.nm (j:=1) rfl (by rfl)) .nil (fun _ => rfl)) (fun _ _ => rfl)))⟩ rfl (by rfl) (by decide +kernel)) (.cons (.ife (.cmp ok_eqS (.nm (j:=1) rfl (by rfl)) .str rfl) (.one (.ret (.make (.of (j:=7) rfl g_Cat) (.cons (.itO (j:=2) rfl (by rfl) (by decide) (fun _ _ => rfl)) (.cons (.itO (j:=2) rfl (by rfl) (by decide) (fun _ _ => rfl)) .nil (fun _ => rfl)) (fun _ => rfl)) (fun _ _ => rfl)))) .nil) (.cons (.ife (.cmp ok_eqS (.nm (j:=1) rfl (by rfl)) .str rfl) (.one (.ret (.make (.of (j:=8) rfl g_Alt) (.cons (.itO (j:=2) rfl (by rfl) (by decide) (fun _ _ => rfl)) (.cons (.itO (j:=2) rfl (by rfl) (by decide) (fun _ _ => rfl)) .nil (fun _ => rfl)) (fun _ => rfl)) (fun _ _ => rfl)))) .nil) (.cons (.ife (.cmp ok_eqS (.nm (j:=1) rfl (by rfl)) .str rfl) (.one (.ret (.make (.of (j:=9) rfl g_Star) (.cons (.itO (j:=2) rfl (by rfl) (by decide) (fun _ _ => rfl)) .nil (fun _ => rfl)) (fun _ _ => rfl)))) .nil) (.cons (.ife (.cmp ok_eqS (.nm (j:=1) rfl (by rfl)) .str rfl) (.one (.ret (.make (.of (j:=10) rfl g_Plus) (.cons (.itO (j:=2) rfl (by rfl) (by decide) (fun _ _ => rfl)) .nil (fun _ => rfl)) (fun _ _ => rfl)))) .nil) (.one (.ret (.ife (.cmp ok_eqS (.nm (j:=1) rfl (by rfl)) .str rfl) (.make (.of (j:=11) rfl g_Opt) (.cons (.itO (j:=2) rfl (by rfl) (by decide) (fun _ _ => rfl)) .nil (fun _ => rfl)) (fun _ _ => rfl)) (.make (.of (j:=12) rfl g_Repeat) (.cons (.itO (j:=2) rfl (by rfl) (by decide) (fun _ _ => rfl)) (.cons (.it (.nm (j:=0) rfl (by rfl)) (by decide) (fun _ _ => rfl)) (.cons (.it (.nm (j:=0) rfl (by rfl)) (by decide) (fun _ _ => rfl)) .nil (fun _ => rfl)) (fun _ => rfl)) (fun _ => rfl)) (fun _ _ => rfl))))))))))))))
noncomputable def f__law_bounds : FnD 586 2 := by
  refine' ⟨_, _, [_, _], (fun w => ⟨⟨_, _, _, ?obj⟩, ?code, ?bind, ?names, ?nodup, ?body, ?clo, ?co, ?gen, ?kind, ?glob, ?built⟩), ?en⟩
  case obj => with_unfolding_all exact rfl
  case en => with_unfolding_all exact rfl
  case code => kernel_rfl
  case bind => exact bnd2 fun _ _ => rfl
  case names => decide +kernel
  case nodup => decide +kernel
  case body => rfl
  case clo => rfl
  case co => rfl
  case gen => rfl
  case kind => rfl
  case glob => rfl
  case built => rfl
noncomputable def d__law_bounds := f__law_bounds.den (.cons (.ife (.cmp ok_eqS (.it (.nm (j:=0) rfl (by rfl)) (by decide) (fun _ _ => rfl)) .str rfl) (.one (.ret (.tup (.cons (.it (.nm (j:=0) rfl (by rfl)) (by decide) (fun _ _ => rfl)) (.cons (.ife (.cmp ok_is (.it (.nm (j:=0) rfl (by rfl)) (by decide) (fun _ _ => rfl)) .non rfl) (.bin ok_add (.it (.nm (j:=0) rfl (by rfl)) (by decide) (fun _ _ => rfl)) (.nm (j:=1) rfl (by rfl))) (.it (.nm (j:=0) rfl (by rfl)) (by decide) (fun _ _ => rfl))) .nil (fun _ => rfl)) (fun _ => rfl))))) .nil) (.one (.ret (.dict3 (.tup (.cons .int (.cons (.nm (j:=1) rfl (by rfl)) .nil (fun _ => rfl)) (fun _ => rfl))) (.tup (.cons .int (.cons (.bin ok_add .int (.nm (j:=1) rfl (by rfl))) .nil (fun _ => rfl)) (fun _ => rfl))) (.tup (.cons .int (.cons .int .nil (fun _ => rfl)) (fun _ => rfl))) (.it (.nm (j:=0) rfl (by rfl)) (by decide) (fun _ _ => rfl)) (fun _ _ => rfl)))))
noncomputable def f__law_ends : FnD 593 2 := by
  refine' ⟨_, _, [_, _, _, _, _, _, _, _, _, _, _, _], (fun w => ⟨⟨_, _, _, ?obj⟩, ?code, ?bind, ?names, ?nodup, ?body, ?clo, ?co, ?gen, ?kind, ?glob, ?built⟩), ?en⟩
  case obj => with_unfolding_all exact rfl
  case en => with_unfolding_all exact rfl
  case code => kernel_rfl
  case bind => exact bnd2 fun _ _ => rfl
  case names => decide +kernel
  case nodup => decide +kernel
  case body => rfl
  case clo => rfl
  case co => rfl
  case gen => rfl
  case kind => rfl
  case glob => rfl
  case built => rfl
noncomputable def d__law_ends := f__law_ends.den (.cons (.asg (j:=2) rfl (by rfl) (.it (.nm (j:=0) rfl (by rfl)) (by decide) (fun _ _ => rfl)) (fun _ => rfl)) (.cons (.ife (.cmp ok_eqS (.nm (j:=2) rfl (by rfl)) .str rfl) (.one (.ret (.ife (.cmp ok_eqS (.it (.nm (j:=0) rfl (by rfl)) (by decide) (fun _ _ => rfl)) .str rfl) .non (.tup (.cons .int (.cons .int .nil (fun _ => rfl)) (fun _ => rfl)))))) .nil) (.cons (.ife (.all (.or (.cmp ok_eqS (.nm (j:=2) rfl (by rfl)) .str rfl) (.or (.cmp ok_eqS (.nm (j:=2) rfl (by rfl)) .str rfl) .orN))) (.one (.ret (.ife (.cmp ok_eqS (.nm (j:=2) rfl (by rfl)) .str rfl) (.tup (.cons .int (.cons .int .nil (fun _ => rfl)) (fun _ => rfl))) .non))) .nil) (.cons (.ife (.all (.or (.cmp ok_eqS (.nm (j:=2) rfl (by rfl)) .str rfl) (.or (.cmp ok_eqS (.nm (j:=2) rfl (by rfl)) .str rfl) .orN))) (.cons (.swap2 (i:=3) (j:=4) rfl (by rfl) rfl (by decide +kernel) rfl (by rfl) rfl (.call (.of (j:=8) rfl g__law_ends) (.cons (.it (.nm (j:=0) rfl (by rfl)) (by decide) (fun _ _ => rfl)) (.cons (.nm (j:=1) rfl (by rfl)) .nil (fun _ => rfl)) (fun _ => rfl)) (fun _ _ => rfl)) (.call (.of (j:=8) rfl g__law_ends) (.cons (.it (.nm (j:=0) rfl (by rfl)) (by decide) (fun _ _ => rfl)) (.cons (.nm (j:=1) rfl (by rfl)) .nil (fun _ => rfl)) (fun _ => rfl)) (fun _ _ => rfl)) (fun _ => rfl) (fun _ => rfl) (fun _ => rfl)) (.cons (.ife (.cmp ok_eqS (.nm (j:=2) rfl (by rfl)) .str rfl) (.one (.ret (.ife (.all (.or (.cmp ok_is (.nm (j:=3) rfl (by rfl)) .non rfl) (.or (.cmp ok_is (.nm (j:=4) rfl (by rfl)) .non rfl) .orN))) .non (.tup (.cons (.bin ok_add (.it (.nm (j:=3) rfl (by rfl)) (by decide) (fun _ _ => rfl)) (.it (.nm (j:=4) rfl (by rfl)) (by decide) (fun _ _ => rfl))) (.cons (.bin ok_add (.it (.nm (j:=3) rfl (by rfl)) (by decide) (fun _ _ => rfl)) (.it (.nm (j:=4) rfl (by rfl)) (by decide) (fun _ _ => rfl))) .nil (fun _ => rfl)) (fun _ => rfl)))))) .nil) (.cons (.ife (.all (.or (.cmp ok_is (.nm (j:=3) rfl (by rfl)) .non rfl) (.or (.cmp ok_is (.nm (j:=4) rfl (by rfl)) .non rfl) .orN))) (.one (.ret (.ife (.cmp ok_is (.nm (j:=3) rfl (by rfl)) .non rfl) (.nm (j:=4) rfl (by rfl)) (.nm (j:=3) rfl (by rfl))))) .nil) (.one (.ret (.tup (.cons (.blt (.of (j:=9) rfl gb_min) ok_min (.cons (.it (.nm (j:=3) rfl (by rfl)) (by decide) (fun _ _ => rfl)) (.cons (.it (.nm (j:=4) rfl (by rfl)) (by decide) (fun _ _ => rfl)) .nil (fun _ => rfl)) (fun _ => rfl)) (fun _ _ => rfl)) (.cons (.blt (.of (j:=10) rfl gb_max) ok_max (.cons (.it (.nm (j:=3) rfl (by rfl)) (by decide) (fun _ _ => rfl)) (.cons (.it (.nm (j:=4) rfl (by rfl)) (by decide) (fun _ _ => rfl)) .nil (fun _ => rfl)) (fun _ => rfl)) (fun _ _ => rfl)) .nil (fun _ => rfl)) (fun _ => rfl)))))))) .nil) (.cons (.unp (.pair (i:=5) (j:=6) rfl (by rfl) rfl (by rfl)) (.call (.of (j:=11) rfl g__law_bounds) (.cons (.nm (j:=0) rfl (by rfl)) (.cons (.nm (j:=1) rfl (by rfl)) .nil (fun _ => rfl)) (fun _ => rfl)) (fun _ _ => rfl)) (fun _ => rfl) (fun _ => rfl)) (.cons (.asg (j:=7) rfl (by rfl) (.call (.of (j:=8) rfl g__law_ends) (.cons (.it (.nm (j:=0) rfl (by rfl)) (by decide) (fun _ _ => rfl)) (.cons (.nm (j:=1) rfl (by rfl)) .nil (fun _ => rfl)) (fun _ => rfl)) (fun _ _ => rfl)) (fun _ => rfl)) (.cons (.ife (.cmp ok_is (.nm (j:=7) rfl (by rfl)) .non rfl) (.one (.ret (.ife (.cmp ok_eq (.nm (j:=5) rfl (by rfl)) .int rfl) (.tup (.cons .int (.cons .int .nil (fun _ => rfl)) (fun _ => rfl))) .non))) .nil) (.one (.ret (.tup (.cons (.bin ok_mul (.it (.nm (j:=7) rfl (by rfl)) (by decide) (fun _ _ => rfl)) (.nm (j:=5) rfl (by rfl))) (.cons (.bin ok_mul (.it (.nm (j:=7) rfl (by rfl)) (by decide) (fun _ _ => rfl)) (.nm (j:=6) rfl (by rfl))) .nil (fun _ => rfl)) (fun _ => rfl))))))))))))
noncomputable def f__law_words : FnD 598 2 := by
  refine' ⟨_, _, [_, _, _, _, _, _, _, _, _, _, _, _, _, _, _, _, _, _], (fun w => ⟨⟨_, _, _, ?obj⟩, ?code, ?bind, ?names, ?nodup, ?body, ?clo, ?co, ?gen, ?kind, ?glob, ?built⟩), ?en⟩
  case obj => with_unfolding_all exact rfl
  case en => with_unfolding_all exact rfl
  case code => kernel_rfl
  case bind => exact bnd2 fun _ _ => rfl
  case names => decide +kernel
  case nodup => decide +kernel
  case body => rfl
  case clo => rfl
  case co => rfl
  case gen => rfl
  case kind => rfl
  case glob => rfl
  case built => rfl
noncomputable def d__law_words := f__law_words.den (.cons (.asg (j:=2) rfl (by rfl) (.it (.nm (j:=0) rfl (by rfl)) (by decide) (fun _ _ => rfl)) (fun _ => rfl)) (.cons (.ife (.cmp ok_eqS (.nm (j:=2) rfl (by rfl)) .str rfl) (.one (.ret (.ife (.cmp ok_eq (.nm (j:=1) rfl (by rfl)) .int rfl) (.sortSet (.of (j:=11) rfl gb_sorted) (.of (j:=12) rfl gb_set) (.cons (.blt (.of (j:=13) rfl gb_list) ok_list (.cons (.it (.nm (j:=0) rfl (by rfl)) (by decide) (fun _ _ => rfl)) .nil (fun _ => rfl)) (fun _ _ => rfl)) .nil (fun _ => rfl)) (fun _ => rfl) (fun _ _ => rfl) (fun _ _ => rfl)) (.ofF (.lst .nil))))) .nil) (.cons (.ife (.all (.or (.cmp ok_eqS (.nm (j:=2) rfl (by rfl)) .str rfl) (.or (.cmp ok_eqS (.nm (j:=2) rfl (by rfl)) .str rfl) .orN))) (.one (.ret (.ife (.all (.and (.cmp ok_eqS (.nm (j:=2) rfl (by rfl)) .str rfl) (.and (.cmp ok_eq (.nm (j:=1) rfl (by rfl)) .int rfl) .andN))) (.ofF (.lst (.cons .str .nil (fun _ => rfl)))) (.ofF (.lst .nil))))) .nil) (.cons (.ife (.cmp ok_eqS (.nm (j:=2) rfl (by rfl)) .str rfl) (.one (.ret (.sortSet (.of (j:=11) rfl gb_sorted) (.of (j:=12) rfl gb_set) (.cons (.bin ok_cat (.call (.of (j:=14) rfl g__law_words) (.cons (.it (.nm (j:=0) rfl (by rfl)) (by decide) (fun _ _ => rfl)) (.cons (.nm (j:=1) rfl (by rfl)) .nil (fun _ => rfl)) (fun _ => rfl)) (fun _ _ => rfl)) (.call (.of (j:=14) rfl g__law_words) (.cons (.it (.nm (j:=0) rfl (by rfl)) (by decide) (fun _ _ => rfl)) (.cons (.nm (j:=1) rfl (by rfl)) .nil (fun _ => rfl)) (fun _ => rfl)) (fun _ _ => rfl))) .nil (fun _ => rfl)) (fun _ => rfl) (fun _ _ => rfl) (fun _ _ => rfl)))) .nil) (.cons (.ife (.cmp ok_eqS (.nm (j:=2) rfl (by rfl)) .str rfl) (.cons (.unpC (.pair (i:=3) (j:=4) rfl (by rfl) rfl (by rfl)) (j:=3) rfl (by rfl) rfl (.tup (.cons (.ofF (.comp (js := [none, none, none, some 0]) ⟨⟨by decide +kernel, by decide +kernel, by decide +kernel, rfl⟩, rfl, (fun _ h => nomatch h), (fun _ _ => rfl), (.val (.inl ⟨_, _, rfl⟩) (.blt (.of (j:=15) rfl gb_range) ok_range1 (.cons (.bin ok_add (.nm (j:=1) rfl (by rfl)) .int) .nil (fun _ => rfl)) (fun _ _ => rfl))), (.name (j:=1) rfl (by rfl)), .nil, (.el (.call (.of (j:=2) rfl g__law_words) (.cons (.it (.nm (j:=3) rfl (by rfl)) (by decide) (fun _ _ => rfl)) (.cons (.nm (j:=1) rfl (by rfl)) .nil (fun _ => rfl)) (fun _ => rfl)) (fun _ _ => rfl)))⟩)) (.cons (.ofF (.comp (js := [none, none, none, some 0]) ⟨⟨by decide +kernel, by decide +kernel, by decide +kernel, rfl⟩, rfl, (fun _ h => nomatch h), (fun _ _ => rfl), (.val (.inl ⟨_, _, rfl⟩) (.blt (.of (j:=15) rfl gb_range) ok_range1 (.cons (.bin ok_add (.nm (j:=1) rfl (by rfl)) .int) .nil (fun _ => rfl)) (fun _ _ => rfl))), (.name (j:=1) rfl (by rfl)), .nil, (.el (.call (.of (j:=2) rfl g__law_words) (.cons (.it (.nm (j:=3) rfl (by rfl)) (by decide) (fun _ _ => rfl)) (.cons (.nm (j:=1) rfl (by rfl)) .nil (fun _ => rfl)) (fun _ => rfl)) (fun _ _ => rfl)))⟩)) .nil (fun _ => rfl)) (fun _ => rfl))) (fun _ => rfl)) (.one (.ret (.sortSet (.of (j:=11) rfl gb_sorted) (.of (j:=12) rfl gb_set) (.cons (.ofF (.comp (js := [none, none, none, none, some 3, some 1, some 4]) ⟨⟨by decide +kernel, by decide +kernel, by decide +kernel, rfl⟩, rfl, (fun q h => by simp only [List.mem_cons, List.not_mem_nil, or_false] at h; rcases h with rfl | rfl <;> rfl), (fun _ _ => rfl), (.val (.inl ⟨_, _, rfl⟩) (.blt (.of (j:=15) rfl gb_range) ok_range1 (.cons (.bin ok_add (.nm (j:=1) rfl (by rfl)) .int) .nil (fun _ => rfl)) (fun _ _ => rfl))), (.name (j:=1) rfl (by rfl)), .nil, (.fo (.val (.inl ⟨_, _, rfl⟩) (.sub (.nm (j:=4) rfl (by rfl)) (.nm (j:=1) rfl (by rfl)) (fun _ _ => rfl))) (.name (j:=2) rfl (by rfl)) .nil (.fo (.val (.inl ⟨_, _, rfl⟩) (.sub (.nm (j:=6) rfl (by rfl)) (.bin ok_sub (.nm (j:=5) rfl (by rfl)) (.nm (j:=1) rfl (by rfl))) (fun _ _ => rfl))) (.name (j:=3) rfl (by rfl)) .nil (.el (.bin ok_txt (.nm (j:=2) rfl (by rfl)) (.nm (j:=3) rfl (by rfl)))) (fun _ _ => rfl)) (fun _ _ => rfl))⟩)) .nil (fun _ => rfl)) (fun _ => rfl) (fun _ _ => rfl) (fun _ _ => rfl))))) .nil) (.cons (.unp (.pair (i:=5) (j:=6) rfl (by rfl) rfl (by rfl)) (.call (.of (j:=16) rfl g__law_bounds) (.cons (.nm (j:=0) rfl (by rfl)) (.cons (.nm (j:=1) rfl (by rfl)) .nil (fun _ => rfl)) (fun _ => rfl)) (fun _ _ => rfl)) (fun _ => rfl) (fun _ => rfl)) (.cons (.compC (j:=7) (js := [none, none, none, some 0]) ⟨⟨by decide +kernel, by decide +kernel, by decide +kernel, rfl⟩, rfl, (fun _ h => nomatch h), (fun _ _ => rfl), (.val (.inl ⟨_, _, rfl⟩) (.blt (.of (j:=15) rfl gb_range) ok_range1 (.cons (.bin ok_add (.nm (j:=1) rfl (by rfl)) .int) .nil (fun _ => rfl)) (fun _ _ => rfl))), (.name (j:=1) rfl (by rfl)), .nil, (.el (.call (.of (j:=2) rfl g__law_words) (.cons (.it (.nm (j:=3) rfl (by rfl)) (by decide) (fun _ _ => rfl)) (.cons (.nm (j:=1) rfl (by rfl)) .nil (fun _ => rfl)) (fun _ => rfl)) (fun _ _ => rfl)))⟩ rfl) (.cons (.asg (j:=8) rfl (by rfl) (.bin ok_cat (.ofF (.lst (.cons (.ofF (.lst (.cons .str .nil (fun _ => rfl)))) .nil (fun _ => rfl)))) (.ofF (.comp (js := [none, none]) ⟨⟨by decide +kernel, by decide +kernel, by decide +kernel, rfl⟩, rfl, (fun _ h => nomatch h), (fun _ _ => rfl), (.val (.inl ⟨_, _, rfl⟩) (.blt (.of (j:=15) rfl gb_range) ok_range1 (.cons (.nm (j:=1) rfl (by rfl)) .nil (fun _ => rfl)) (fun _ _ => rfl))), (.name (j:=1) rfl (by rfl)), .nil, (.el (.ofF (.lst .nil)))⟩))) (fun _ => rfl)) (.cons (.asg (j:=9) rfl (by rfl) (.ife (.cmp ok_eq (.nm (j:=5) rfl (by rfl)) .int rfl) (.blt (.of (j:=13) rfl gb_list) ok_list (.cons (.sub (.nm (j:=8) rfl (by rfl)) (.nm (j:=1) rfl (by rfl)) (fun _ _ => rfl)) .nil (fun _ => rfl)) (fun _ _ => rfl)) (.ofF (.lst .nil))) (fun _ => rfl)) (.cons (.loop (.val (.inl ⟨_, _, rfl⟩) (.blt (.of (j:=15) rfl gb_range) ok_range1 (.cons (.blt (.of (j:=17) rfl gb_min) ok_min (.cons (.nm (j:=6) rfl (by rfl)) (.cons (.bin ok_add (.nm (j:=5) rfl (by rfl)) (.nm (j:=1) rfl (by rfl))) .nil (fun _ => rfl)) (fun _ => rfl)) (fun _ _ => rfl)) .nil (fun _ => rfl)) (fun _ _ => rfl))) (.name (j:=10) rfl (by rfl)) (.cons (.compC (j:=8) (js := [none, none, none, none, none, some 7, some 8]) ⟨⟨by decide +kernel, by decide +kernel, by decide +kernel, rfl⟩, rfl, (fun _ h => nomatch h), (fun _ _ => rfl), (.val (.inl ⟨_, _, rfl⟩) (.blt (.of (j:=15) rfl gb_range) ok_range1 (.cons (.bin ok_add (.nm (j:=1) rfl (by rfl)) .int) .nil (fun _ => rfl)) (fun _ _ => rfl))), (.name (j:=1) rfl (by rfl)), .nil, (.el (.sortSet (.of (j:=2) rfl gb_sorted) (.of (j:=3) rfl gb_set) (.cons (.ofF (.comp (js := [none, none, none, none, some 5, some 6, some 1]) ⟨⟨by decide +kernel, by decide +kernel, by decide +kernel, rfl⟩, rfl, (fun q h => by simp only [List.mem_cons, List.not_mem_nil, or_false] at h; rcases h with rfl | rfl <;> rfl), (fun _ _ => rfl), (.val (.inl ⟨_, _, rfl⟩) (.blt (.of (j:=4) rfl gb_range) ok_range1 (.cons (.bin ok_add (.nm (j:=1) rfl (by rfl)) .int) .nil (fun _ => rfl)) (fun _ _ => rfl))), (.name (j:=1) rfl (by rfl)), .nil, (.fo (.val (.inl ⟨_, _, rfl⟩) (.sub (.nm (j:=5) rfl (by rfl)) (.bin ok_sub (.nm (j:=6) rfl (by rfl)) (.nm (j:=1) rfl (by rfl))) (fun _ _ => rfl))) (.name (j:=2) rfl (by rfl)) .nil (.fo (.val (.inl ⟨_, _, rfl⟩) (.sub (.nm (j:=4) rfl (by rfl)) (.nm (j:=1) rfl (by rfl)) (fun _ _ => rfl))) (.name (j:=3) rfl (by rfl)) .nil (.el (.bin ok_txt (.nm (j:=2) rfl (by rfl)) (.nm (j:=3) rfl (by rfl)))) (fun _ _ => rfl)) (fun _ _ => rfl))⟩)) .nil (fun _ => rfl)) (fun _ => rfl) (fun _ _ => rfl) (fun _ _ => rfl)))⟩ rfl) (.one (.ife (.cmp ok_ge (.bin ok_add (.nm (j:=10) rfl (by rfl)) .int) (.nm (j:=5) rfl (by rfl)) rfl) (.one (.asg (j:=9) rfl (by rfl) (.bin ok_cat (.nm (j:=9) rfl (by rfl)) (.sub (.nm (j:=8) rfl (by rfl)) (.nm (j:=1) rfl (by rfl)) (fun _ _ => rfl))) (fun _ => rfl))) .nil))) (fun _ _ => rfl)) (.one (.ret (.sortSet (.of (j:=11) rfl gb_sorted) (.of (j:=12) rfl gb_set) (.cons (.nm (j:=9) rfl (by rfl)) .nil (fun _ => rfl)) (fun _ => rfl) (fun _ _ => rfl) (fun _ _ => rfl))))))))))))))
noncomputable def f__law_leaves : FnD 605 1 := by
  refine' ⟨_, _, [_, _, _, _, _, _, _, _, _], (fun w => ⟨⟨_, _, _, ?obj⟩, ?code, ?bind, ?names, ?nodup, ?body, ?clo, ?co, ?gen, ?kind, ?glob, ?built⟩), ?en⟩
  case obj => with_unfolding_all exact rfl
  case en => with_unfolding_all exact rfl
  case code => kernel_rfl
  case bind => exact bnd1 fun _ => rfl
  case names => decide +kernel
  case nodup => decide +kernel
  case body => rfl
  case clo => rfl
  case co => rfl
  case gen => rfl
  case kind => rfl
  case glob => rfl
  case built => rfl
noncomputable def d__law_leaves := f__law_leaves.den (.cons (.ife (.cmp ok_eqS (.it (.nm (j:=0) rfl (by rfl)) (by decide) (fun _ _ => rfl)) .str rfl) (.one (.ret (.tup (.cons (.ofF (.lst (.cons (.it (.nm (j:=0) rfl (by rfl)) (by decide) (fun _ _ => rfl)) .nil (fun _ => rfl)))) (.cons .int .nil (fun _ => rfl)) (fun _ => rfl))))) .nil) (.cons (.swap2 (i:=1) (j:=2) rfl (by rfl) rfl (by decide +kernel) rfl (by rfl) rfl (.ofF (.lst .nil)) .int (fun _ => rfl) (fun _ => rfl) (fun _ => rfl)) (.cons (.loop (.val (.inl ⟨_, _, rfl⟩) (.tail (.nm (j:=0) rfl (by rfl)))) (.name (j:=3) rfl (by rfl)) (.one (.ife (.val (.isT (.of (j:=6) rfl gb_isinstance) (.of (j:=7) rfl gb_tuple) (.nm (j:=3) rfl (by rfl)) (fun _ => rfl) (fun _ _ => rfl)) (fun _ => rfl)) (.cons (.unp (.pair (i:=4) (j:=5) rfl (by rfl) rfl (by rfl)) (.call (.of (j:=8) rfl g__law_leaves) (.cons (.nm (j:=3) rfl (by rfl)) .nil (fun _ => rfl)) (fun _ _ => rfl)) (fun _ => rfl) (fun _ => rfl)) (.one (.swap2 (i:=1) (j:=2) rfl (by rfl) rfl (by decide +kernel) rfl (by rfl) rfl (.bin ok_cat (.nm (j:=1) rfl (by rfl)) (.nm (j:=4) rfl (by rfl))) (.bin ok_add (.nm (j:=2) rfl (by rfl)) (.nm (j:=5) rfl (by rfl))) (fun _ => rfl) (fun _ => rfl) (fun _ => rfl)))) .nil)) (fun _ _ => rfl)) (.one (.ret (.tup (.cons (.nm (j:=1) rfl (by rfl)) (.cons (.nm (j:=2) rfl (by rfl)) .nil (fun _ => rfl)) (fun _ => rfl))))))))
noncomputable def f__law_lengths_right : FnD 612 3 := by
  refine' ⟨_, _, [_, _, _, _, _, _, _, _, _, _], (fun w => ⟨⟨_, _, _, ?obj⟩, ?code, ?bind, ?names, ?nodup, ?body, ?clo, ?co, ?gen, ?kind, ?glob, ?built⟩), ?en⟩
  case obj => with_unfolding_all exact rfl
  case en => with_unfolding_all exact rfl
  case code => kernel_rfl
  case bind => exact bnd3 fun _ _ _ => rfl
  case names => decide +kernel
  case nodup => decide +kernel
  case body => rfl
  case clo => rfl
  case co => rfl
  case gen => rfl
  case kind => rfl
  case glob => rfl
  case built => rfl
noncomputable def d__law_lengths_right := f__law_lengths_right.den (.cons (.asg (j:=3) rfl (by rfl) (.ife (.cmp ok_is (.nm (j:=1) rfl (by rfl)) .non rfl) .non (.it (.nm (j:=1) rfl (by rfl)) (by decide) (fun _ _ => rfl))) (fun _ => rfl)) (.cons (.asg (j:=4) rfl (by rfl) (.ife (.cmp ok_is (.nm (j:=1) rfl (by rfl)) .non rfl) (.neg .int) (.ife (.cmp ok_ne (.it (.nm (j:=2) rfl (by rfl)) (by decide) (fun _ _ => rfl)) (.it (.nm (j:=1) rfl (by rfl)) (by decide) (fun _ _ => rfl)) rfl) .non (.it (.nm (j:=1) rfl (by rfl)) (by decide) (fun _ _ => rfl)))) (fun _ => rfl)) (.cons (.asg (j:=5) rfl (by rfl) (.ife (.all (.and (.cmp ok_isNot (.nm (j:=1) rfl (by rfl)) .non rfl) (.and (.cmp ok_eqD (.nm (j:=4) rfl (by rfl)) (.nm (j:=3) rfl (by rfl)) rfl) .andN))) (.nm (j:=3) rfl (by rfl)) .non) (fun _ => rfl)) (.one (.ret (.cmp ok_eqD (.tup (.cons (.call (.of (j:=6) rfl g_least_length) (.cons (.nm (j:=0) rfl (by rfl)) .nil (fun _ => rfl)) (fun _ _ => rfl)) (.cons (.call (.of (j:=7) rfl g_most_length) (.cons (.nm (j:=0) rfl (by rfl)) .nil (fun _ => rfl)) (fun _ _ => rfl)) (.cons (.call (.of (j:=8) rfl g_fixed_length) (.cons (.nm (j:=0) rfl (by rfl)) .nil (fun _ => rfl)) (fun _ _ => rfl)) (.cons (.call (.of (j:=9) rfl g_can_be_empty) (.cons (.nm (j:=0) rfl (by rfl)) .nil (fun _ => rfl)) (fun _ _ => rfl)) .nil (fun _ => rfl)) (fun _ => rfl)) (fun _ => rfl)) (fun _ => rfl))) (.tup (.cons (.nm (j:=3) rfl (by rfl)) (.cons (.nm (j:=4) rfl (by rfl)) (.cons (.nm (j:=5) rfl (by rfl)) (.cons (.cmp ok_eqD (.nm (j:=3) rfl (by rfl)) .int rfl) .nil (fun _ => rfl)) (fun _ => rfl)) (fun _ => rfl)) (fun _ => rfl))) rfl))))))
noncomputable def f_law : FnD 617 1 := by
  refine' ⟨_, _, [_, _, _, _, _, _, _, _, _, _, _, _, _, _, _, _, _, _, _, _, _, _, _, _, _, _, _], (fun w => ⟨⟨_, _, _, ?obj⟩, ?code, ?bind, ?names, ?nodup, ?body, ?clo, ?co, ?gen, ?kind, ?glob, ?built⟩), ?en⟩
  case obj => with_unfolding_all exact rfl
  case en => with_unfolding_all exact rfl
  case code => kernel_rfl
  case bind => exact bnd1 fun _ => rfl
  case names => decide +kernel
  case nodup => decide +kernel
  case body => rfl
  case clo => rfl
  case co => rfl
  case gen => rfl
  case kind => rfl
  case glob => rfl
  case built => rfl
noncomputable def d_law := f_law.den (.cons (.asgF (j:=1) rfl (by rfl) (.call (.of (j:=13) rfl g__law_pen) (.cons (.nm (j:=0) rfl (by rfl)) .nil (fun _ => rfl)) (fun _ _ => rfl)) (fun _ => rfl)) (.cons (.asg (j:=2) rfl (by rfl) (.lend (.of (j:=14) rfl g__law_tree) (j:=1) rfl (by rfl) (.cons .int (.cons .int .nil (fun _ => rfl)) (fun _ => rfl)) (fun _ _ => rfl)) (fun _ => rfl)) (.cons (.asg (j:=3) rfl (by rfl) (.call (.of (j:=15) rfl g__law_node) (.cons (.nm (j:=2) rfl (by rfl)) .nil (fun _ => rfl)) (fun _ _ => rfl)) (fun _ => rfl)) (.cons (.swap3 (i:=4) (j:=5) (l:=6) rfl (by rfl) rfl (by rfl) rfl (by decide +kernel) rfl (by rfl) rfl (.meth (.nm (j:=3) rfl (by rfl)) (fun _ => rfl)) (.call (.of (j:=16) rfl g__law_ends) (.cons (.nm (j:=2) rfl (by rfl)) (.cons (.bin ok_pow .int .int) .nil (fun _ => rfl)) (fun _ => rfl)) (fun _ _ => rfl)) (.call (.of (j:=16) rfl g__law_ends) (.cons (.nm (j:=2) rfl (by rfl)) (.cons (.bin ok_add (.bin ok_pow .int .int) .int) .nil (fun _ => rfl)) (fun _ => rfl)) (fun _ _ => rfl)) (fun _ => rfl) (fun _ => rfl) (fun _ => rfl) (fun _ => rfl)) (.cons (.asg (j:=7) rfl (by rfl) (.call (.of (j:=17) rfl g_mirrored) (.cons (.nm (j:=3) rfl (by rfl)) .nil (fun _ => rfl)) (fun _ _ => rfl)) (fun _ => rfl)) (.cons (.ife (.all (.or (.not (.val (.call (.of (j:=18) rfl g__law_lengths_right) (.cons (.nm (j:=3) rfl (by rfl)) (.cons (.nm (j:=5) rfl (by rfl)) (.cons (.nm (j:=6) rfl (by rfl)) .nil (fun _ => rfl)) (fun _ => rfl)) (fun _ => rfl)) (fun _ _ => rfl)) (fun _ => rfl))) (.or (.not (.val (.call (.of (j:=18) rfl g__law_lengths_right) (.cons (.nm (j:=7) rfl (by rfl)) (.cons (.nm (j:=5) rfl (by rfl)) (.cons (.nm (j:=6) rfl (by rfl)) .nil (fun _ => rfl)) (fun _ => rfl)) (fun _ => rfl)) (fun _ _ => rfl)) (fun _ => rfl))) .orN))) (.one (.ret .boo)) .nil) (.cons (.unp (.pair (i:=8) (j:=9) rfl (by rfl) rfl (by rfl)) (.call (.of (j:=19) rfl g__law_leaves) (.cons (.nm (j:=2) rfl (by rfl)) .nil (fun _ => rfl)) (fun _ _ => rfl)) (fun _ => rfl) (fun _ => rfl)) (.cons (.compL (j:=10) (js := [none, none, none, some 8]) ⟨⟨by decide +kernel, by decide +kernel, by decide +kernel, rfl⟩, rfl, (fun _ h => nomatch h), (fun _ _ => rfl), (.enum (.of (j:=20) rfl gb_enumerate) (.nm (j:=8) rfl (by rfl)) (fun _ => rfl) (fun _ _ => rfl)), (.pair (i:=1) (j:=2) rfl (by rfl) rfl (by rfl)), (.one (.cmp ok_notIn (.nm (j:=2) rfl (by rfl)) (.slice (.nm (j:=3) rfl (by rfl)) .no (.so (.nm (j:=1) rfl (by rfl)))) rfl)), (.el (.nm (j:=2) rfl (by rfl)))⟩ rfl (by rfl) (by decide +kernel)) (.cons (.ife (.all (.or (.cmp ok_neD (.ofF (.comp (js := [none, none]) ⟨⟨by decide +kernel, by decide +kernel, by decide +kernel, rfl⟩, rfl, (fun _ h => nomatch h), (fun _ _ => rfl), (.val (.inl ⟨_, _, rfl⟩) (.call (.of (j:=21) rfl g_charsets) (.cons (.nm (j:=3) rfl (by rfl)) .nil (fun _ => rfl)) (fun _ _ => rfl))), (.name (j:=1) rfl (by rfl)), .nil, (.el (.meth (.nm (j:=1) rfl (by rfl)) (fun _ => rfl)))⟩)) (.ofF (.comp (js := [none, none]) ⟨⟨by decide +kernel, by decide +kernel, by decide +kernel, rfl⟩, rfl, (fun _ h => nomatch h), (fun _ _ => rfl), (.val (.inl ⟨_, _, rfl⟩) (.nm (j:=10) rfl (by rfl))), (.name (j:=1) rfl (by rfl)), .nil, (.el (.ofF (.comp (js := [none, none, none]) ⟨⟨by decide +kernel, by decide +kernel, by decide +kernel, rfl⟩, rfl, (fun _ h => nomatch h), (fun _ _ => rfl), (.val (.inl ⟨_, _, rfl⟩) (.nm (j:=1) rfl (by rfl))), (.name (j:=1) rfl (by rfl)), .nil, (.el (.blt (.of (j:=2) rfl gb_ord) ok_ord (.cons (.nm (j:=1) rfl (by rfl)) .nil (fun _ => rfl)) (fun _ _ => rfl)))⟩)))⟩)) rfl) (.or (.cmp ok_ne (.call (.of (j:=22) rfl g_node_count) (.cons (.nm (j:=3) rfl (by rfl)) .nil (fun _ => rfl)) (fun _ _ => rfl)) (.nm (j:=9) rfl (by rfl)) rfl) (.or (.cmp ok_ne (.call (.of (j:=22) rfl g_node_count) (.cons (.nm (j:=7) rfl (by rfl)) .nil (fun _ => rfl)) (fun _ _ => rfl)) (.nm (j:=9) rfl (by rfl)) rfl) .orN)))) (.one (.ret .boo)) .nil) (.cons (.asg (j:=11) rfl (by rfl) (.call (.of (j:=17) rfl g_mirrored) (.cons (.nm (j:=7) rfl (by rfl)) .nil (fun _ => rfl)) (fun _ _ => rfl)) (fun _ => rfl)) (.cons (.ife (.all (.or (.cmp ok_neD (.meth (.call (.of (j:=17) rfl g_mirrored) (.cons (.nm (j:=11) rfl (by rfl)) .nil (fun _ => rfl)) (fun _ _ => rfl)) (fun _ => rfl)) (.meth (.nm (j:=7) rfl (by rfl)) (fun _ => rfl)) rfl) (.or (.cmp ok_ne (.call (.of (j:=22) rfl g_node_count) (.cons (.nm (j:=11) rfl (by rfl)) .nil (fun _ => rfl)) (fun _ _ => rfl)) (.nm (j:=9) rfl (by rfl)) rfl) (.or (.cmp ok_neD (.meth (.nm (j:=3) rfl (by rfl)) (fun _ => rfl)) (.nm (j:=4) rfl (by rfl)) rfl) .orN)))) (.one (.ret .boo)) .nil) (.cons (.ife (.cmp ok_is (.nm (j:=5) rfl (by rfl)) .non rfl) (.one (.ret (.and2 (.cmp ok_is (.call (.of (j:=23) rfl g_least_word) (.cons (.nm (j:=3) rfl (by rfl)) .nil (fun _ => rfl)) (fun _ _ => rfl)) .non rfl) (.and1 (.cmp ok_is (.call (.of (j:=23) rfl g_least_word) (.cons (.nm (j:=7) rfl (by rfl)) .nil (fun _ => rfl)) (fun _ _ => rfl)) .non rfl))))) .nil) (.cons (.ife (.cmp ok_gt (.it (.nm (j:=5) rfl (by rfl)) (by decide) (fun _ _ => rfl)) .int rfl) (.one (.ret (.and2 (.cmp ok_eq (.blt (.of (j:=24) rfl gb_len) ok_len (.cons (.call (.of (j:=23) rfl g_least_word) (.cons (.nm (j:=3) rfl (by rfl)) .nil (fun _ => rfl)) (fun _ _ => rfl)) .nil (fun _ => rfl)) (fun _ _ => rfl)) (.it (.nm (j:=5) rfl (by rfl)) (by decide) (fun _ _ => rfl)) rfl) (.and1 (.cmp ok_eq (.blt (.of (j:=24) rfl gb_len) ok_len (.cons (.call (.of (j:=23) rfl g_least_word) (.cons (.nm (j:=7) rfl (by rfl)) .nil (fun _ => rfl)) (fun _ _ => rfl)) .nil (fun _ => rfl)) (fun _ _ => rfl)) (.it (.nm (j:=5) rfl (by rfl)) (by decide) (fun _ _ => rfl)) rfl))))) .nil) (.cons (.asg (j:=12) rfl (by rfl) (.call (.of (j:=25) rfl g__law_words) (.cons (.nm (j:=2) rfl (by rfl)) (.cons (.it (.nm (j:=5) rfl (by rfl)) (by decide) (fun _ _ => rfl)) .nil (fun _ => rfl)) (fun _ => rfl)) (fun _ _ => rfl)) (fun _ => rfl)) (.one (.ret (.and2 (.cmp ok_eqS (.call (.of (j:=23) rfl g_least_word) (.cons (.nm (j:=3) rfl (by rfl)) .nil (fun _ => rfl)) (fun _ _ => rfl)) (.it (.nm (j:=12) rfl (by rfl)) (by decide) (fun _ _ => rfl)) rfl) (.and2 (.cmp ok_eqS (.call (.of (j:=23) rfl g_least_word) (.cons (.nm (j:=7) rfl (by rfl)) .nil (fun _ => rfl)) (fun _ _ => rfl)) (.it (.blt (.of (j:=26) rfl gb_sorted) ok_sorted (.cons (.ofF (.comp (js := [none, none]) ⟨⟨by decide +kernel, by decide +kernel, by decide +kernel, rfl⟩, rfl, (fun _ h => nomatch h), (fun _ _ => rfl), (.val (.inl ⟨_, _, rfl⟩) (.nm (j:=12) rfl (by rfl))), (.name (j:=1) rfl (by rfl)), .nil, (.el (.rev (.nm (j:=1) rfl (by rfl)) (.neg .int) (fun _ _ => rfl)))⟩)) .nil (fun _ => rfl)) (fun _ _ => rfl)) (by decide) (fun _ _ => rfl)) rfl) (.and1 (.cmp ok_eqS (.call (.of (j:=23) rfl g_least_word) (.cons (.nm (j:=11) rfl (by rfl)) .nil (fun _ => rfl)) (fun _ _ => rfl)) (.it (.nm (j:=12) rfl (by rfl)) (by decide) (fun _ _ => rfl)) rfl))))))))))))))))))))
end Mine

end
section
-- F1
open PySem PySem.W PySem.Calls PyProof.Rows
set_option Elab.async false
set_option linter.all false
set_option maxRecDepth 100000
set_option maxHeartbeats 4000000
set_option genInjectivity false
set_option genSizeOfSpec false
namespace Mine
noncomputable def spineC : N → List N
  | .cat l r => spineC l ++ [r]
  | n => [n]
noncomputable def spineA : N → List N
  | .alt l r => spineA l ++ [r]
  | n => [n]
noncomputable def spineOf : N → List N
  | .cat l r => spineC l ++ [r]
  | .alt l r => spineA l ++ [r]
  | n => [n]

noncomputable def rowOf : N → N → List N
  | .cat .., m => spineC m
  | .alt .., m => spineA m
  | _, m => [m]
noncomputable def N.size : N → Nat
  | .cat l r => l.size + r.size + 1
  | .alt l r => l.size + r.size + 1
  | .star b => b.size + 1
  | .plus b => b.size + 1
  | .opt b => b.size + 1
  | .rep b _ _ => b.size + 1
  | _ => 1

theorem nm_cat {m : N} (h : m.nm = "cat") : ∃ l r, m = .cat l r := by
  cases m <;> first | exact ⟨_, _, rfl⟩ | (exact absurd h (by simp only [N.nm]; decide +kernel))
theorem nm_alt {m : N} (h : m.nm = "alt") : ∃ l r, m = .alt l r := by
  cases m <;> first | exact ⟨_, _, rfl⟩ | (exact absurd h (by simp only [N.nm]; decide +kernel))
theorem row_len (n : N) : ∀ m, (rowOf n m).length ≤ m.size := by
  intro m
  have h1 : ∀ m, (spineC m).length ≤ m.size := by
    intro m
    induction m with
    | cat l r ih _ => simp only [spineC, List.length_append, N.size, List.length_cons, List.length_nil]; have : 1 ≤ r.size := by cases r <;> simp [N.size]
                      lia
    | _ => simp [spineC, N.size]
  have h2 : ∀ m, (spineA m).length ≤ m.size := by
    intro m
    induction m with
    | alt l r ih _ => simp only [spineA, List.length_append, N.size, List.length_cons, List.length_nil]; have : 1 ≤ r.size := by cases r <;> simp [N.size]
                      lia
    | _ => simp [spineA, N.size]
  have h3 : 1 ≤ m.size := by cases m <;> simp [N.size]
  cases n <;> first | exact h1 m | exact h2 m | exact h3

theorem WhileP.by {T : Env' → (Bool → Env' → Prop) → Prop} {D : Env' → (Env' → Prop) → Prop} {Qn : Env' → Prop} {ρ : Env'} (I : Env' → Prop) (rest : ∀ ρ, I ρ → Qn ρ) (h : ∀ Qn, (∀ ρ, I ρ → Qn ρ) → WhileP T D Qn ρ) : WhileP T D Qn ρ := h Qn rest
theorem Way.by {c : Bool} {A B : Prop} (t : c = true → A) (f : c = false → B) : Way c A B := by
  cases c with
  | true => exact t rfl
  | false => exact f rfl
theorem at_name (n : N) : attrO "name" n.v = some (.str n.nm) := by cases n <;> rfl
theorem Way.eqT {c : Bool} (e : c = true) {A B : Prop} (h : A) : Way c A B := by subst e; exact h
theorem Way.eqF {c : Bool} (e : c = false) {A B : Prop} (h : B) : Way c A B := by subst e; exact h
theorem N.pos : ∀ n : N, 1 ≤ n.size := fun n => by cases n <;> simp only [N.size] <;> lia
/-- a loop over nodes -/
noncomputable def NodesJ (J : List N → Env' → Prop) (us : List V) (ρ : Env') : Prop := ∃ ns, us = ns.map N.v ∧ J ns ρ
theorem LoopI.nodes {turn : (List V → Env' → Prop) → Prop} {Qn : Env' → Prop} {ms : List N} {ρ : Env'} (J : List N → Env' → Prop) (h0 : J ms ρ) (step : turn (NodesJ J)) (fin : ∀ ρ, J [] ρ → Qn ρ) : LoopI turn Qn (ms.map N.v) ρ :=
  ⟨NodesJ J, ⟨ms, rfl, h0⟩, step, fun ρ ⟨ns, e, h⟩ => by
    cases ns with
    | nil => exact fin ρ h
    | cons _ _ => cases e⟩
theorem nodes_cons {u : V} {us : List V} {ns : List N} (e : u :: us = ns.map N.v) : ∃ m ms, ns = m :: ms ∧ u = m.v ∧ us = ms.map N.v := by
  cases ns with
  | nil => cases e
  | cons m ms => cases e; exact ⟨m, ms, rfl, rfl, rfl⟩
theorem spine_ok (w : World) (n : N) (hn : n.size ≤ 1000) : Fn (GL w) 1 298 [n.v] (fun r => r = .fresh ((rowOf n n).map N.v)) := by
  refine d_spine.2.fn rfl ?_
  refine WhileP.by (fun ρ => ∃ m acc, ρ = [some (Slot.val n.v), some (Slot.own (List.map N.v acc)), some (Slot.val m.v)] ∧ acc.length ≤ 1000 ∧ acc ++ [m] = (rowOf n n).reverse) ?_ fun Qn fin => ?_
  · rintro ρ ⟨m, acc, rfl, h1, h2⟩
    refine ⟨by simp; lia, ?_⟩
    refine ⟨by simp; lia, ?_⟩
    exact congrArg R.fresh (by rw [← List.map_singleton, ← List.map_append, h2, ← List.map_reverse, List.reverse_reverse])
  · refine ⟨N × List N, (fun p : N × List N => [some (Slot.val n.v), some (Slot.own (p.2.map N.v)), some (Slot.val p.1.v)]), (fun p => p.2 ++ (rowOf n p.1).reverse = (rowOf n n).reverse), (fun p => p.1.size), (n, []), rfl, rfl, ?_⟩
    rintro ⟨m, acc⟩ h
    have hb : acc.length + 1 ≤ 1000 := by
      have h1 := congrArg List.length h
      have h2 := row_len n n
      have h3 : 1 ≤ (rowOf n m).length := by cases n <;> simp only [rowOf] <;> first | exact Nat.le_refl _ | (cases m <;> simp [spineC, spineA])
      simp at h1
      lia
    have hb2 : (List.map N.v acc).length ≤ 100000 := by rw [List.length_map]; lia
    have fin' : rowOf n m = [m] → Qn [some (Slot.val n.v), some (Slot.own (List.map N.v acc)), some (Slot.val m.v)] := fun e => fin _ ⟨m, acc, rfl, Nat.le_of_succ_le hb, by rw [← h, e]; rfl⟩
    refine El.by (at_name m) ?_
    refine El.by (at_name n) ?_
    refine Way.by (fun h1 => ?_) fun h1 => ?_
    · have h1 := eq_of_beq h1
      refine El.by (at_name m) ?_
      refine Way.by (fun h2 => ?_) fun h2 => ?_
      · have h2 := eq_of_beq h2
        obtain ⟨l, r, rfl⟩ := nm_cat h2
        obtain ⟨l', r', rfl⟩ := nm_cat (h1.symm.trans h2)
        refine ⟨hb2, ?_⟩
        exact ⟨(l, acc ++ [r]), by rw [List.map_append]; rfl, by simpa [rowOf, spineC] using h, by simp only [N.size]; lia⟩
      · refine El.by (at_name m) ?_
        refine Way.by (fun h3 => ?_) fun h3 => ?_
        · have h3 := eq_of_beq h3
          obtain ⟨l, r, rfl⟩ := nm_alt h3
          obtain ⟨l', r', rfl⟩ := nm_alt (h1.symm.trans h3)
          refine ⟨hb2, ?_⟩
          exact ⟨(l, acc ++ [r]), by rw [List.map_append]; rfl, by simpa [rowOf, spineA] using h, by simp only [N.size]; lia⟩
        · refine fin' ?_
          rw [h1] at h2 h3
          cases n <;> first | rfl | exact absurd h2 (by simp only [N.nm]; decide +kernel) | exact absurd h3 (by simp only [N.nm]; decide +kernel)
    · refine fin' ?_
      cases n with
      | cat l r => cases m <;> first | rfl | exact absurd h1 (by simp only [N.nm]; decide +kernel)
      | alt l r => cases m <;> first | rfl | exact absurd h1 (by simp only [N.nm]; decide +kernel)
      | _ => rfl
noncomputable def N.canE : N → Bool
  | .empty => true
  | .never => false
  | .chars _ => false
  | .cat l r => l.canE && r.canE
  | .alt l r => l.canE || r.canE
  | .star _ => true
  | .plus b => b.canE
  | .opt _ => true
  | .rep b lo _ => lo == 0 || b.canE

theorem mem_spineC : ∀ n : N, ∀ m ∈ spineC n, m.size ≤ n.size ∧ ((∃ l r, n = .cat l r) → m.size + 1 ≤ n.size) := by
  intro n
  induction n with
  | cat l r ih _ =>
    intro m hm
    simp only [spineC, List.mem_append, List.mem_singleton] at hm
    simp only [N.size]
    rcases hm with hm | rfl
    · have := (ih m hm).1; lia
    · lia
  | _ => intro m hm; simp only [spineC, List.mem_singleton] at hm; subst hm; exact ⟨Nat.le_refl _, fun ⟨_, _, e⟩ => nomatch e⟩
theorem mem_spineA : ∀ n : N, ∀ m ∈ spineA n, m.size ≤ n.size ∧ ((∃ l r, n = .alt l r) → m.size + 1 ≤ n.size) := by
  intro n
  induction n with
  | alt l r ih _ =>
    intro m hm
    simp only [spineA, List.mem_append, List.mem_singleton] at hm
    simp only [N.size]
    rcases hm with hm | rfl
    · have := (ih m hm).1; lia
    · lia
  | _ => intro m hm; simp only [spineA, List.mem_singleton] at hm; subst hm; exact ⟨Nat.le_refl _, fun ⟨_, _, e⟩ => nomatch e⟩
theorem canE_C : ∀ n : N, (spineC n).all N.canE = n.canE := by
  intro n
  induction n with
  | cat l r ih _ => simp [spineC, N.canE, ih]
  | _ => simp [spineC, N.canE]
theorem canE_A : ∀ n : N, (spineA n).any N.canE = n.canE := by
  intro n
  induction n with
  | alt l r ih _ => simp [spineA, N.canE, ih]
  | _ => simp [spineA, N.canE]


theorem can_ok (w : World) : ∀ (k : Nat) (n : N), n.size ≤ k → k ≤ 1000 → Fn (GL w) (n.size + 1) 319 [n.v] (fun r => r = .val (.bool n.canE)) := by
  intro k
  induction k with
  | zero => intro n hn; have := n.pos; lia
  | succ k ih =>
    intro n hn hk
    refine d_can_be_empty.2.fn rfl ?_
    cases n with
    | empty => exact rfl
    | never => exact rfl
    | chars cs => exact rfl
    | star b => exact rfl
    | opt b => exact rfl
    | plus b => exact CallP.of (ih b (Nat.le_of_succ_le_succ hn) (Nat.le_of_succ_le hk)) (Nat.le_refl _) rfl
    | rep b lo hi =>
      refine Way.by (c := lo == 0) (fun h => ?_) fun h => ?_
      · exact congrArg (fun c => R.val (.bool (c || b.canE))) h.symm
      · refine CallP.of (ih b (Nat.le_of_succ_le_succ hn) (Nat.le_of_succ_le hk)) (Nat.le_refl _) ?_
        exact congrArg (fun c => R.val (.bool (c || b.canE))) h.symm
    | cat l r =>
      refine CallP.of (spine_ok w (.cat l r) (Nat.le_trans hn hk)) (Nat.succ_le_succ (Nat.zero_le _)) ?_
      refine LoopI.nodes (fun ms ρ => (∀ m ∈ ms, m.size + 1 ≤ (N.cat l r).size) ∧ ms.all N.canE = (N.cat l r).canE ∧ ∃ o, ρ = [some (Slot.val (N.cat l r).v), o, none, none]) ⟨fun m hm => (mem_spineC (.cat l r) m hm).2 ⟨_, _, rfl⟩, canE_C _, _, rfl⟩ ?_ ?_
      · rintro u us ρ ⟨ns, e, h1, h2, o, rfl⟩
        obtain ⟨m, ms, rfl, rfl, rfl⟩ := nodes_cons e
        have hm := h1 m (.head _)
        refine CallP.of (ih m (by lia) (by lia)) hm ?_
        refine Way.by (c := !m.canE) (fun h => ?_) fun h => ?_
        · show R.val _ = R.val _
          rw [← h2, List.all_cons, show m.canE = false by simpa using h]; rfl
        · refine ⟨ms, rfl, fun q hq => h1 q (.tail _ hq), ?_, _, rfl⟩
          rw [← h2, List.all_cons, show m.canE = true by simpa using h]; rfl
      · rintro ρ ⟨h1, h2, o, rfl⟩
        show R.val _ = R.val _
        rw [← h2]; rfl
    | alt l r =>
      refine CallP.of (spine_ok w (.alt l r) (Nat.le_trans hn hk)) (Nat.succ_le_succ (Nat.zero_le _)) ?_
      refine LoopI.nodes (fun ms ρ => (∀ m ∈ ms, m.size + 1 ≤ (N.alt l r).size) ∧ ms.any N.canE = (N.alt l r).canE ∧ ∃ o, ρ = [some (Slot.val (N.alt l r).v), o, none, none]) ⟨fun m hm => (mem_spineA (.alt l r) m hm).2 ⟨_, _, rfl⟩, canE_A _, _, rfl⟩ ?_ ?_
      · rintro u us ρ ⟨ns, e, h1, h2, o, rfl⟩
        obtain ⟨m, ms, rfl, rfl, rfl⟩ := nodes_cons e
        have hm := h1 m (.head _)
        refine CallP.of (ih m (by lia) (by lia)) hm ?_
        refine Way.by (c := m.canE) (fun h => ?_) fun h => ?_
        · show R.val _ = R.val _
          rw [← h2, List.any_cons, h]; rfl
        · refine ⟨ms, rfl, fun q hq => h1 q (.tail _ hq), ?_, _, rfl⟩
          rw [← h2, List.any_cons, h]; rfl
      · rintro ρ ⟨h1, h2, o, rfl⟩
        show R.val _ = R.val _
        rw [← h2]; rfl

end Mine

end
section
-- F2
open PySem PySem.W PySem.Calls PyProof.Rows
set_option Elab.async false
set_option linter.all false
set_option maxRecDepth 100000
set_option maxHeartbeats 4000000
set_option genInjectivity false
set_option genSizeOfSpec false
namespace Mine
noncomputable abbrev csF (t : Str) : List (Str × V) := [("spans", V.tup (spanV t))]
theorem spanV_len (t : Str) : (spanV t).length = if t.cps.size = 0 then 0 else 1 := by
  unfold spanV
  have : t.cps.size = t.cps.toList.length := by simp
  rw [this]
  cases t.cps.toList <;> simp
theorem m_isEmpty (w : World) (t : Str) : Meth (GL w) 1 "is_empty" (fun r => r = .val (.bool (t.cps.size == 0))) (csV t) := by
  refine ⟨551, csF t, rfl, 492, cls_ok _ _ (by decide), rfl, by kernel_rfl, by kernel_rfl, by kernel_rfl, d_m_empty.2.fn rfl ?_⟩
  have h := spanV_len t
  refine ⟨by rw [h]; split <;> lia, ?_⟩
  show R.val (.bool (((spanV t).length : Int) == 0)) = R.val _
  rw [h]
  by_cases e : t.cps.size = 0
  · rw [if_pos e, e]; rfl
  · rw [if_neg e, beq_eq_false_iff_ne.mpr e]; rfl
noncomputable def leastOf (t : Str) : V := match t.cps.toList with
  | [] => .none
  | c :: _ => .int c
theorem m_least (w : World) (t : Str) : Meth (GL w) 1 "least" (fun r => r = .val (leastOf t)) (csV t) := by
  refine ⟨551, csF t, rfl, 485, cls_ok _ _ (by decide), rfl, by kernel_rfl, by kernel_rfl, by kernel_rfl, d_m_least.2.fn rfl ?_⟩
  unfold leastOf
  cases e : t.cps.toList with
  | nil =>
    have e' : spanV t = [] := by unfold spanV; rw [e]
    have : csF t = [(("spans" : Str), V.tup [])] := by show [(_, V.tup (spanV t))] = _; rw [e']
    rw [this]
    exact ⟨Nat.zero_le _, rfl⟩
  | cons c cs =>
    have e' : spanV t = [.tup [.int c, .int ((c + cs.length : Nat) : Int)]] := by unfold spanV; rw [e]
    have : csF t = [(("spans" : Str), V.tup [V.tup [.int c, .int ((c + cs.length : Nat) : Int)]])] := by show [(_, V.tup (spanV t))] = _; rw [e']
    rw [this]
    exact ⟨(by decide : 1 ≤ 100000), rfl⟩

noncomputable def omin : Option Int → Option Int → Option Int
  | none, o => o
  | o, none => o
  | some a, some b => some (min a b)
noncomputable def oadd : Option Int → Option Int → Option Int
  | some a, some b => some (a + b)
  | _, _ => none
noncomputable def N.least : N → Option Int
  | .empty => some 0
  | .never => none
  | .chars t => if t.cps.size == 0 then none else some 1
  | .cat l r => oadd l.least r.least
  | .alt l r => omin l.least r.least
  | .star _ => some 0
  | .plus b => b.least
  | .opt _ => some 0
  | .rep b lo _ => match b.least with
    | none => if lo == 0 then some 0 else none
    | some k => some (k * lo)
/-- the drawn numbers are in bounds -/
noncomputable def N.wf : N → Prop
  | .cat l r => l.wf ∧ r.wf
  | .alt l r => l.wf ∧ r.wf
  | .star b => b.wf
  | .plus b => b.wf
  | .opt b => b.wf
  | .rep b lo hi => b.wf ∧ 0 ≤ lo ∧ lo ≤ 40 ∧ ∀ h, hi = some h → lo ≤ h ∧ h ≤ 40
  | _ => True
theorem least_nn : ∀ n : N, n.wf → ∀ k, n.least = some k → 0 ≤ k := by
  intro n
  induction n with
  | empty => intro _ k h; cases h; decide
  | never => intro _ k h; cases h
  | chars t => intro _ k h; simp only [N.least] at h; split at h <;> cases h; decide
  | cat l r h1 h2 =>
    intro w k h
    simp only [N.least] at h
    cases e1 : l.least <;> cases e2 : r.least <;> simp only [e1, e2, oadd] at h <;> cases h
    have := h1 w.1 _ e1; have := h2 w.2 _ e2; lia
  | alt l r h1 h2 =>
    intro w k h
    simp only [N.least] at h
    cases e1 : l.least <;> cases e2 : r.least <;> simp only [e1, e2, omin] at h <;> cases h
    · exact h2 w.2 _ e2
    · exact h1 w.1 _ e1
    · have := h1 w.1 _ e1; have := h2 w.2 _ e2; lia
  | star b _ => intro _ k h; cases h; decide
  | opt b _ => intro _ k h; cases h; decide
  | plus b ih => intro w k h; exact ih w k h
  | rep b lo hi ih =>
    intro w k h
    simp only [N.least] at h
    cases e : b.least with
    | none => simp only [e] at h; split at h <;> cases h; decide
    | some j => simp only [e] at h; cases h; exact Int.mul_nonneg (ih w.1 _ e) w.2.1
theorem canE_least : ∀ n : N, n.wf → n.canE = true → n.least = some 0 := by
  intro n
  induction n with
  | cat l r h1 h2 =>
    intro w h
    simp only [N.canE, Bool.and_eq_true] at h
    simp only [N.least, h1 w.1 h.1, h2 w.2 h.2, oadd]; rfl
  | alt l r h1 h2 =>
    intro w h
    simp only [N.canE, Bool.or_eq_true] at h
    simp only [N.least]
    rcases h with h | h
    · rw [h1 w.1 h]
      cases e : r.least with
      | none => rfl
      | some k => have := least_nn r w.2 _ e; simp only [omin]; congr 1; lia
    · rw [h2 w.2 h]
      cases e : l.least with
      | none => rfl
      | some k => have := least_nn l w.1 _ e; simp only [omin]; congr 1; lia
  | plus b ih => intro w h; exact ih w h
  | rep b lo hi ih =>
    intro w h
    simp only [N.canE, Bool.or_eq_true] at h
    simp only [N.least]
    rcases h with h | h
    · have : lo = 0 := by simpa using h
      subst this
      cases b.least <;> simp
    · rw [ih w.1 h]; simp
  | _ => intro _ h; first | rfl | (simp only [N.canE] at h; cases h)
noncomputable def sumL : List N → Option Int
  | [] => some 0
  | m :: ms => oadd m.least (sumL ms)
theorem oadd_assoc (a b c : Option Int) : oadd (oadd a b) c = oadd a (oadd b c) := by
  cases a <;> cases b <;> cases c <;> simp [oadd, Int.add_assoc]
theorem sumL_append : ∀ xs ys : List N, sumL (xs ++ ys) = oadd (sumL xs) (sumL ys) := by
  intro xs ys
  induction xs with
  | nil => simp only [List.nil_append, sumL]; cases sumL ys <;> simp [oadd]
  | cons x xs ih => simp only [List.cons_append, sumL, ih, oadd_assoc]
theorem sumL_C : ∀ n : N, sumL (spineC n) = n.least := by
  intro n
  induction n with
  | cat l r ih _ => simp only [spineC, sumL_append, ih, N.least, sumL]; cases r.least <;> simp [oadd]
  | _ => simp only [spineC, sumL]; cases N.least _ <;> simp [oadd]
noncomputable def minL : List N → Option Int
  | [] => none
  | m :: ms => omin m.least (minL ms)
theorem omin_assoc (a b c : Option Int) : omin (omin a b) c = omin a (omin b c) := by
  cases a <;> cases b <;> cases c <;> simp [omin]; try lia
theorem minL_append : ∀ xs ys : List N, minL (xs ++ ys) = omin (minL xs) (minL ys) := by
  intro xs ys
  induction xs with
  | nil => simp only [List.nil_append, minL]; cases minL ys <;> simp [omin]
  | cons x xs ih => simp only [List.cons_append, minL, ih, omin_assoc]
theorem minL_A : ∀ n : N, minL (spineA n) = n.least := by
  intro n
  induction n with
  | alt l r ih _ => simp only [spineA, minL_append, ih, N.least, minL]; cases r.least <;> simp [omin]
  | _ => simp only [spineA, minL]; cases N.least _ <;> simp [omin]
theorem wf_C : ∀ n : N, n.wf → ∀ m ∈ spineC n, m.wf := by
  intro n
  induction n with
  | cat l r ih _ =>
    intro w m hm
    simp only [spineC, List.mem_append, List.mem_singleton] at hm
    rcases hm with hm | rfl
    · exact ih w.1 m hm
    · exact w.2
  | _ => intro w m hm; simp only [spineC, List.mem_singleton] at hm; subst hm; exact w
theorem wf_A : ∀ n : N, n.wf → ∀ m ∈ spineA n, m.wf := by
  intro n
  induction n with
  | alt l r ih _ =>
    intro w m hm
    simp only [spineA, List.mem_append, List.mem_singleton] at hm
    rcases hm with hm | rfl
    · exact ih w.1 m hm
    · exact w.2
  | _ => intro w m hm; simp only [spineA, List.mem_singleton] at hm; subst hm; exact w


theorem mulOk {a b : Int} (h : 0 ≤ b) (h2 : b ≤ 40) : IntMulOk a b := .of_right (intBits_le_64 (by lia) (by lia))
theorem least_ok (w : World) : ∀ (k : Nat) (n : N), n.size ≤ k → k ≤ 1000 → n.wf → Fn (GL w) (n.size + 2) 326 [n.v] (fun r => r = .val (hiV n.least)) := by
  intro k
  induction k with
  | zero => intro n hn; have := n.pos; lia
  | succ k ih =>
    intro n hn hk hw
    refine d_least_length.2.fn rfl ?_
    have can := can_ok w 1000 n (Nat.le_trans hn hk) (Nat.le_refl _)
    cases hc : n.canE with
    | true =>
      have hl := canE_least n hw hc
      rw [hc] at can
      rw [hl]
      cases n with
      | never => cases hc
      | chars t => cases hc
      | _ => exact CallP.of can (Nat.le_refl _) rfl
    | false =>
      rw [hc] at can
      cases n with
      | empty => cases hc
      | star b => cases hc
      | opt b => cases hc
      | never => exact rfl
      | chars t =>
        refine (m_isEmpty w t).of (Nat.succ_le_succ (Nat.zero_le _)) ?_
        refine Way.by (c := t.cps.size == 0) (fun h => ?_) fun h => ?_
        · exact congrArg (fun c => R.val (hiV (if c = true then none else some 1))) h.symm
        · exact congrArg (fun c => R.val (hiV (if c = true then none else some 1))) h.symm
      | plus b =>
        refine CallP.of can (Nat.le_refl _) ?_
        refine CallP.of (ih b (Nat.le_of_succ_le_succ hn) (Nat.le_of_succ_le hk) hw) (Nat.le_refl _) ?_
        rw [show (N.plus b).least = b.least from rfl]
        cases b.least <;> exact rfl
      | rep b lo hi =>
        refine CallP.of can (Nat.le_refl _) ?_
        refine CallP.of (ih b (Nat.le_of_succ_le_succ hn) (Nat.le_of_succ_le hk) hw.1) (Nat.le_refl _) ?_
        cases hb : b.least with
        | none =>
          have e : (N.rep b lo hi).least = none := by
            simp only [N.canE, Bool.or_eq_false_iff] at hc
            simp only [N.least, hb, hc.1]; rfl
          rw [e]; exact rfl
        | some j =>
          have e : (N.rep b lo hi).least = some (j * lo) := by simp only [N.least, hb]
          rw [e]; exact ⟨mulOk hw.2.1 hw.2.2.1, rfl⟩
      | cat l r =>
        refine CallP.of can (Nat.le_refl _) ?_
        refine CallP.of (spine_ok w (.cat l r) (Nat.le_trans hn hk)) (Nat.succ_le_succ (Nat.zero_le _)) ?_
        refine LoopI.nodes (fun ms ρ => (∀ m ∈ ms, m.wf ∧ m.size + 1 ≤ (N.cat l r).size) ∧ ∃ (a : Int) (o o1 : Option Slot), oadd (some a) (sumL ms) = (N.cat l r).least ∧ ρ = [some (Slot.val (N.cat l r).v), some (Slot.val (V.int a)), o, o1, none, none, none, none]) ⟨fun m hm => ⟨wf_C _ hw m hm, (mem_spineC (.cat l r) m hm).2 ⟨_, _, rfl⟩⟩, _, _, _, ?_, rfl⟩ ?_ ?_
        · show oadd _ (sumL (spineC _)) = _
          rw [sumL_C]; cases (N.cat l r).least <;> simp [oadd]
        · rintro u us ρ ⟨ns, e, h1, a, o, o1, h2, rfl⟩
          obtain ⟨m, ms, rfl, rfl, rfl⟩ := nodes_cons e
          have hm := h1 m (.head _)
          refine CallP.of (ih m (by lia) (by lia) hm.1) (Nat.succ_le_succ hm.2) ?_
          rw [sumL] at h2
          cases hl : m.least with
          | none => rw [← h2, hl]; exact rfl
          | some j => exact ⟨ms, rfl, fun q hq => h1 q (.tail _ hq), a + j, _, _, by rw [← h2, hl, ← oadd_assoc]; rfl, rfl⟩
        · rintro ρ ⟨h1, a, o, o1, h2, rfl⟩
          rw [← h2]; exact congrArg (fun a => R.val (.int a)) (Int.add_zero a).symm
      | alt l r =>
        refine CallP.of can (Nat.le_refl _) ?_
        refine CallP.of (spine_ok w (.alt l r) (Nat.le_trans hn hk)) (Nat.succ_le_succ (Nat.zero_le _)) ?_
        refine LoopI.nodes (fun ms ρ => (∀ m ∈ ms, m.wf ∧ m.size + 1 ≤ (N.alt l r).size) ∧ ∃ (a : Option Int) (o o1 : Option Slot), omin a (minL ms) = (N.alt l r).least ∧ ρ = [some (Slot.val (N.alt l r).v), some (Slot.val (hiV a)), o, none, o1, none, none, none]) ⟨fun m hm => ⟨wf_A _ hw m hm, (mem_spineA (.alt l r) m hm).2 ⟨_, _, rfl⟩⟩, none, _, _, ?_, rfl⟩ ?_ ?_
        · show omin _ (minL (spineA _)) = _
          rw [minL_A]; cases (N.alt l r).least <;> simp [omin]
        · rintro u us ρ ⟨ns, e, h1, a, o, o1, h2, rfl⟩
          obtain ⟨m, ms, rfl, rfl, rfl⟩ := nodes_cons e
          have hm := h1 m (.head _)
          refine CallP.of (ih m (by lia) (by lia) hm.1) (Nat.succ_le_succ hm.2) ?_
          rw [minL, ← omin_assoc] at h2
          cases hl : m.least with
          | none => exact ⟨ms, rfl, fun q hq => h1 q (.tail _ hq), a, _, _, by rw [← h2, hl]; cases a <;> rfl, rfl⟩
          | some j =>
            cases a with
            | none => exact ⟨ms, rfl, fun q hq => h1 q (.tail _ hq), some j, _, _, by rw [← h2, hl]; rfl, rfl⟩
            | some i =>
              refine Way.by (c := decide (j < i)) (fun h => ?_) fun h => ?_
              · exact ⟨ms, rfl, fun q hq => h1 q (.tail _ hq), some j, _, _, by rw [← h2, hl]; exact congrArg (fun x => omin (some x) (minL ms)) (Int.min_eq_right (Int.le_of_lt (of_decide_eq_true h))).symm, rfl⟩
              · exact ⟨ms, rfl, fun q hq => h1 q (.tail _ hq), some i, _, _, by rw [← h2, hl]; exact congrArg (fun x => omin (some x) (minL ms)) (Int.min_eq_left (Int.not_lt.mp (of_decide_eq_false h))).symm, rfl⟩
        · rintro ρ ⟨h1, a, o, o1, h2, rfl⟩
          rw [← h2]; cases a <;> exact rfl

end Mine

end
section
-- F3
open PySem PySem.W PySem.Calls PyProof.Rows
set_option Elab.async false
set_option linter.all false
set_option maxRecDepth 100000
set_option maxHeartbeats 4000000
set_option genInjectivity false
set_option genSizeOfSpec false
namespace Mine
noncomputable def loopM (lo : Int) (hi : Option Int) (x : Option Int) : Option Int :=
  if hi = some 0 then some 0 else match x with
  | none => none
  | some k => if k < 0 then (if lo = 0 then some 0 else some (-1)) else if k = 0 then some 0 else match hi with
    | none => none
    | some h => some (k * h)
noncomputable def catM : Option Int → Option Int → Option Int
  | none, none => none
  | none, some b => if b < 0 then some (-1) else none
  | some a, none => if a < 0 then some (-1) else none
  | some a, some b => if a < 0 ∨ b < 0 then some (-1) else some (a + b)
noncomputable def maxM : Option Int → Option Int → Option Int
  | some a, some b => some (max a b)
  | _, _ => none
noncomputable def N.most : N → Option Int
  | .empty => some 0
  | .never => some (-1)
  | .chars t => if t.cps.size == 0 then some (-1) else some 1
  | .cat l r => catM l.most r.most
  | .alt l r => maxM l.most r.most
  | .star b => loopM 0 none b.most
  | .plus b => loopM 1 none b.most
  | .opt b => loopM 0 (some 1) b.most
  | .rep b lo hi => loopM lo hi b.most
noncomputable def N.lohi : N → Option (Int × Option Int)
  | .star _ => some (0, none)
  | .plus _ => some (1, none)
  | .opt _ => some (0, some 1)
  | .rep _ lo hi => some (lo, hi)
  | _ => none
theorem loopM_hi0 (lo : Int) (x : Option Int) : loopM lo (some 0) x = some 0 := if_pos rfl
theorem loopM_none {lo : Int} {hi : Option Int} (h : ¬ hi = some 0) : loopM lo hi none = none := if_neg h
theorem loopM_neg {lo k : Int} {hi : Option Int} (h : ¬ hi = some 0) (hk : k < 0) : loopM lo hi (some k) = if lo = 0 then some 0 else some (-1) := (if_neg h).trans (if_pos hk)
theorem loopM_zero {lo : Int} {hi : Option Int} (h : ¬ hi = some 0) : loopM lo hi (some 0) = some 0 := (if_neg h).trans ((if_neg (Int.lt_irrefl 0)).trans (if_pos rfl))
theorem loopM_pos {lo k : Int} {hi : Option Int} (h : ¬ hi = some 0) (hk : ¬ k < 0) (hz : ¬ k = 0) : loopM lo hi (some k) = hi.map (k * ·) := by
  unfold loopM
  rw [if_neg h]
  simp only [if_neg hk, if_neg hz]
  cases hi <;> rfl
/-- the last part of most_of_loop, whichever way the numbers came -/
theorem loop_tail {w : World} {d : Nat} (n : N) (lo : Int) (hi x : Option Int) (hb : ∀ h, hi = some h → 0 ≤ h ∧ h ≤ 40) :
    sSeq (sIf (bCmp (EqP id) (vNm 3) (vC (.int 0))) (sRet (vC (.int 0))) sNil) (sSeq (sIf (bCmp (cIs id) (vNm 1) (vC .none)) (sRet (vC .none)) sNil) (sSeq (sIf (bCmp cLt (vNm 1) (vC (.int 0))) (sRet (vIf (bCmp cEq (vNm 2) (vC (.int 0))) (vC (.int 0)) (vNeg (vC (.int 1))))) sNil)
      (sSeq (sIf (bCmp cEq (vNm 1) (vC (.int 0))) (sRet (vC (.int 0))) sNil) (sSeq (sIf (bCmp (cIs id) (vNm 3) (vC .none)) (sRet (vC .none)) sNil) (sRet (vBin oMul (vNm 1) (vNm 3))))))) w d [some (.val n.v), some (.val (hiV x)), some (.val (.int lo)), some (.val (hiV hi))]
      (fun _ => R.val .none = .val (hiV (loopM lo hi x))) (fun r _ => r = .val (hiV (loopM lo hi x))) := by
  refine ⟨hi_dat hi, hi_dat (some 0), ?_⟩
  refine Way.by (c := same (hiV hi) (hiV (some 0))) (fun h => ?_) fun h => ?_
  · rw [same_hi] at h
    rw [of_decide_eq_true h, loopM_hi0]; exact rfl
  · rw [same_hi] at h
    have h := of_decide_eq_false h
    cases x with
    | none => rw [loopM_none h]; exact rfl
    | some k =>
      refine Way.by (c := decide (k < 0)) (fun hk => ?_) fun hk => ?_
      · rw [loopM_neg h (of_decide_eq_true hk)]
        refine Way.by (c := lo == 0) (fun hl => ?_) fun hl => ?_
        · rw [if_pos (eq_of_beq hl)]; exact rfl
        · rw [if_neg (by simpa using hl)]; exact rfl
      · have hk := of_decide_eq_false hk
        refine Way.by (c := k == 0) (fun hz => ?_) fun hz => ?_
        · rw [eq_of_beq hz, loopM_zero h]; exact rfl
        · rw [loopM_pos h hk (by simpa using hz)]
          cases hi with
          | none => exact rfl
          | some m => exact ⟨mulOk (hb m rfl).1 (hb m rfl).2, rfl⟩
theorem loop_ok (w : World) (n : N) (lo : Int) (hi : Option Int) (hn : n.lohi = some (lo, hi)) (hb : ∀ h, hi = some h → 0 ≤ h ∧ h ≤ 40) (x : Option Int) : Fn (GL w) 1 347 [n.v, hiV x] (fun r => r = .val (hiV (loopM lo hi x))) := by
  refine d_most_of_loop.2.fn rfl ?_
  cases n with
  | star b => cases hn; exact loop_tail (.star b) 0 none x hb
  | plus b => cases hn; exact loop_tail (.plus b) 1 none x hb
  | opt b => cases hn; exact loop_tail (.opt b) 0 (some 1) x hb
  | rep b lo hi => cases hn; exact loop_tail (.rep b lo hi) lo hi x hb
  | _ => cases hn

end Mine

end
section
-- F4
open PySem PySem.W PySem.Calls PyProof.Rows
set_option Elab.async false
set_option linter.all false
set_option maxRecDepth 100000
set_option maxHeartbeats 4000000
set_option genInjectivity false
set_option genSizeOfSpec false
namespace Mine
theorem catM_norm (a b : Option Int) (ha : ∀ k, a = some k → k = -1 ∨ 0 ≤ k) (hb : ∀ k, b = some k → k = -1 ∨ 0 ≤ k) : ∀ k, catM a b = some k → k = -1 ∨ 0 ≤ k := by
  intro k h
  cases a <;> cases b <;> simp only [catM] at h
  · cases h
  · split at h <;> cases h; exact .inl rfl
  · split at h <;> cases h; exact .inl rfl
  · rename_i x y
    have := ha x rfl; have := hb y rfl
    split at h <;> cases h <;> lia
theorem loopM_norm (lo : Int) (hi x : Option Int) (hh : ∀ h, hi = some h → 0 ≤ h) (hx : ∀ k, x = some k → k = -1 ∨ 0 ≤ k) : ∀ k, loopM lo hi x = some k → k = -1 ∨ 0 ≤ k := by
  intro k h
  unfold loopM at h
  split at h
  · cases h; exact .inr (Int.le_refl _)
  · split at h
    · cases h
    · rename_i j
      split at h
      · split at h <;> cases h
        · exact .inr (Int.le_refl _)
        · exact .inl rfl
      · split at h
        · cases h; exact .inr (Int.le_refl _)
        · split at h <;> cases h
          rename_i z _ _ _ _
          have := hh _ rfl
          exact .inr (Int.mul_nonneg (by lia) this)
theorem most_norm : ∀ n : N, n.wf → ∀ k, n.most = some k → k = -1 ∨ 0 ≤ k := by
  intro n
  induction n with
  | empty => intro _ k h; cases h; exact .inr (Int.le_refl _)
  | never => intro _ k h; cases h; exact .inl rfl
  | chars t => intro _ k h; simp only [N.most] at h; split at h <;> cases h; exact .inl rfl; exact .inr (by decide)
  | cat l r h1 h2 => intro w; exact catM_norm _ _ (h1 w.1) (h2 w.2)
  | alt l r h1 h2 =>
    intro w k h
    simp only [N.most] at h
    cases e1 : l.most <;> cases e2 : r.most <;> simp only [e1, e2, maxM] at h <;> cases h
    have := h1 w.1 _ e1; have := h2 w.2 _ e2; lia
  | star b ih => intro w; exact loopM_norm _ _ _ (by intro h e; cases e) (ih w)
  | plus b ih => intro w; exact loopM_norm _ _ _ (by intro h e; cases e) (ih w)
  | opt b ih => intro w; exact loopM_norm _ _ _ (by intro h e; cases e; decide) (ih w)
  | rep b lo hi ih => intro w; exact loopM_norm _ _ _ (fun h e => by have := w.2.1; have := (w.2.2.2 h e).1; lia) (ih w.1)
noncomputable def catL : Option Int → List N → Option Int
  | a, [] => a
  | a, m :: ms => catL (catM a m.most) ms
theorem catL_append (a : Option Int) : ∀ xs ys, catL a (xs ++ ys) = catL (catL a xs) ys := by
  intro xs
  induction xs generalizing a with
  | nil => intro _; rfl
  | cons x xs ih => intro ys; simp only [List.cons_append, catL, ih]
theorem catL_neg : ∀ ms, catL (some (-1)) ms = some (-1) := by
  intro ms
  induction ms with
  | nil => rfl
  | cons m ms ih => simp only [catL]; rw [show catM (some (-1)) m.most = some (-1) by cases m.most <;> simp [catM]]; exact ih
theorem catL_C : ∀ n : N, n.wf → catL (some 0) (spineC n) = n.most := by
  have base : ∀ m : N, m.wf → catM (some 0) m.most = m.most := by
    intro m w
    have := most_norm m w
    cases e : m.most with
    | none => simp [catM]
    | some k => have := this k e; simp only [catM]; split <;> congr 1 <;> lia
  intro n
  induction n with
  | cat l r ih _ => intro w; simp only [spineC, catL_append, ih w.1, catL, N.most]
  | _ => intro w; simp only [spineC, catL]; exact base _ w
noncomputable def maxL : Option Int → List N → Option Int
  | a, [] => a
  | a, m :: ms => maxL (maxM a m.most) ms
theorem maxL_append (a : Option Int) : ∀ xs ys, maxL a (xs ++ ys) = maxL (maxL a xs) ys := by
  intro xs
  induction xs generalizing a with
  | nil => intro _; rfl
  | cons x xs ih => intro ys; simp only [List.cons_append, maxL, ih]
theorem maxL_none : ∀ ms, maxL none ms = none := by
  intro ms
  induction ms with
  | nil => rfl
  | cons m ms ih => exact ih
theorem maxL_A : ∀ n : N, n.wf → maxL (some (-1)) (spineA n) = n.most := by
  have base : ∀ m : N, m.wf → maxM (some (-1)) m.most = m.most := by
    intro m w
    have := most_norm m w
    cases e : m.most with
    | none => simp [maxM]
    | some k => have := this k e; simp only [maxM]; congr 1; lia
  intro n
  induction n with
  | alt l r ih _ => intro w; simp only [spineA, maxL_append, ih w.1, maxL, N.most]
  | _ => intro w; simp only [spineA, maxL]; exact base _ w

theorem row_ok (w : World) (d : Nat) (ms₀ : List N) (hms : ∀ m ∈ ms₀, m.wf ∧ Fn (GL w) d 333 [m.v] (fun r => r = .val (hiV m.most))) : Fn (GL w) (d + 1) 340 [.lst (ms₀.map N.v)] (fun r => r = .val (hiV (catL (some 0) ms₀))) := by
  refine d_most_of_row.2.fn rfl ?_
  refine LoopI.nodes (fun ms ρ => (∀ m ∈ ms, m ∈ ms₀) ∧ ∃ (a : Option Int) (n : Int) (o o1 : Option Slot), catL a ms = catL (some 0) ms₀ ∧ (∀ k, a = some k → 0 ≤ k ∧ n = k) ∧ ρ = [some (Slot.val (V.lst (ms₀.map N.v))), some (Slot.val (V.int n)), some (Slot.val (V.bool a.isNone)), o, o1, none]) ⟨fun _ h => h, some 0, 0, _, _, rfl, ?_, rfl⟩ ?_ ?_
  · intro k e; cases e; exact ⟨Int.le_refl _, rfl⟩
  · rintro u us ρ ⟨ns, e, h1, a, n, o, o1, h2, h3, rfl⟩
    obtain ⟨m, ms, rfl, rfl, rfl⟩ := nodes_cons e
    obtain ⟨hw, hm⟩ := hms m (h1 m (.head _))
    refine CallP.of hm (Nat.le_refl _) ?_
    have hN := most_norm m hw
    rw [catL] at h2
    have h1' : ∀ q ∈ ms, q ∈ ms₀ := fun q hq => h1 q (.tail _ hq)
    cases hl : m.most with
    | none =>
      rw [hl] at h2
      cases a with
      | none => exact ⟨ms, rfl, h1', none, n, _, _, h2, (fun k e => by cases e), rfl⟩
      | some a => exact ⟨ms, rfl, h1', none, n, _, _, by rw [← h2, catM, if_neg (Int.not_lt.mpr (h3 a rfl).1)], (fun k e => by cases e), rfl⟩
    | some j =>
      rw [hl] at h2
      refine Way.by (c := decide (j < 0)) (fun hj => ?_) fun hj => ?_
      · show R.val _ = R.val _
        rw [← h2, show catM a (some j) = some (-1) by cases a <;> simp [catM, of_decide_eq_true hj], catL_neg]; rfl
      · have hj := of_decide_eq_false hj
        cases a with
        | none => exact ⟨ms, rfl, h1', none, n + j, _, _, by rw [← h2, catM, if_neg hj], (fun k e => by cases e), rfl⟩
        | some a =>
          have := h3 a rfl
          exact ⟨ms, rfl, h1', some (a + j), n + j, _, _, by rw [← h2, catM, if_neg (by lia)], fun k e => by cases e; lia, rfl⟩
  · rintro ρ ⟨h1, a, n, o, o1, h2, h3, rfl⟩
    rw [← h2]
    cases a with
    | none => exact rfl
    | some a => rw [(h3 a rfl).2]; exact rfl

theorem most_ok (w : World) : ∀ (k : Nat) (n : N), n.size ≤ k → k ≤ 1000 → n.wf → Fn (GL w) (2 * n.size + 1) 333 [n.v] (fun r => r = .val (hiV n.most)) := by
  intro k
  induction k with
  | zero => intro n hn; have := n.pos; lia
  | succ k ih =>
    intro n hn hk hw
    refine d_most_length.2.fn rfl ?_
    cases n with
    | empty => exact rfl
    | never => exact rfl
    | chars t =>
      refine (m_isEmpty w t).of (Nat.le_of_ble_eq_true rfl) ?_
      refine Way.by (c := t.cps.size == 0) (fun h => ?_) fun h => ?_
      · exact congrArg (fun c => R.val (hiV (if c = true then some (-1) else some 1))) h.symm
      · exact congrArg (fun c => R.val (hiV (if c = true then some (-1) else some 1))) h.symm
    | star b => exact CallP.of (ih b (Nat.le_of_succ_le_succ hn) (Nat.le_of_succ_le hk) hw) (Nat.le_succ _) (CallP.of (loop_ok w (.star b) 0 none rfl (fun _ e => nomatch e) b.most) (Nat.succ_le_succ (Nat.zero_le _)) rfl)
    | plus b => exact CallP.of (ih b (Nat.le_of_succ_le_succ hn) (Nat.le_of_succ_le hk) hw) (Nat.le_succ _) (CallP.of (loop_ok w (.plus b) 1 none rfl (fun _ e => nomatch e) b.most) (Nat.succ_le_succ (Nat.zero_le _)) rfl)
    | opt b => exact CallP.of (ih b (Nat.le_of_succ_le_succ hn) (Nat.le_of_succ_le hk) hw) (Nat.le_succ _) (CallP.of (loop_ok w (.opt b) 0 (some 1) rfl (by intro h e; cases e; decide) b.most) (Nat.succ_le_succ (Nat.zero_le _)) rfl)
    | rep b lo hi => exact CallP.of (ih b (Nat.le_of_succ_le_succ hn) (Nat.le_of_succ_le hk) hw.1) (Nat.le_succ _) (CallP.of (loop_ok w (.rep b lo hi) lo hi rfl (fun h e => ⟨Int.le_trans hw.2.1 (hw.2.2.2 h e).1, (hw.2.2.2 h e).2⟩) b.most) (Nat.succ_le_succ (Nat.zero_le _)) rfl)
    | cat l r =>
      refine CallP.of (spine_ok w (.cat l r) (Nat.le_trans hn hk)) (Nat.succ_le_succ (Nat.zero_le _)) ?_
      refine CallP.of (row_ok w (2 * (N.cat l r).size - 1) (spineC (.cat l r)) fun m hm => ⟨wf_C _ hw m hm, ?_⟩) ?_ ?_
      · have := (mem_spineC (.cat l r) m hm).2 ⟨_, _, rfl⟩
        exact (ih m (by lia) (by lia) (wf_C _ hw m hm)).mono (by lia) fun _ h => h
      · simp only [N.size]; lia
      · exact congrArg (fun x => R.val (hiV x)) (catL_C _ hw)
    | alt l r =>
      refine CallP.of (spine_ok w (.alt l r) (Nat.le_trans hn hk)) (Nat.succ_le_succ (Nat.zero_le _)) ?_
      refine LoopI.nodes (fun ms ρ => (∀ m ∈ ms, m.wf ∧ m.size + 1 ≤ (N.alt l r).size) ∧ ∃ (a : Int) (o o1 : Option Slot), maxL (some a) ms = (N.alt l r).most ∧ ρ = [some (Slot.val (N.alt l r).v), some (Slot.val (.int a)), o, o1, none, none, none, none, none]) ⟨fun m hm => ⟨wf_A _ hw m hm, (mem_spineA (.alt l r) m hm).2 ⟨_, _, rfl⟩⟩, -1, _, _, maxL_A _ hw, rfl⟩ ?_ ?_
      · rintro u us ρ ⟨ns, e, h1, a, o, o1, h2, rfl⟩
        obtain ⟨m, ms, rfl, rfl, rfl⟩ := nodes_cons e
        have hm := h1 m (.head _)
        refine CallP.of (ih m (by lia) (by lia) hm.1) (by lia) ?_
        rw [maxL] at h2
        cases hl : m.most with
        | none => rw [← h2, hl, show maxM (some a) none = none from rfl, maxL_none]; exact rfl
        | some j => exact ⟨ms, rfl, fun q hq => h1 q (.tail _ hq), max a j, _, _, by rw [← h2, hl, maxM], rfl⟩
      · rintro ρ ⟨h1, a, o, o1, h2, rfl⟩
        rw [← h2]; exact rfl

theorem fixed_ok (w : World) (n : N) (hn : n.size ≤ 300) (hw : n.wf) : Fn (GL w) (2 * n.size + 3) 354 [n.v] (fun r => r = .val (hiV (if n.most = n.least then n.least else none))) := by
  refine d_fixed_length.2.fn rfl ?_
  refine CallP.of (least_ok w 1000 n (by lia) (by lia) hw) (by lia) ?_
  refine CallP.of (most_ok w 1000 n (by lia) (by lia) hw) (by lia) ?_
  refine ⟨hi_dat _, hi_dat _, ?_⟩
  rw [same_hi]
  refine Way.by (fun h => ?_) fun h => ?_
  · rw [if_neg (by simpa using h)]; exact rfl
  · rw [if_pos (by simpa using h)]; exact rfl

end Mine

end
section
-- F5
open PySem PySem.W PySem.Calls PyProof.Rows
set_option Elab.async false
set_option linter.all false
set_option maxRecDepth 100000
set_option maxHeartbeats 4000000
set_option genInjectivity false
set_option genSizeOfSpec false
namespace Mine
noncomputable def f_i_pair : FnD 153 3 := by
  refine' ⟨_, _, [_, _, _], (fun w => ⟨⟨_, _, _, ?obj⟩, ?code, ?bind, ?names, ?nodup, ?body, ?clo, ?co, ?gen, ?kind, ?glob, ?built⟩), ?en⟩
  case obj => with_unfolding_all exact rfl
  case en => with_unfolding_all exact rfl
  case code => kernel_rfl
  case bind => exact bnd3 fun _ _ _ => rfl
  case names => decide +kernel
  case nodup => decide +kernel
  case body => rfl
  case clo => rfl
  case co => rfl
  case gen => rfl
  case kind => rfl
  case glob => rfl
  case built => rfl
noncomputable def f_i_loop : FnD 210 2 := by
  refine' ⟨_, _, [_, _], (fun w => ⟨⟨_, _, _, ?obj⟩, ?code, ?bind, ?names, ?nodup, ?body, ?clo, ?co, ?gen, ?kind, ?glob, ?built⟩), ?en⟩
  case obj => with_unfolding_all exact rfl
  case en => with_unfolding_all exact rfl
  case code => kernel_rfl
  case bind => exact bnd2 fun _ _ => rfl
  case names => decide +kernel
  case nodup => decide +kernel
  case body => rfl
  case clo => rfl
  case co => rfl
  case gen => rfl
  case kind => rfl
  case glob => rfl
  case built => rfl
noncomputable def f_i_chars : FnD 127 2 := by
  refine' ⟨_, _, [_, _], (fun w => ⟨⟨_, _, _, ?obj⟩, ?code, ?bind, ?names, ?nodup, ?body, ?clo, ?co, ?gen, ?kind, ?glob, ?built⟩), ?en⟩
  case obj => with_unfolding_all exact rfl
  case en => with_unfolding_all exact rfl
  case code => kernel_rfl
  case bind => exact bnd2 fun _ _ => rfl
  case names => decide +kernel
  case nodup => decide +kernel
  case body => rfl
  case clo => rfl
  case co => rfl
  case gen => rfl
  case kind => rfl
  case glob => rfl
  case built => rfl
noncomputable def f_i_charset : FnD 399 2 := by
  refine' ⟨_, _, [_, _], (fun w => ⟨⟨_, _, _, ?obj⟩, ?code, ?bind, ?names, ?nodup, ?body, ?clo, ?co, ?gen, ?kind, ?glob, ?built⟩), ?en⟩
  case obj => with_unfolding_all exact rfl
  case en => with_unfolding_all exact rfl
  case code => kernel_rfl
  case bind => exact bnd2 fun _ _ => rfl
  case names => decide +kernel
  case nodup => decide +kernel
  case body => rfl
  case clo => rfl
  case co => rfl
  case gen => rfl
  case kind => rfl
  case glob => rfl
  case built => rfl
noncomputable def f_i_rep : FnD 279 4 := by
  refine' ⟨_, _, [_, _, _, _, _, _, _, _], (fun w => ⟨⟨_, _, _, ?obj⟩, ?code, ?bind, ?names, ?nodup, ?body, ?clo, ?co, ?gen, ?kind, ?glob, ?built⟩), ?en⟩
  case obj => with_unfolding_all exact rfl
  case en => with_unfolding_all exact rfl
  case code => kernel_rfl
  case bind => exact bnd4 fun _ _ _ _ => rfl
  case names => decide +kernel
  case nodup => decide +kernel
  case body => rfl
  case clo => rfl
  case co => rfl
  case gen => rfl
  case kind => rfl
  case glob => rfl
  case built => rfl
theorem set_ok (P : Params) : ∀ p ∈ attrTab, SetOk (KK P) p.1 p.2 := by
  intro p h
  simp only [attrTab, List.mem_cons, List.not_mem_nil, or_false] at h
  rcases h with rfl | rfl | rfl | rfl | rfl | rfl | rfl | rfl | rfl | rfl | rfl | rfl <;> exact ⟨by kernel_rfl, by kernel_rfl, by kernel_rfl, by kernel_rfl⟩
theorem pair_init (w : World) (C : Addr) (a b : V) (s1 : (C, ("left" : Str)) ∈ attrTab) (s2 : (C, ("right" : Str)) ∈ attrTab) : FnI (GL w) 1 153 C [a, b] [] (fun fs => fs = ([("left", a), ("right", b)] : List (Str × V))) := by
  refine init_intro (f_i_pair.ok w) f_i_pair.en fun cx x dx c => ?_
  exact i_set c (j := 1) (j' := 0) rfl rfl rfl rfl rfl (Nat.zero_le _) (set_ok _ _ s1) (i_set c (j := 2) (j' := 0) rfl rfl rfl rfl rfl (Nat.le_of_ble_eq_true rfl) (set_ok _ _ s2) (i_nil rfl))
theorem loop_init (w : World) (C : Addr) (a : V) (s1 : (C, ("body" : Str)) ∈ attrTab) : FnI (GL w) 1 210 C [a] [] (fun fs => fs = ([("body", a)] : List (Str × V))) := by
  refine init_intro (f_i_loop.ok w) f_i_loop.en fun cx x dx c => ?_
  exact i_set c (j := 1) (j' := 0) rfl rfl rfl rfl rfl (Nat.zero_le _) (set_ok _ _ s1) (i_nil rfl)
theorem chars_init (w : World) (a : V) : FnI (GL w) 1 127 137 [a] [] (fun fs => fs = ([("charset", a)] : List (Str × V))) := by
  refine init_intro (f_i_chars.ok w) f_i_chars.en fun cx x dx c => ?_
  exact i_set c (j := 1) (j' := 0) rfl rfl rfl rfl rfl (Nat.zero_le _) (set_ok _ _ (.head _)) (i_nil rfl)
theorem charset_init (w : World) (a : V) : FnI (GL w) 1 399 551 [a] [] (fun fs => fs = ([("spans", a)] : List (Str × V))) := by
  refine init_intro (f_i_charset.ok w) f_i_charset.en fun cx x dx c => ?_
  exact i_set c (j := 1) (j' := 0) rfl rfl rfl rfl rfl (Nat.zero_le _) (set_ok _ (551, "spans") (by decide)) (i_nil rfl)
theorem rep_init (w : World) (a : V) (lo : Int) (hi : Option Int) (h1 : 0 ≤ lo) (h2 : lo ≤ 40) (h3 : ∀ h, hi = some h → lo ≤ h ∧ h ≤ 40) :
    FnI (GL w) 2 279 289 [a, .int lo, hiV hi] [] (fun fs => fs = ([("body", a), ("low", .int lo), ("high", hiV hi)] : List (Str × V))) := by
  refine init_intro (f_i_rep.ok w) f_i_rep.en fun cx x dx c => ?_
  refine i_super (j := 1) (j' := 0) c (B := 227) (f := 210) (List.mem_of_getElem? (i := 4) rfl) (by kernel_rfl) (by kernel_rfl) (by kernel_rfl) (by kernel_rfl) (by kernel_rfl) rfl rfl rfl rfl ((loop_init w 289 a (by decide)).mono (Nat.le_refl _) ?_)
  rintro _ rfl
  refine i_if c (fun cx' c' => (SB.all (.or (.cmp ok_lt (.nm (j := 2) rfl rfl) .int rfl) (.or (.cmp ok_gt (.nm (j := 2) rfl rfl) (.glob (j := 5) rfl g_MOST_REPEAT) rfl) .orN))) c' ?_) ?_
  · exact Way.eqF (decide_eq_false (Int.not_lt.mpr h1)) (Way.eqF (decide_eq_false (Int.not_lt.mpr h2)) ⟨rfl, rfl⟩)
  refine i_if c (fun cx' c' => (SB.all (.and (.cmp ok_isNot (.nm (j := 3) rfl rfl) .non rfl) (.and (.all (.or (.cmp ok_lt (.nm (j := 3) rfl rfl) (.nm (j := 2) rfl rfl) rfl) (.or (.cmp ok_gt (.nm (j := 3) rfl rfl) (.glob (j := 5) rfl g_MOST_REPEAT) rfl) .orN))) .andN))) c' ?_) ?_
  · cases hi with
    | none => exact ⟨rfl, rfl⟩
    | some h => exact Way.eqF (decide_eq_false (Int.not_lt.mpr (h3 h rfl).1)) (Way.eqF (decide_eq_false (Int.not_lt.mpr (h3 h rfl).2)) ⟨rfl, rfl⟩)
  exact i_set c (j := 2) (j' := 0) rfl rfl rfl rfl rfl (Nat.le_of_ble_eq_true rfl) (set_ok _ (289, "low") (by decide)) (i_set c (j := 3) (j' := 0) rfl rfl rfl rfl rfl (Nat.le_of_ble_eq_true rfl) (set_ok _ (289, "high") (by decide)) (i_nil rfl))
/-- a node made -/
theorem mk_node {w : World} {C fI : Addr} {vs : List V} {fs : List (Str × V)} {P : List (Str × V) → Prop} {d : Nat} (h : FnI (GL w) d fI C vs [] (fun fs' => fs' = fs)) (hd : d ≤ 2) (hm : makesIn (GL w).K C = true) (hi : findIn (GL w).K (.ref C) "__init__" = some (some (.ref fI))) (hf : typeIn (GL w).K (.ref fI) = some (.type "function")) (q : P fs) : Make (GL w) 2 C vs P :=
  .own hm fI hi hf (h.mono hd fun fs' e => e ▸ q)
theorem mk_Empty {w : World} {P : List (Str × V) → Prop} (q : P []) : Make (GL w) 2 99 [] P := .plain (by kernel_rfl) (by kernel_rfl) rfl q
theorem mk_Never {w : World} {P : List (Str × V) → Prop} (q : P []) : Make (GL w) 2 111 [] P := .plain (by kernel_rfl) (by kernel_rfl) rfl q
theorem mk_Cat {w : World} {a b : V} {P : List (Str × V) → Prop} (q : P [("left", a), ("right", b)]) : Make (GL w) 2 182 [a, b] P := mk_node (pair_init w 182 a b (by decide) (by decide)) (Nat.le_succ 1) (by kernel_rfl) (by kernel_rfl) (by kernel_rfl) q
theorem mk_Alt {w : World} {a b : V} {P : List (Str × V) → Prop} (q : P [("left", a), ("right", b)]) : Make (GL w) 2 194 [a, b] P := mk_node (pair_init w 194 a b (by decide) (by decide)) (Nat.le_succ 1) (by kernel_rfl) (by kernel_rfl) (by kernel_rfl) q
theorem mk_Star {w : World} {a : V} {P : List (Str × V) → Prop} (q : P [("body", a)]) : Make (GL w) 2 239 [a] P := mk_node (loop_init w 239 a (by decide)) (Nat.le_succ 1) (by kernel_rfl) (by kernel_rfl) (by kernel_rfl) q
theorem mk_Plus {w : World} {a : V} {P : List (Str × V) → Prop} (q : P [("body", a)]) : Make (GL w) 2 251 [a] P := mk_node (loop_init w 251 a (by decide)) (Nat.le_succ 1) (by kernel_rfl) (by kernel_rfl) (by kernel_rfl) q
theorem mk_Opt {w : World} {a : V} {P : List (Str × V) → Prop} (q : P [("body", a)]) : Make (GL w) 2 263 [a] P := mk_node (loop_init w 263 a (by decide)) (Nat.le_succ 1) (by kernel_rfl) (by kernel_rfl) (by kernel_rfl) q
theorem mk_Chars {w : World} {a : V} {P : List (Str × V) → Prop} (q : P [("charset", a)]) : Make (GL w) 2 137 [a] P := mk_node (chars_init w a) (Nat.le_succ 1) (by kernel_rfl) (by kernel_rfl) (by kernel_rfl) q
theorem mk_CharSet {w : World} {a : V} {P : List (Str × V) → Prop} (q : P [("spans", a)]) : Make (GL w) 2 551 [a] P := mk_node (charset_init w a) (Nat.le_succ 1) (by kernel_rfl) (by kernel_rfl) (by kernel_rfl) q
theorem mk_Repeat {w : World} {a : V} {lo : Int} {hi : Option Int} {P : List (Str × V) → Prop} (h1 : 0 ≤ lo) (h2 : lo ≤ 40) (h3 : ∀ h, hi = some h → lo ≤ h ∧ h ≤ 40) (q : P [("body", a), ("low", .int lo), ("high", hiV hi)]) : Make (GL w) 2 289 [a, .int lo, hiV hi] P := mk_node (rep_init w a lo hi h1 h2 h3) (Nat.le_refl 2) (by kernel_rfl) (by kernel_rfl) (by kernel_rfl) q
noncomputable def catAll : List N → N
  | [] => .empty
  | m :: ms => ms.foldl .cat m
noncomputable def altAll : List N → N
  | [] => .never
  | m :: ms => ms.foldl .alt m
theorem catAll_ok (w : World) (ms : List N) (hl : ms.length ≤ 1000) : Fn (GL w) 4 305 [.lst (ms.map N.v)] (fun r => r = .val (catAll ms).v) := by
  refine d_cat_all.2.fn rfl ⟨by rw [List.length_map]; lia, ?_⟩
  cases ms with
  | nil => exact ⟨Nat.le_refl _, mk_Empty rfl⟩
  | cons m ms =>
    refine ⟨_, some 1, none, rfl, by simp only [List.length_map, List.length_cons] at *; lia, rfl, rfl, ?_⟩
    rw [List.map_cons, pick_1]
    refine LoopI.nodes (fun xs ρ => ∃ (a : N) (o : Option Slot), xs.foldl N.cat a = ms.foldl N.cat m ∧ ρ = [some (Slot.val (V.lst (m.v :: ms.map N.v))), some (Slot.val a.v), o, none, none, none]) ⟨m, _, rfl, rfl⟩ ?_ ?_
    · rintro u us ρ ⟨xs, e, a, o, h1, rfl⟩
      obtain ⟨x, xs, rfl, rfl, rfl⟩ := nodes_cons e
      exact ⟨Nat.le_refl _, mk_Cat ⟨xs, rfl, _, _, h1, rfl⟩⟩
    · rintro ρ ⟨a, o, h1, rfl⟩
      exact congrArg (fun n : N => R.val n.v) h1
theorem altAll_ok (w : World) (ms : List N) (hl : ms.length ≤ 1000) : Fn (GL w) 4 312 [.lst (ms.map N.v)] (fun r => r = .val (altAll ms).v) := by
  refine d_alt_all.2.fn rfl ⟨by rw [List.length_map]; lia, ?_⟩
  cases ms with
  | nil => exact ⟨Nat.le_refl _, mk_Never rfl⟩
  | cons m ms =>
    refine ⟨_, some 1, none, rfl, by simp only [List.length_map, List.length_cons] at *; lia, rfl, rfl, ?_⟩
    rw [List.map_cons, pick_1]
    refine LoopI.nodes (fun xs ρ => ∃ (a : N) (o : Option Slot), xs.foldl N.alt a = ms.foldl N.alt m ∧ ρ = [some (Slot.val (V.lst (m.v :: ms.map N.v))), some (Slot.val a.v), o, none, none, none]) ⟨m, _, rfl, rfl⟩ ?_ ?_
    · rintro u us ρ ⟨xs, e, a, o, h1, rfl⟩
      obtain ⟨x, xs, rfl, rfl, rfl⟩ := nodes_cons e
      exact ⟨Nat.le_refl _, mk_Alt ⟨xs, rfl, _, _, h1, rfl⟩⟩
    · rintro ρ ⟨a, o, h1, rfl⟩
      exact congrArg (fun n : N => R.val n.v) h1
noncomputable def N.kids : N → List N
  | .cat l r => [l, r]
  | .alt l r => [l, r]
  | .star b => [b]
  | .plus b => [b]
  | .opt b => [b]
  | .rep b _ _ => [b]
  | _ => []
theorem m_of {w : World} {name : Str} {C f : Addr} {fs : List (Str × V)} {E : DefF} (h : Def f 1 E) {d : Nat} {Q : R → Prop} (hc : ClsOk (GL w).K C) (hl : fs.lookup name = none) (hf : findIn (GL w).K (.ref C) name = some (some (.ref f))) (ht : typeIn (GL w).K (.ref f) = some (.type "function")) (hk : keepIn (GL w).K (.ref f) = true) (q : E w d [.obj C fs] Q) : Meth (GL w) (d + 1) name Q (.obj C fs) :=
  ⟨C, fs, rfl, f, hc, hl, hf, ht, hk, h.fn rfl q⟩
theorem m_parts (w : World) (n : N) : Meth (GL w) 1 "parts" (fun r => r = .fresh (n.kids.map N.v)) n.v := by
  cases n with
  | cat l r => exact m_of d_m_pairParts.2 (cls_ok _ _ (by decide)) rfl (by kernel_rfl) (by kernel_rfl) (by kernel_rfl) rfl
  | alt l r => exact m_of d_m_pairParts.2 (cls_ok _ _ (by decide)) rfl (by kernel_rfl) (by kernel_rfl) (by kernel_rfl) rfl
  | star b => exact m_of d_m_loopParts.2 (cls_ok _ _ (by decide)) rfl (by kernel_rfl) (by kernel_rfl) (by kernel_rfl) rfl
  | plus b => exact m_of d_m_loopParts.2 (cls_ok _ _ (by decide)) rfl (by kernel_rfl) (by kernel_rfl) (by kernel_rfl) rfl
  | opt b => exact m_of d_m_loopParts.2 (cls_ok _ _ (by decide)) rfl (by kernel_rfl) (by kernel_rfl) (by kernel_rfl) rfl
  | rep b lo hi => exact m_of d_m_loopParts.2 (cls_ok _ _ (by decide)) rfl (by kernel_rfl) (by kernel_rfl) (by kernel_rfl) rfl
  | _ => exact m_of d_m_nodeParts.2 (cls_ok _ _ (by decide)) rfl (by kernel_rfl) (by kernel_rfl) (by kernel_rfl) rfl

end Mine

end
section
-- F6
open PySem PySem.W PySem.Calls PyProof.Rows
set_option Elab.async false
set_option linter.all false
set_option maxRecDepth 100000
set_option maxHeartbeats 4000000
set_option genInjectivity false
set_option genSizeOfSpec false
namespace Mine
/-- a comprehension that maps -/
theorem LoopC.maps {α : Type} {w : World} {d : Nat} {t : TgF} {T : DB} {G : DG} {Q : List V → Env' → Prop} {ρ : Env'} {row : List α} (e f : α → V) (E : Option Slot → Env') (o0 : Option Slot) (h0 : ρ = E o0) (hl : row.length ≤ 1000)
    (step : ∀ m ∈ row, ∀ o acc (K : List V → Env' → Prop) (B : Env' → Prop), acc.length < 100000 → (∀ o', K (acc ++ [f m]) (E o')) → t (e m) (E o) fun ρ₂ => T w d ρ₂ fun ok ρ₃ => Way ok (G w d ρ₃ acc K) (B ρ₃))
    (fin : ∀ o, Q (row.map f) (E o)) : LoopC (turnF w d t T G) Q [] (row.map e) ρ := by
  refine ⟨fun acc us ρ => ∃ dn ms o, us = ms.map e ∧ acc = dn.map f ∧ dn ++ ms = row ∧ ρ = E o, ⟨[], row, o0, rfl, rfl, rfl, h0⟩, ?_, ?_⟩
  · rintro acc u us ρ ⟨dn, ms, o, hu, rfl, h1, rfl⟩
    cases ms with
    | nil => cases hu
    | cons m ms =>
      cases hu
      have h2 := congrArg List.length h1
      rw [List.length_append, List.length_cons] at h2
      refine step m (h1 ▸ List.mem_append_right _ (.head _)) o _ _ _ ?_ fun o' => ⟨dn ++ [m], ms, o', rfl, by rw [List.map_append]; rfl, by rw [← h1, List.append_assoc]; rfl, rfl⟩
      rw [List.length_map]; lia
  · rintro acc ρ ⟨dn, ms, o, hu, rfl, h1, rfl⟩
    cases ms with
    | nil => rw [List.append_nil] at h1; subst h1; exact fin o
    | cons m ms => cases hu
noncomputable def N.mm : N → N × List N × List N
  | .cat l r => let row := l.mm.2.1 ++ [r.mm.1]; (catAll row.reverse, row, [catAll row.reverse])
  | .alt l r => let row := l.mm.2.2 ++ [r.mm.1]; (altAll row, [altAll row], row)
  | .star b => (.star b.mm.1, [.star b.mm.1], [.star b.mm.1])
  | .plus b => (.plus b.mm.1, [.plus b.mm.1], [.plus b.mm.1])
  | .opt b => (.opt b.mm.1, [.opt b.mm.1], [.opt b.mm.1])
  | .rep b lo hi => (.rep b.mm.1 lo hi, [.rep b.mm.1 lo hi], [.rep b.mm.1 lo hi])
  | n => (n, [n], [n])
noncomputable def N.mir (n : N) : N := n.mm.1
theorem mm_C : ∀ n : N, n.mm.2.1 = (spineC n).map N.mir := by
  intro n
  induction n with
  | cat l r ih _ => exact (congrArg (· ++ [r.mm.1]) ih).trans (List.map_append (f := N.mir) (l₁ := spineC l) (l₂ := [r])).symm
  | _ => rfl
theorem mm_A : ∀ n : N, n.mm.2.2 = (spineA n).map N.mir := by
  intro n
  induction n with
  | alt l r ih _ => exact (congrArg (· ++ [r.mm.1]) ih).trans (List.map_append (f := N.mir) (l₁ := spineA l) (l₂ := [r])).symm
  | _ => rfl
theorem mir_cat (l r : N) : (N.cat l r).mir = catAll ((spineC (.cat l r)).map N.mir).reverse := mm_C (.cat l r) ▸ rfl
theorem mir_alt (l r : N) : (N.alt l r).mir = altAll ((spineA (.alt l r)).map N.mir) := mm_A (.alt l r) ▸ rfl
noncomputable def N.like : N → N → N
  | .star _, b => .star b
  | .plus _, b => .plus b
  | .opt _, b => .opt b
  | .rep _ lo hi, b => .rep b lo hi
  | n, _ => n
theorem like_ok (w : World) (n b : N) (hn : n.lohi.isSome = true) (hw : n.wf) : Fn (GL w) 4 380 [n.v, b.v] (fun r => r = .val (n.like b).v) := by
  refine d_loop_like.2.fn rfl ?_
  cases n with
  | star b' => exact ⟨Nat.le_refl _, mk_Star rfl⟩
  | plus b' => exact ⟨Nat.le_refl _, mk_Plus rfl⟩
  | opt b' => exact ⟨Nat.le_refl _, mk_Opt rfl⟩
  | rep b' lo hi => exact ⟨Nat.le_refl _, mk_Repeat hw.2.1 hw.2.2.1 hw.2.2.2 rfl⟩
  | _ => cases hn
theorem mir_ok (w : World) : ∀ (k : Nat) (n : N), n.size ≤ k → k ≤ 1000 → n.wf → Fn (GL w) (n.size + 5) 385 [n.v] (fun r => r = .val n.mir.v) := by
  intro k
  induction k with
  | zero => intro n hn; have := n.pos; lia
  | succ k ih =>
    intro n hn hk hw
    refine d_mirrored.2.fn rfl ?_
    cases n with
    | cat l r =>
      refine CallP.of (spine_ok w (.cat l r) (Nat.le_trans hn hk)) (by lia) ?_
      have hl := Nat.le_trans (Nat.le_trans (row_len (.cat l r) (.cat l r)) hn) hk
      refine LoopC.maps N.v (fun m => m.mir.v) (fun o => [none, o, none]) none rfl hl (fun m hm o acc K B ha hK => ?_) fun o => ?_
      · have := (mem_spineC (.cat l r) m hm).2 ⟨_, _, rfl⟩
        exact CallP.of (ih m (by lia) (by lia) (wf_C _ hw m hm)) (by lia) ⟨ha, hK _⟩
      · refine ⟨by rw [List.length_map]; lia, ?_⟩
        have e : (List.map (fun m => m.mir.v) (spineC (.cat l r))).reverse = (((spineC (.cat l r)).map N.mir).reverse).map N.v := by rw [List.map_reverse, List.map_map]; rfl
        have c := catAll_ok w ((spineC (.cat l r)).map N.mir).reverse (by rw [List.length_reverse, List.length_map]; exact hl)
        rw [← e, ← mir_cat] at c
        exact CallP.of c (by lia) rfl
    | alt l r =>
      refine CallP.of (spine_ok w (.alt l r) (Nat.le_trans hn hk)) (by lia) ?_
      have hl := Nat.le_trans (Nat.le_trans (row_len (.alt l r) (.alt l r)) hn) hk
      refine LoopC.maps N.v (fun m => m.mir.v) (fun o => [none, o, none]) none rfl hl (fun m hm o acc K B ha hK => ?_) fun o => ?_
      · have := (mem_spineA (.alt l r) m hm).2 ⟨_, _, rfl⟩
        exact CallP.of (ih m (by lia) (by lia) (wf_A _ hw m hm)) (by lia) ⟨ha, hK _⟩
      · have e : List.map (fun m => m.mir.v) (spineA (.alt l r)) = ((spineA (.alt l r)).map N.mir).map N.v := by rw [List.map_map]; rfl
        have c := altAll_ok w ((spineA (.alt l r)).map N.mir) (by rw [List.length_map]; exact hl)
        rw [← e, ← mir_alt] at c
        exact CallP.of c (by lia) rfl
    | star b => exact (m_parts w (.star b)).of (Nat.le_of_ble_eq_true rfl) ⟨Nat.le_of_ble_eq_true rfl, CallP.of (ih b (Nat.le_of_succ_le_succ hn) (Nat.le_of_succ_le hk) hw) (Nat.le_refl _) (CallP.of (like_ok w (.star b) b.mir rfl hw) (by lia) rfl)⟩
    | plus b => exact (m_parts w (.plus b)).of (Nat.le_of_ble_eq_true rfl) ⟨Nat.le_of_ble_eq_true rfl, CallP.of (ih b (Nat.le_of_succ_le_succ hn) (Nat.le_of_succ_le hk) hw) (Nat.le_refl _) (CallP.of (like_ok w (.plus b) b.mir rfl hw) (by lia) rfl)⟩
    | opt b => exact (m_parts w (.opt b)).of (Nat.le_of_ble_eq_true rfl) ⟨Nat.le_of_ble_eq_true rfl, CallP.of (ih b (Nat.le_of_succ_le_succ hn) (Nat.le_of_succ_le hk) hw) (Nat.le_refl _) (CallP.of (like_ok w (.opt b) b.mir rfl hw) (by lia) rfl)⟩
    | rep b lo hi => exact (m_parts w (.rep b lo hi)).of (Nat.le_of_ble_eq_true rfl) ⟨Nat.le_of_ble_eq_true rfl, CallP.of (ih b (Nat.le_of_succ_le_succ hn) (Nat.le_of_succ_le hk) hw.1) (Nat.le_refl _) (CallP.of (like_ok w (.rep b lo hi) b.mir rfl hw) (by lia) rfl)⟩
    | empty => exact (m_parts w .empty).of (Nat.le_of_ble_eq_true rfl) ⟨Nat.le_of_ble_eq_true rfl, rfl⟩
    | never => exact (m_parts w .never).of (Nat.le_of_ble_eq_true rfl) ⟨Nat.le_of_ble_eq_true rfl, rfl⟩
    | chars t => exact (m_parts w (.chars t)).of (Nat.le_of_ble_eq_true rfl) ⟨Nat.le_of_ble_eq_true rfl, rfl⟩

end Mine

end
section
-- F7
open PySem PySem.W PySem.Calls PyProof.Rows
set_option Elab.async false
set_option linter.all false
set_option maxRecDepth 100000
set_option maxHeartbeats 4000000
set_option genInjectivity false
set_option genSizeOfSpec false
namespace Mine
noncomputable def N.told : N → V
  | .empty => .tup [.str "empty"]
  | .never => .tup [.str "never"]
  | .chars t => .tup [.str "chars", .tup (spanV t)]
  | .cat l r => .tup [.str "cat", l.told, r.told]
  | .alt l r => .tup [.str "alt", l.told, r.told]
  | .star b => .tup [.str "star", b.told]
  | .plus b => .tup [.str "plus", b.told]
  | .opt b => .tup [.str "opt", b.told]
  | .rep b lo hi => .tup [.str "repeat", b.told, .int lo, hiV hi]
theorem m_key (w : World) (t : Str) : Meth (GL w) 1 "key" (fun r => r = .val (.tup (spanV t))) (csV t) :=
  m_of d_m_key.2 (cls_ok _ _ (by decide)) rfl (by kernel_rfl) (by kernel_rfl) (by kernel_rfl) rfl
noncomputable def toldF (x : Str) (t : V) (p : N) : V := .tup [.str x, t, p.told]
theorem told_C : ∀ n : N, ∃ m ms, spineC n = m :: ms ∧ ms.foldl (toldF "cat") m.told = n.told := by
  intro n
  induction n with
  | cat l r ih _ =>
    obtain ⟨m, ms, h1, h2⟩ := ih
    exact ⟨m, ms ++ [r], by rw [spineC, h1]; rfl, by rw [List.foldl_append, h2]; rfl⟩
  | _ => exact ⟨_, [], rfl, rfl⟩
theorem told_A : ∀ n : N, ∃ m ms, spineA n = m :: ms ∧ ms.foldl (toldF "alt") m.told = n.told := by
  intro n
  induction n with
  | alt l r ih _ =>
    obtain ⟨m, ms, h1, h2⟩ := ih
    exact ⟨m, ms ++ [r], by rw [spineA, h1]; rfl, by rw [List.foldl_append, h2]; rfl⟩
  | _ => exact ⟨_, [], rfl, rfl⟩
theorem pairTold_ok {w : World} {d : Nat} {n m : N} {ms : List N} (hs : n.size ≤ 1000) (hd : 1 ≤ d) (e : rowOf n n = m :: ms) (hm : ∀ q ∈ m :: ms, Meth (GL w) d "told" (fun r => r = .val q.told) q.v) (t : V) (ht : ms.foldl (toldF n.nm) m.told = t) :
    d_m_pairTold.1 w d [n.v] (fun r => r = .val t) := by
  have hl := Nat.le_trans (row_len n n) hs
  refine CallP.of (spine_ok w n hs) hd ?_
  rw [e] at hl ⊢
  refine (hm m (.head _)).of (Nat.le_refl _) ?_
  refine ⟨_, some 1, none, rfl, by rw [List.length_map]; lia, rfl, rfl, ?_⟩
  rw [List.map_cons, pick_1]
  refine LoopI.nodes (fun xs ρ => (∀ q ∈ xs, q ∈ m :: ms) ∧ ∃ (a : V) (o : Option Slot), xs.foldl (toldF n.nm) a = t ∧ ρ = [some (Slot.val n.v), some (Slot.val (V.lst (m.v :: ms.map N.v))), some (Slot.val a), o, none]) ⟨fun q => .tail _, m.told, _, ht, rfl⟩ ?_ ?_
  · rintro u us ρ ⟨xs, e, h1, a, o, h2, rfl⟩
    obtain ⟨x, xs, rfl, rfl, rfl⟩ := nodes_cons e
    exact El.by (at_name n) ((hm x (h1 x (.head _))).of (Nat.le_refl _) ⟨xs, rfl, fun q hq => h1 q (.tail _ hq), _, _, h2, rfl⟩)
  · rintro ρ ⟨h1, a, o, h2, rfl⟩
    exact congrArg R.val h2
theorem told_ok (w : World) : ∀ (k : Nat) (n : N), n.size ≤ k → k ≤ 1000 → Meth (GL w) (n.size + 1) "told" (fun r => r = .val n.told) n.v := by
  intro k
  induction k with
  | zero => intro n hn; have := n.pos; lia
  | succ k ih =>
    intro n hn hk
    cases n with
    | empty => exact m_of d_m_nodeTold.2 (cls_ok _ _ (by decide)) rfl (by kernel_rfl) (by kernel_rfl) (by kernel_rfl) rfl
    | never => exact m_of d_m_nodeTold.2 (cls_ok _ _ (by decide)) rfl (by kernel_rfl) (by kernel_rfl) (by kernel_rfl) rfl
    | chars t => exact m_of d_m_charsTold.2 (cls_ok _ _ (by decide)) rfl (by kernel_rfl) (by kernel_rfl) (by kernel_rfl) ((m_key w t).of (Nat.le_refl _) rfl)
    | star b => exact m_of d_m_loopTold.2 (cls_ok _ _ (by decide)) rfl (by kernel_rfl) (by kernel_rfl) (by kernel_rfl) ((ih b (Nat.le_of_succ_le_succ hn) (Nat.le_of_succ_le hk)).of (Nat.le_refl _) rfl)
    | plus b => exact m_of d_m_loopTold.2 (cls_ok _ _ (by decide)) rfl (by kernel_rfl) (by kernel_rfl) (by kernel_rfl) ((ih b (Nat.le_of_succ_le_succ hn) (Nat.le_of_succ_le hk)).of (Nat.le_refl _) rfl)
    | opt b => exact m_of d_m_loopTold.2 (cls_ok _ _ (by decide)) rfl (by kernel_rfl) (by kernel_rfl) (by kernel_rfl) ((ih b (Nat.le_of_succ_le_succ hn) (Nat.le_of_succ_le hk)).of (Nat.le_refl _) rfl)
    | rep b lo hi => exact m_of d_m_repTold.2 (cls_ok _ _ (by decide)) rfl (by kernel_rfl) (by kernel_rfl) (by kernel_rfl) ((ih b (Nat.le_of_succ_le_succ hn) (Nat.le_of_succ_le hk)).of (Nat.le_refl _) rfl)
    | cat l r =>
      obtain ⟨m, ms, h1, h2⟩ := told_C (.cat l r)
      refine m_of d_m_pairTold.2 (cls_ok _ _ (by decide)) rfl (by kernel_rfl) (by kernel_rfl) (by kernel_rfl) (pairTold_ok (n := .cat l r) (Nat.le_trans hn hk) (N.pos _) h1 (fun q hq => ?_) _ h2)
      have := (mem_spineC (.cat l r) q (h1 ▸ hq)).2 ⟨_, _, rfl⟩
      exact (ih q (by lia) (by lia)).of this rfl
    | alt l r =>
      obtain ⟨m, ms, h1, h2⟩ := told_A (.alt l r)
      refine m_of d_m_pairTold.2 (cls_ok _ _ (by decide)) rfl (by kernel_rfl) (by kernel_rfl) (by kernel_rfl) (pairTold_ok (n := .alt l r) (Nat.le_trans hn hk) (N.pos _) h1 (fun q hq => ?_) _ h2)
      have := (mem_spineA (.alt l r) q (h1 ▸ hq)).2 ⟨_, _, rfl⟩
      exact (ih q (by lia) (by lia)).of this rfl

noncomputable def sumS : List N → Nat
  | [] => 0
  | n :: l => n.size + sumS l
theorem size_kids (n : N) : n.size = sumS n.kids + 1 := by cases n <;> rfl
theorem sumS_len : ∀ l : List N, l.length ≤ sumS l
  | [] => Nat.le_refl _
  | n :: l => by rw [List.length_cons, Nat.add_comm]; exact Nat.add_le_add n.pos (sumS_len l)
theorem sumS_app (b : List N) : ∀ a : List N, sumS (a ++ b) = sumS a + sumS b
  | [] => (Nat.zero_add _).symm
  | n :: l => (congrArg (n.size + ·) (sumS_app b l)).trans (Nat.add_assoc ..).symm
theorem sumS_rev : ∀ a : List N, sumS a.reverse = sumS a
  | [] => rfl
  | n :: l => by rw [List.reverse_cons, sumS_app, sumS_rev l, Nat.add_comm]; rfl
/-- a loop that appends what it meets to an own list -/
theorem LoopI.push {w : World} {d : Nat} {t : TgF} {D : DS} {Qn : Env' → Prop} {Qr : R → Env' → Prop} {ρ : Env'} {row : List N} (st : List V) (E : List V → Option Slot → Env') (o0 : Option Slot) (h0 : ρ = E st o0) (hl : st.length + row.length ≤ 100000)
    (step : ∀ m st o (K : Env' → Prop), st.length ≤ 100000 → (∀ o', K (E (st ++ [m]) o')) → t m (E st o) fun ρ₂ => D w d ρ₂ K Qr) (fin : ∀ o, Qn (E (st ++ row.map N.v) o)) :
    LoopI (fun J => ∀ u us ρ, J (u :: us) ρ → t u ρ fun ρ₂ => D w d ρ₂ (J us) Qr) Qn (row.map N.v) ρ := by
  refine LoopI.nodes (fun ms ρ => ∃ s o, s ++ ms.map N.v = st ++ row.map N.v ∧ ρ = E s o) ⟨st, o0, rfl, h0⟩ ?_ ?_
  · rintro u us ρ ⟨ns, e, s, o, h1, rfl⟩
    obtain ⟨m, ms, rfl, rfl, rfl⟩ := nodes_cons e
    refine step _ _ _ _ ?_ fun o' => ⟨ms, rfl, s ++ [m.v], o', by rw [← h1, List.append_assoc]; rfl, rfl⟩
    have h2 := congrArg List.length h1
    simp only [List.length_append, List.length_map, List.length_cons] at h2
    lia
  · rintro ρ ⟨s, o, h1, rfl⟩
    rw [List.map_nil, List.append_nil] at h1
    subst h1
    exact fin o
theorem ends {α : Type} (l : List α) : l = [] ∨ ∃ k m, l = k ++ [m] := (List.eq_nil_or_concat l).imp id fun ⟨k, m, e⟩ => ⟨k, m, e.trans List.concat_eq_append⟩
theorem count_ok (w : World) (n : N) (hn : n.size ≤ 1000) : Fn (GL w) 2 373 [n.v] (fun r => r = .val (.int n.size)) := by
  refine d_node_count.2.fn rfl ?_
  refine ⟨Nat × List N × Option Slot × Option Slot, fun p => [some (Slot.val n.v), some (Slot.val (.int p.1)), some (Slot.own (p.2.1.map N.v)), p.2.2.1, p.2.2.2, none], fun p => p.1 + sumS p.2.1 = n.size, fun p => sumS p.2.1, (0, [n], none, none), Nat.zero_add _, rfl, ?_⟩
  rintro ⟨cnt, st, o1, o2⟩ h
  have h : cnt + sumS st = n.size := h
  have hl := sumS_len st
  refine ⟨show (List.map N.v st).length ≤ _ by rw [List.length_map]; lia, ?_⟩
  rcases ends st with rfl | ⟨st, m, rfl⟩
  · exact congrArg (fun k : Nat => R.val (.int k)) h
  · have hk := size_kids m
    have hk2 := sumS_len m.kids
    rw [sumS_app, show sumS [m] = m.size from rfl] at h
    refine Way.eqT (by simp) ⟨st.map N.v, m.v, List.map_append, rfl, by rw [List.length_map]; have := sumS_len st; lia, ?_⟩
    refine (m_parts w m).of (Nat.le_refl _) ?_
    refine LoopI.push (st.map N.v) (fun ws o => [some (.val n.v), some (.val (.int ((cnt + 1 : Nat) : Int))), some (.own ws), some (.val m.v), o, none]) o2 rfl (by rw [List.length_map]; have := sumS_len st; lia) (fun x ws o K hw hK => ⟨hw, hK _⟩) fun o => ?_
    refine ⟨(cnt + 1, st ++ m.kids, some (.val m.v), o), by rw [← List.map_append], ?_, ?_⟩
    · show cnt + 1 + sumS (st ++ m.kids) = n.size
      rw [sumS_app]; lia
    · show sumS (st ++ m.kids) < sumS (st ++ [m])
      rw [sumS_app, sumS_app, show sumS [m] = m.size from rfl]; lia

end Mine

end
section
-- F8
open PySem PySem.W PySem.Calls PyProof.Rows
set_option Elab.async false
set_option linter.all false
set_option maxRecDepth 100000
set_option maxHeartbeats 4000000
set_option genInjectivity false
set_option genSizeOfSpec false
namespace Mine
noncomputable def N.leaves : N → List Str
  | .chars t => [t]
  | .cat l r => l.leaves ++ r.leaves
  | .alt l r => l.leaves ++ r.leaves
  | .star b => b.leaves
  | .plus b => b.leaves
  | .opt b => b.leaves
  | .rep b _ _ => b.leaves
  | _ => []
noncomputable def T7 : List Str := ["a", "b", "c", "ab", "bc", "abc", ""]
noncomputable def ustep (acc : List Str) (t : Str) : List Str := if t ∈ acc then acc else acc ++ [t]
noncomputable def uniq (l : List Str) : List Str := l.foldl ustep []
noncomputable def spT (t : Str) : V := .tup (spanV t)
theorem spanV_inj : ∀ s ∈ T7, ∀ t ∈ T7, same (spT s) (spT t) = decide (s = t) := by decide +kernel
theorem spanV_dat2 (t : Str) : Dat 2 (spT t) := by
  unfold spT spanV
  cases t.cps.toList with
  | nil => exact ⟨rfl, Nat.le_of_ble_eq_true rfl⟩
  | cons c cs => exact ⟨rfl, Nat.le_of_ble_eq_true rfl⟩
theorem spanV_dat (t : Str) : Dat 64 (spT t) := ⟨(spanV_dat2 t).ok, Nat.le_trans (spanV_dat2 t).dep (by decide)⟩
noncomputable def leavesL : List N → List Str
  | [] => []
  | n :: l => n.leaves ++ leavesL l
theorem leavesL_app (b : List N) : ∀ a : List N, leavesL (a ++ b) = leavesL a ++ leavesL b
  | [] => rfl
  | n :: l => (congrArg (n.leaves ++ ·) (leavesL_app b l)).trans (List.append_assoc ..).symm
theorem leaves_kids (n : N) (h : (n.nm == "chars") = false) : leavesL n.kids = n.leaves := by
  cases n with
  | chars t => cases h
  | cat l r => exact congrArg (l.leaves ++ ·) (List.append_nil _)
  | alt l r => exact congrArg (l.leaves ++ ·) (List.append_nil _)
  | empty => rfl
  | never => rfl
  | _ => exact List.append_nil _
theorem nm_chars {n : N} (h : (n.nm == "chars") = true) : ∃ t, n = .chars t := by
  cases n with
  | chars t => exact ⟨t, rfl⟩
  | _ => cases h
noncomputable def rest (st : List N) : List Str := leavesL st.reverse
theorem rest_app (st : List N) (m : N) : rest (st ++ [m]) = m.leaves ++ rest st := by unfold rest; rw [List.reverse_append]; rfl
theorem rest_kids (st : List N) (m : N) (h : (m.nm == "chars") = false) : rest (st ++ m.kids.reverse) = m.leaves ++ rest st := by unfold rest; rw [List.reverse_append, List.reverse_reverse, leavesL_app, leaves_kids m h]
theorem spans_isDs : ∀ l : List Str, isDs (l.map spT) = true
  | [] => rfl
  | t :: l => Bool.and_eq_true_iff.mpr ⟨(spanV_dat t).ok, spans_isDs l⟩
theorem any_same {f : Str → V} (hf : ∀ s ∈ T7, ∀ t ∈ T7, same (f s) (f t) = decide (s = t)) (l : List Str) (t : Str) (hl : ∀ x ∈ l, x ∈ T7) (ht : t ∈ T7) : ((l.map f).any fun u => same u (f t)) = decide (t ∈ l) := by
  induction l with
  | nil => rfl
  | cons x l ih =>
    rw [List.map_cons, List.any_cons, ih (fun y hy => hl y (.tail _ hy)), hf x (hl x (.head _)) t ht, ← Bool.decide_or]
    exact decide_eq_decide.mpr ⟨fun h => h.elim (fun h => h ▸ .head _) (.tail _), fun h => (List.mem_cons.mp h).imp Eq.symm id⟩
theorem spans_any (l : List Str) (t : Str) (hl : ∀ x ∈ l, x ∈ T7) (ht : t ∈ T7) : ((l.map spT).any fun u => same u (spT t)) = decide (t ∈ l) := any_same spanV_inj l t hl ht
theorem charsets_ok (w : World) (n : N) (hn : n.size ≤ 1000) (ht : ∀ t ∈ n.leaves, t ∈ T7) : Fn (GL w) 2 366 [n.v] (fun r => r = .fresh ((uniq n.leaves).map csV)) := by
  refine d_charsets.2.fn rfl ?_
  refine ⟨List Str × List N × Option Slot × Option Slot × Option Slot, fun p => [some (Slot.val n.v), some (Slot.own (p.1.map csV)), some (Slot.own (p.2.1.map N.v)), p.2.2.1, p.2.2.2.1, p.2.2.2.2, none],
    fun p => (rest p.2.1).foldl ustep p.1 = uniq n.leaves ∧ (∀ t ∈ p.1, t ∈ T7) ∧ (∀ t ∈ rest p.2.1, t ∈ T7) ∧ p.1.length + sumS p.2.1 ≤ 1000, fun p => sumS p.2.1, ([], [n], none, none, none), ⟨?_, ?_, ?_, ?_⟩, rfl, ?_⟩
  · show (rest ([] ++ [n])).foldl ustep [] = _
    rw [rest_app]; exact congrArg uniq (List.append_nil _)
  · exact fun t h => (List.not_mem_nil h).elim
  · show ∀ t ∈ rest ([] ++ [n]), t ∈ T7
    rw [rest_app]; exact fun t h => (List.mem_append.mp h).elim (ht t) fun h => (List.not_mem_nil h).elim
  · show 0 + (n.size + 0) ≤ 1000; lia
  rintro ⟨acc, st, o1, o2, o3⟩ ⟨h1, h2, h3, h4⟩
  have h1 : (rest st).foldl ustep acc = uniq n.leaves := h1
  have h2 : ∀ t ∈ acc, t ∈ T7 := h2
  have h3 : ∀ t ∈ rest st, t ∈ T7 := h3
  have h4 : acc.length + sumS st ≤ 1000 := h4
  have hl := sumS_len st
  refine ⟨show (List.map N.v st).length ≤ _ by rw [List.length_map]; lia, ?_⟩
  rcases ends st with rfl | ⟨st, m, rfl⟩
  · exact congrArg (fun l => R.fresh (List.map csV l)) h1
  · have hpos := m.pos
    rw [sumS_app, show sumS [m] = m.size from rfl] at h4
    have hst := sumS_len st
    rw [rest_app] at h1 h3
    refine Way.eqT (by simp) ⟨st.map N.v, m.v, List.map_append, rfl, by rw [List.length_map]; lia, ?_⟩
    refine El.by (at_name m) ?_
    refine Way.by (c := m.nm == "chars") (fun hm => ?_) fun hm => ?_
    · obtain ⟨t, rfl⟩ := nm_chars hm
      have ht7 : t ∈ T7 := h3 t (.head _)
      have h3' : ∀ x ∈ rest st, x ∈ T7 := fun x hx => h3 x (.tail _ hx)
      refine (m_key w t).of (Nat.le_refl _) ?_
      refine LoopC.maps csV spT (fun o => [none, o]) none rfl (by lia) (fun x hx o a K B ha hK => (m_key w x).of (Nat.le_refl _) ⟨ha, hK _⟩) fun o => ?_
      refine ⟨_, rfl, spanV_dat t, spans_isDs acc, ?_⟩
      have hlt : sumS st < sumS (st ++ [N.chars t]) := by rw [sumS_app]; exact Nat.lt_add_of_pos_right (Nat.lt_add_of_pos_right hpos)
      refine ⟨rfl, ?_⟩
      refine Way.by (c := !(List.map spT acc).any fun u => same u (spT t)) (fun hin => ?_) fun hin => ?_
      · rw [spans_any acc t h2 ht7, Bool.not_eq_true', decide_eq_false_iff_not] at hin
        refine ⟨by rw [List.length_map]; lia, ?_⟩
        refine ⟨(acc ++ [t], st, some (Slot.val (N.chars t).v), o2, o3), congrArg (fun l => [some (Slot.val n.v), some (.own l), some (.own (st.map N.v)), some (.val (N.chars t).v), o2, o3, none]) (List.map_append (f := csV) (l₁ := acc) (l₂ := [t])).symm, ⟨?_, ?_, h3', ?_⟩, hlt⟩
        · rw [← h1]; exact congrArg (List.foldl ustep · (rest st)) (if_neg hin).symm
        · intro x hx
          rcases List.mem_append.mp hx with hx | hx
          · exact h2 x hx
          · exact List.mem_singleton.mp hx ▸ ht7
        · show (acc ++ [t]).length + sumS st ≤ 1000
          rw [List.length_append, List.length_singleton]; lia
      · rw [spans_any acc t h2 ht7, Bool.not_eq_false', decide_eq_true_iff] at hin
        refine ⟨(acc, st, some (Slot.val (N.chars t).v), o2, o3), rfl, ⟨?_, h2, h3', (show acc.length + sumS st ≤ 1000 by lia)⟩, hlt⟩
        rw [← h1]; exact congrArg (List.foldl ustep · (rest st)) (if_pos hin).symm
    · have hk := size_kids m
      have hk2 := sumS_len m.kids
      refine (m_parts w m).of (Nat.le_refl _) ⟨by rw [List.length_map]; lia, ?_⟩
      rw [← List.map_reverse]
      refine LoopI.push (st.map N.v) (fun ws o => [some (.val n.v), some (.own (acc.map csV)), some (.own ws), some (.val m.v), some (.val (.lst (m.kids.reverse.map N.v))), o, none]) o3 rfl (by rw [List.length_map, List.length_reverse]; lia) (fun x ws o K hw hK => ⟨hw, hK _⟩) fun o => ?_
      refine ⟨(acc, st ++ m.kids.reverse, some (.val m.v), some (.val (.lst (m.kids.reverse.map N.v))), o), by rw [← List.map_append], ⟨?_, h2, ?_, ?_⟩, ?_⟩
      · show (rest (st ++ m.kids.reverse)).foldl ustep acc = _
        rw [rest_kids _ _ hm]; exact h1
      · show ∀ t ∈ rest (st ++ m.kids.reverse), t ∈ T7
        rw [rest_kids _ _ hm]; exact h3
      · show acc.length + sumS (st ++ m.kids.reverse) ≤ 1000
        rw [sumS_app, sumS_rev]; lia
      · show sumS (st ++ m.kids.reverse) < sumS (st ++ [m])
        rw [sumS_app, sumS_rev, sumS_app, show sumS [m] = m.size from rfl]; lia

end Mine

end
section
-- F9
open PySem PySem.W PySem.Calls PyProof.Rows
set_option Elab.async false
set_option linter.all false
set_option maxRecDepth 100000
set_option maxHeartbeats 4000000
set_option genInjectivity false
set_option genSizeOfSpec false
namespace Mine
/-- a loop over a written list, unrolled -/
noncomputable def runI (B : V → Env' → (Env' → Prop) → Prop) (Qn : Env' → Prop) (us : List V) : Env' → Prop := us.rec Qn fun u _ ih ρ => B u ρ ih
theorem LoopI.unroll {w : World} {d : Nat} {t : TgF} {D : DS} {Qn : Env' → Prop} {Qr : R → Env' → Prop} {us : List V} {ρ : Env'} (h : runI (fun u ρ J => t u ρ fun ρ₂ => D w d ρ₂ J Qr) Qn us ρ) : LoopI (fun J => ∀ u us ρ, J (u :: us) ρ → t u ρ fun ρ₂ => D w d ρ₂ (J us) Qr) Qn us ρ :=
  ⟨runI (fun u ρ J => t u ρ fun ρ₂ => D w d ρ₂ J Qr) Qn, h, fun _ _ _ h => h, fun _ h => h⟩
noncomputable def runC (w : World) (d : Nat) (t : TgF) (T : DB) (G : DG) (Q : List V → Env' → Prop) (us : List V) : List V → Env' → Prop := us.rec Q fun u _ ih a ρ => t u ρ fun ρ₂ => T w d ρ₂ fun ok ρ₃ => Way ok (G w d ρ₃ a ih) (ih a ρ₃)
theorem LoopC.unroll {w : World} {d : Nat} {t : TgF} {T : DB} {G : DG} {Q : List V → Env' → Prop} {acc us : List V} {ρ : Env'} (h : runC w d t T G Q us acc ρ) : LoopC (turnF w d t T G) Q acc us ρ :=
  ⟨fun a us ρ => runC w d t T G Q us a ρ, h, fun _ _ _ _ h => h, fun _ _ h => h⟩
noncomputable def N.tv : N → V
  | .empty => .tup [.str "empty"]
  | .never => .tup [.str "never"]
  | .chars t => .tup [.str "chars", .str t]
  | .cat l r => .tup [.str "cat", l.tv, r.tv]
  | .alt l r => .tup [.str "alt", l.tv, r.tv]
  | .star b => .tup [.str "star", b.tv]
  | .plus b => .tup [.str "plus", b.tv]
  | .opt b => .tup [.str "opt", b.tv]
  | .rep b lo hi => .tup [.str "repeat", b.tv, .int lo, hiV hi]
theorem tv_is {n : N} {A B : Prop} (h : A) : Way (atomT n.tv) (Way (isT n.tv) A B) False := by cases n <;> exact h
theorem few1 {n : Nat} (h : (n.ble 100000) = true) : 1 ≤ n + 1 ∧ n + 1 ≤ 100001 := ⟨Nat.succ_le_succ (Nat.zero_le _), Nat.succ_le_succ (Nat.le_of_ble_eq_true h)⟩
theorem node_ok (w : World) (hof : ∀ t ∈ T7, Fn (GL w) 5 434 [.str t] (fun r => r = .val (csV t))) : ∀ (k : Nat) (n : N), n.size ≤ k → k ≤ 1000 → n.wf → (∀ t ∈ n.leaves, t ∈ T7) → Fn (GL w) (n.size + 6) 579 [n.tv] (fun r => r = .val n.v) := by
  intro k
  induction k with
  | zero => intro n hn; have := n.pos; lia
  | succ k ih =>
    intro n hn hk hw ht
    refine d__law_node.2.fn rfl ?_
    have h3 : 3 ≤ n.size + 5 := Nat.le_add_left _ _
    cases n with
    | chars t => exact ⟨Nat.le_of_ble_eq_true rfl, CallP.of (hof t (ht t (.head _))) (Nat.le_add_left _ _) (mk_Chars rfl)⟩
    | empty => exact ⟨Nat.le_of_ble_eq_true rfl, mk_Empty rfl⟩
    | never => exact ⟨Nat.le_of_ble_eq_true rfl, mk_Never rfl⟩
    | cat l r =>
      have hl := ih l (by simp only [N.size] at hn; lia) (Nat.le_of_succ_le hk) hw.1 fun t h => ht t (List.mem_append_left _ h)
      have hr := ih r (by simp only [N.size] at hn; lia) (Nat.le_of_succ_le hk) hw.2 fun t h => ht t (List.mem_append_right _ h)
      exact ⟨⟨Nat.le_of_ble_eq_true rfl, Nat.le_of_ble_eq_true rfl⟩, LoopC.unroll (tv_is (CallP.of hl (by simp only [N.size]; lia) ⟨Nat.le_of_ble_eq_true rfl, tv_is (CallP.of hr (by simp only [N.size]; lia) ⟨Nat.le_of_ble_eq_true rfl, h3, mk_Cat rfl⟩)⟩))⟩
    | alt l r =>
      have hl := ih l (by simp only [N.size] at hn; lia) (Nat.le_of_succ_le hk) hw.1 fun t h => ht t (List.mem_append_left _ h)
      have hr := ih r (by simp only [N.size] at hn; lia) (Nat.le_of_succ_le hk) hw.2 fun t h => ht t (List.mem_append_right _ h)
      exact ⟨⟨Nat.le_of_ble_eq_true rfl, Nat.le_of_ble_eq_true rfl⟩, LoopC.unroll (tv_is (CallP.of hl (by simp only [N.size]; lia) ⟨Nat.le_of_ble_eq_true rfl, tv_is (CallP.of hr (by simp only [N.size]; lia) ⟨Nat.le_of_ble_eq_true rfl, h3, mk_Alt rfl⟩)⟩))⟩
    | star b => exact ⟨⟨Nat.le_of_ble_eq_true rfl, Nat.le_of_ble_eq_true rfl⟩, LoopC.unroll (tv_is (CallP.of (ih b (Nat.le_of_succ_le_succ hn) (Nat.le_of_succ_le hk) hw ht) (Nat.le_refl _) ⟨Nat.le_of_ble_eq_true rfl, h3, mk_Star rfl⟩))⟩
    | plus b => exact ⟨⟨Nat.le_of_ble_eq_true rfl, Nat.le_of_ble_eq_true rfl⟩, LoopC.unroll (tv_is (CallP.of (ih b (Nat.le_of_succ_le_succ hn) (Nat.le_of_succ_le hk) hw ht) (Nat.le_refl _) ⟨Nat.le_of_ble_eq_true rfl, h3, mk_Plus rfl⟩))⟩
    | opt b => exact ⟨⟨Nat.le_of_ble_eq_true rfl, Nat.le_of_ble_eq_true rfl⟩, LoopC.unroll (tv_is (CallP.of (ih b (Nat.le_of_succ_le_succ hn) (Nat.le_of_succ_le hk) hw ht) (Nat.le_refl _) ⟨Nat.le_of_ble_eq_true rfl, h3, mk_Opt rfl⟩))⟩
    | rep b lo hi =>
      refine ⟨⟨Nat.le_of_ble_eq_true rfl, Nat.le_of_ble_eq_true rfl⟩, LoopC.unroll (tv_is (CallP.of (ih b (Nat.le_of_succ_le_succ hn) (Nat.le_of_succ_le hk) hw.1 ht) (Nat.le_refl _) ⟨Nat.le_of_ble_eq_true rfl, ?_⟩))⟩
      have mk : ∀ {P}, P [("body", b.v), ("low", .int lo), ("high", hiV hi)] → Make (GL w) 2 289 [b.v, .int lo, hiV hi] P := mk_Repeat hw.2.1 hw.2.2.1 hw.2.2.2
      cases hi with
      | none => exact ⟨h3, mk rfl⟩
      | some h => exact ⟨h3, mk rfl⟩

end Mine

end
section
-- F10
open PySem PySem.W PySem.Calls PyProof.Rows
set_option Elab.async false
set_option linter.all false
set_option maxRecDepth 100000
set_option maxHeartbeats 4000000
set_option genInjectivity false
set_option genSizeOfSpec false
namespace Mine
theorem leaves_len : ∀ n : N, n.leaves.length ≤ n.size := by
  intro n
  induction n with
  | cat l r h1 h2 => exact Nat.le_trans (Nat.le_of_eq List.length_append) (Nat.le_succ_of_le (Nat.add_le_add h1 h2))
  | alt l r h1 h2 => exact Nat.le_trans (Nat.le_of_eq List.length_append) (Nat.le_succ_of_le (Nat.add_le_add h1 h2))
  | star b ih => exact Nat.le_succ_of_le ih
  | plus b ih => exact Nat.le_succ_of_le ih
  | opt b ih => exact Nat.le_succ_of_le ih
  | rep b lo hi ih => exact Nat.le_succ_of_le ih
  | _ => exact Nat.le_of_ble_eq_true rfl
noncomputable def lvV (l : List Str) (k : Nat) : V := .tup [.lst (l.map V.str), .int k]
theorem lv_bound {a b c : List Str} {k : Nat} (h : a.length + b.length ≤ k) (hk : k ≤ 1000) (e : c.map V.str = a.map V.str) : (c.map V.str).length + (b.map V.str).length ≤ 100000 := by
  rw [e, List.length_map, List.length_map]; lia
theorem lv1 (a : List Str) (k : Nat) : V.tup [.lst ([] ++ a.map V.str), .int (1 + (k : Int))] = lvV a (k + 1) := by
  rw [Int.add_comm]; rfl
theorem lv2 (a b : List Str) (k m : Nat) : V.tup [.lst (([] ++ a.map V.str) ++ b.map V.str), .int (1 + (k : Int) + (m : Int))] = lvV (a ++ b) (k + m + 1) := by
  unfold lvV
  rw [List.map_append, show 1 + (k : Int) + (m : Int) = ((k + m + 1 : Nat) : Int) by lia]; rfl
theorem leaves_ok (w : World) : ∀ (k : Nat) (n : N), n.size ≤ k → k ≤ 1000 → Fn (GL w) (n.size + 1) 605 [n.tv] (fun r => r = .val (lvV n.leaves n.size)) := by
  intro k
  induction k with
  | zero => intro n hn; have := n.pos; lia
  | succ k ih =>
    intro n hn hk
    refine d__law_leaves.2.fn rfl ?_
    have lb : ∀ b : N, b.size ≤ k → 0 + (b.leaves.map V.str).length ≤ 100000 := fun b hb => by have := leaves_len b; rw [List.length_map]; lia
    cases n with
    | chars t => exact rfl
    | empty => exact ⟨⟨Nat.le_refl _, Nat.le_of_ble_eq_true rfl⟩, LoopI.unroll rfl⟩
    | never => exact ⟨⟨Nat.le_refl _, Nat.le_of_ble_eq_true rfl⟩, LoopI.unroll rfl⟩
    | cat l r =>
      have hs : l.size + r.size ≤ k := Nat.le_of_succ_le_succ hn
      have l1 := leaves_len l
      have l2 := leaves_len r
      exact ⟨⟨Nat.le_of_ble_eq_true rfl, Nat.le_of_ble_eq_true rfl⟩, LoopI.unroll (tv_is (CallP.of (ih l (by lia) (by lia)) (by simp only [N.size]; lia) ⟨lb l (by lia), tv_is (CallP.of (ih r (by lia) (by lia)) (by simp only [N.size]; lia) ⟨by rw [List.length_append, List.length_map, List.length_map, List.length_nil]; lia, congrArg R.val (lv2 ..)⟩)⟩))⟩
    | alt l r =>
      have hs : l.size + r.size ≤ k := Nat.le_of_succ_le_succ hn
      have l1 := leaves_len l
      have l2 := leaves_len r
      exact ⟨⟨Nat.le_of_ble_eq_true rfl, Nat.le_of_ble_eq_true rfl⟩, LoopI.unroll (tv_is (CallP.of (ih l (by lia) (by lia)) (by simp only [N.size]; lia) ⟨lb l (by lia), tv_is (CallP.of (ih r (by lia) (by lia)) (by simp only [N.size]; lia) ⟨by rw [List.length_append, List.length_map, List.length_map, List.length_nil]; lia, congrArg R.val (lv2 ..)⟩)⟩))⟩
    | star b => exact ⟨⟨Nat.le_of_ble_eq_true rfl, Nat.le_of_ble_eq_true rfl⟩, LoopI.unroll (tv_is (CallP.of (ih b (Nat.le_of_succ_le_succ hn) (Nat.le_of_succ_le hk)) (Nat.le_refl _) ⟨lb b (Nat.le_of_succ_le_succ hn), congrArg R.val (lv1 ..)⟩))⟩
    | plus b => exact ⟨⟨Nat.le_of_ble_eq_true rfl, Nat.le_of_ble_eq_true rfl⟩, LoopI.unroll (tv_is (CallP.of (ih b (Nat.le_of_succ_le_succ hn) (Nat.le_of_succ_le hk)) (Nat.le_refl _) ⟨lb b (Nat.le_of_succ_le_succ hn), congrArg R.val (lv1 ..)⟩))⟩
    | opt b => exact ⟨⟨Nat.le_of_ble_eq_true rfl, Nat.le_of_ble_eq_true rfl⟩, LoopI.unroll (tv_is (CallP.of (ih b (Nat.le_of_succ_le_succ hn) (Nat.le_of_succ_le hk)) (Nat.le_refl _) ⟨lb b (Nat.le_of_succ_le_succ hn), congrArg R.val (lv1 ..)⟩))⟩
    | rep b lo hi =>
      refine ⟨⟨Nat.le_of_ble_eq_true rfl, Nat.le_of_ble_eq_true rfl⟩, LoopI.unroll (tv_is (CallP.of (ih b (Nat.le_of_succ_le_succ hn) (Nat.le_of_succ_le hk)) (Nat.le_refl _) ⟨lb b (Nat.le_of_succ_le_succ hn), ?_⟩))⟩
      have e := congrArg R.val (lv1 b.leaves b.size)
      cases hi with
      | none => exact e
      | some h => exact e
noncomputable def N.bnds : N → Int → Int × Int
  | .star _, R => (0, R)
  | .plus _, R => (1, 1 + R)
  | .opt _, _ => (0, 1)
  | .rep _ lo none, R => (lo, lo + R)
  | .rep _ lo (some h), _ => (lo, h)
  | _, _ => (0, 0)
theorem bounds_ok (w : World) (n : N) (R : Int) (hn : n.lohi.isSome = true) : Fn (GL w) 1 586 [n.tv, .int R] (fun r => r = .val (.tup [.int (n.bnds R).1, .int (n.bnds R).2])) := by
  refine d__law_bounds.2.fn rfl ?_
  cases n with
  | star b => exact ⟨_, 0, _, rfl, fun _ _ _ => rfl, rfl, rfl⟩
  | plus b => exact ⟨_, 1, _, rfl, fun _ _ _ => rfl, rfl, rfl⟩
  | opt b => exact ⟨_, 2, _, rfl, fun _ _ _ => rfl, rfl, rfl⟩
  | rep b lo hi =>
    cases hi with
    | none => exact rfl
    | some h => exact rfl
  | _ => cases hn
noncomputable def prV : Option (Int × Int) → V
  | none => .none
  | some p => .tup [.int p.1, .int p.2]
noncomputable def hiAt (hi : Option Int) (x : Int) : Int := match hi with
  | none => x
  | some h => h
noncomputable def N.ends : N → Int → Option (Int × Int)
  | .empty, _ => some (0, 0)
  | .never, _ => none
  | .chars t, _ => if t = "" then none else some (1, 1)
  | .cat l r, R => match l.ends R, r.ends R with
    | some a, some b => some (a.1 + b.1, a.2 + b.2)
    | _, _ => none
  | .alt l r, R => match l.ends R, r.ends R with
    | none, o => o
    | o, none => o
    | some a, some b => some (min a.1 b.1, max a.2 b.2)
  | .star b, R => match b.ends R with
    | none => some (0, 0)
    | some a => some (a.1 * 0, a.2 * R)
  | .plus b, R => match b.ends R with
    | none => none
    | some a => some (a.1 * 1, a.2 * (1 + R))
  | .opt b, R => match b.ends R with
    | none => some (0, 0)
    | some a => some (a.1 * 0, a.2 * 1)
  | .rep b lo hi, R => match b.ends R with
    | none => if lo = 0 then some (0, 0) else none
    | some a => some (a.1 * lo, a.2 * hiAt hi (lo + R))
noncomputable def ends2 (x y : Option (Int × Int)) : Option (Int × Int) := match x, y with
    | some a, some b => some (a.1 + b.1, a.2 + b.2)
    | _, _ => none
theorem mulOkR {a b : Int} (h : 0 ≤ b) (h2 : b ≤ 200000000) : IntMulOk a b := .of_right (intBits_le_64 (by lia) (by lia))
theorem ends_ok (w : World) (R : Int) (hR : 0 ≤ R ∧ R ≤ 100000000) : ∀ (k : Nat) (n : N), n.size ≤ k → k ≤ 1000 → n.wf → Fn (GL w) (n.size + 1) 593 [n.tv, .int R] (fun r => r = .val (prV (n.ends R))) := by
  intro k
  induction k with
  | zero => intro n hn; have := n.pos; lia
  | succ k ih =>
    intro n hn hk hw
    refine d__law_ends.2.fn rfl ?_
    cases n with
    | empty => exact rfl
    | never => exact rfl
    | chars t =>
      refine Way.by (c := t == "") (fun h => ?_) fun h => ?_
      · rw [N.ends, if_pos (eq_of_beq h)]; exact rfl
      · rw [N.ends, if_neg (ne_of_beq_false h)]; exact rfl
    | cat l r =>
      have hs : l.size + r.size ≤ k := Nat.le_of_succ_le_succ hn
      refine CallP.of (ih l (by lia) (by lia) hw.1) (by simp only [N.size]; lia) (CallP.of (ih r (by lia) (by lia) hw.2) (by simp only [N.size]; lia) ?_)
      rw [N.ends]
      cases l.ends R with
      | none => exact rfl
      | some a => cases r.ends R with
        | none => exact rfl
        | some b => exact rfl
    | alt l r =>
      have hs : l.size + r.size ≤ k := Nat.le_of_succ_le_succ hn
      refine CallP.of (ih l (by lia) (by lia) hw.1) (by simp only [N.size]; lia) (CallP.of (ih r (by lia) (by lia) hw.2) (by simp only [N.size]; lia) ?_)
      rw [N.ends]
      cases l.ends R with
      | none => cases r.ends R with
        | none => exact rfl
        | some b => exact rfl
      | some a => cases r.ends R with
        | none => exact rfl
        | some b => exact rfl
    | star b =>
      refine CallP.of (bounds_ok w (.star b) R rfl) (N.pos _) (CallP.of (ih b (Nat.le_of_succ_le_succ hn) (Nat.le_of_succ_le hk) hw) (Nat.le_refl _) ?_)
      rw [N.ends]
      cases b.ends R with
      | none => exact rfl
      | some a => exact ⟨mulOkR (b := 0) (by decide) (by decide), mulOkR (b := R) hR.1 (by lia), rfl⟩
    | plus b =>
      refine CallP.of (bounds_ok w (.plus b) R rfl) (N.pos _) (CallP.of (ih b (Nat.le_of_succ_le_succ hn) (Nat.le_of_succ_le hk) hw) (Nat.le_refl _) ?_)
      rw [N.ends]
      cases b.ends R with
      | none => exact rfl
      | some a => exact ⟨mulOkR (b := 1) (by decide) (by decide), mulOkR (b := 1 + R) (by lia) (by lia), rfl⟩
    | opt b =>
      refine CallP.of (bounds_ok w (.opt b) R rfl) (N.pos _) (CallP.of (ih b (Nat.le_of_succ_le_succ hn) (Nat.le_of_succ_le hk) hw) (Nat.le_refl _) ?_)
      rw [N.ends]
      cases b.ends R with
      | none => exact rfl
      | some a => exact ⟨mulOkR (b := 0) (by decide) (by decide), mulOkR (b := 1) (by decide) (by decide), rfl⟩
    | rep b lo hi =>
      refine CallP.of (bounds_ok w (.rep b lo hi) R rfl) (N.pos _) (CallP.of (ih b (Nat.le_of_succ_le_succ hn) (Nat.le_of_succ_le hk) hw.1) (Nat.le_refl _) ?_)
      rw [N.ends]
      have h1 := hw.2.1
      have h2 := hw.2.2.1
      have h3 := hw.2.2.2
      cases hi with
      | none => cases b.ends R with
        | none =>
          refine Way.by (c := lo == 0) (fun h => ?_) fun h => ?_
          · rw [if_pos (eq_of_beq h)]; exact rfl
          · rw [if_neg (ne_of_beq_false h)]; exact rfl
        | some a => exact ⟨mulOkR (b := lo) h1 (by lia), mulOkR (b := lo + R) (by lia) (by lia), rfl⟩
      | some h => cases b.ends R with
        | none =>
          refine Way.by (c := lo == 0) (fun h => ?_) fun h => ?_
          · rw [if_pos (eq_of_beq h)]; exact rfl
          · rw [if_neg (ne_of_beq_false h)]; exact rfl
        | some a => have := h3 h rfl; exact ⟨mulOkR (b := lo) h1 (by lia), mulOkR (b := h) (by lia) (by lia), rfl⟩

end Mine

end
section
-- F11
open PySem PySem.W PySem.Calls PyProof.Rows
set_option Elab.async false
set_option linter.all false
set_option maxRecDepth 100000
set_option maxHeartbeats 4000000
set_option genInjectivity false
set_option genSizeOfSpec false
namespace Mine
theorem same_refl (a : V) (h : isD a = true) : same a a = true := PySem.SeqAt.eqv_refl _ (isD_lay h)
theorem four_dat (a b c : Option Int) (e : Bool) : Dat 64 (.tup [hiV a, hiV b, hiV c, .bool e]) := by
  cases a <;> cases b <;> cases c <;> exact ⟨rfl, Nat.le_of_ble_eq_true rfl⟩
theorem len_tail {w : World} {n : N} (hn : n.size ≤ 200) (hw : n.wf) (h3 : n.canE = decide (n.least = some 0)) (x y : V) :
    sRet (vCmp (EqP id) (vTup (lCons (vCall 326 (lCons (vNm 0) lNil)) (lCons (vCall 333 (lCons (vNm 0) lNil)) (lCons (vCall 354 (lCons (vNm 0) lNil)) (lCons (vCall 319 (lCons (vNm 0) lNil)) lNil))))) (vTup (lCons (vNm 3) (lCons (vNm 4) (lCons (vNm 5) (lCons (vCmp (EqP id) (vNm 3) (vC (.int 0))) lNil))))))
      w (2 * n.size + 3) [some (.val n.v), some (.val x), some (.val y), some (.val (hiV n.least)), some (.val (hiV n.most)), some (.val (hiV (if n.most = n.least then n.least else none))), none, none, none, none] (fun _ => True) (fun r _ => r = .val (.bool true)) := by
  refine CallP.of (least_ok w 1000 n (by lia) (Nat.le_refl _) hw) (by lia) ?_
  refine CallP.of (most_ok w 1000 n (by lia) (Nat.le_refl _) hw) (by lia) ?_
  refine CallP.of (fixed_ok w n (by lia) hw) (by lia) ?_
  refine CallP.of (can_ok w 1000 n (by lia) (Nat.le_refl _)) (by lia) ?_
  refine ⟨hi_dat n.least, hi_dat (some 0), four_dat _ _ _ _, four_dat _ _ _ _, ?_⟩
  refine congrArg (fun c => R.val (.bool c)) ?_
  rw [h3, ← same_hi]
  exact same_refl _ (four_dat _ _ _ (same (hiV n.least) (hiV (some 0)))).ok
theorem lengths_ok (w : World) (n : N) (hn : n.size ≤ 200) (hw : n.wf) (due far : Option (Int × Int)) (hf : due.isSome = far.isSome) (h1 : n.least = due.map (·.1))
    (h2 : n.most = match due, far with | some d, some f => if f.2 = d.2 then some d.2 else none | _, _ => some (-1)) (h3 : n.canE = decide (n.least = some 0)) :
    Fn (GL w) (2 * n.size + 4) 612 [n.v, prV due, prV far] (fun r => r = .val (.bool true)) := by
  refine d__law_lengths_right.2.fn rfl ?_
  have t := len_tail (w := w) hn hw h3 (prV due) (prV far)
  rw [h2, h1] at t
  cases due with
  | none =>
    cases far with
    | some f => cases hf
    | none => exact t
  | some du =>
    cases far with
    | none => cases hf
    | some fa =>
      refine Way.by (c := fa.2 != du.2) (fun q => ?_) fun q => ?_
      · have q : ¬ fa.2 = du.2 := bne_iff_ne.mp q
        simp only [if_neg q, Option.map_some] at t
        exact ⟨hi_dat none, hi_dat (some du.1), t⟩
      · have q : fa.2 = du.2 := by simpa using q
        simp only [if_pos q, Option.map_some] at t
        refine ⟨hi_dat (some du.2), hi_dat (some du.1), Way.by (c := same (hiV (some du.2)) (hiV (some du.1))) (fun e => ?_) fun e => ?_⟩
        · rw [same_hi] at e
          rw [if_pos (of_decide_eq_true e)] at t
          exact t
        · rw [same_hi] at e
          rw [if_neg (of_decide_eq_false e)] at t
          exact t

end Mine

end
section
-- F12
open PySem PySem.W PySem.Calls PyProof.Rows
set_option Elab.async false
set_option linter.all false
set_option maxRecDepth 100000
set_option maxHeartbeats 4000000
set_option genInjectivity false
set_option genSizeOfSpec false
namespace Mine
noncomputable def codesOf (t : Str) : List V := match t.cps.toList with
  | [] => []
  | c :: cs => (List.range (cs.length + 1)).map fun i : Nat => .int ((c : Int) + i)
theorem lastI {ρ ρ₁ : Env'} {j : Nat} {Q : V → Prop} {u : V} (hr : ρ₁[j]? = some (some (.own [u]))) (q : Q u) : OwnItem ρ j Q (.int (-1)) ρ₁ := ⟨-1, 0, _, u, rfl, hr, .inr ⟨by decide, Int.le_refl _, by decide, rfl⟩, rfl, q⟩
theorem lastS {ρ ρ₁ : Env'} {j : Nat} {v u : V} {Q : Env' → Prop} (hr : ρ₁[j]? = some (some (.own [u]))) (q : Q (ρ₁.set j (some (.own [v])))) : SetP ρ j v Q (.int (-1)) ρ₁ := ⟨-1, 0, _, rfl, hr, .inr ⟨by decide, Int.le_refl _, by decide, rfl⟩, Nat.zero_lt_one, q⟩
noncomputable def prT (t : Str) : List V := prs (t.cps.toList.map fun c : Nat => ((c : Int), (c : Int)))
theorem leB {n : Nat} (h : n.ble 100000 = true) : n ≤ 100000 := Nat.le_of_ble_eq_true h
theorem codes_a (w : World) : Meth (GL w) 1 "codes" (fun r => r = .fresh (codesOf "a")) (csV "a") := m_of d_m_codes.2 (cls_ok _ _ (by decide)) rfl (by kernel_rfl) (by kernel_rfl) (by kernel_rfl) (LoopI.unroll ⟨97, 98, rfl, rfl, by decide, by decide, rfl⟩)
theorem made_a (w : World) : Fn (GL w) 4 454 [.lst (prT "a")] (fun r => r = .val (csV "a")) := d_m_made.2.fn rfl (LoopI.unroll (⟨leB rfl, SortP.prs [(97, 97)] rfl (by decide) (by decide) (LoopI.unroll ⟨leB rfl, rfl, leB rfl, Nat.le_refl 3, _, rfl, leB rfl, mk_CharSet rfl⟩)⟩))
theorem of_a (w : World) : Fn (GL w) 5 434 [.str "a"] (fun r => r = .val (csV "a")) := d_m_of.2.fn rfl ⟨(Array.all_toList ..).symm.trans rfl, LoopC.unroll (⟨97, rfl, 97, rfl, Nat.le_of_ble_eq_true rfl, CallP.of (made_a w) (Nat.le_refl _) rfl⟩)⟩
theorem codes_b (w : World) : Meth (GL w) 1 "codes" (fun r => r = .fresh (codesOf "b")) (csV "b") := m_of d_m_codes.2 (cls_ok _ _ (by decide)) rfl (by kernel_rfl) (by kernel_rfl) (by kernel_rfl) (LoopI.unroll ⟨98, 99, rfl, rfl, by decide, by decide, rfl⟩)
theorem made_b (w : World) : Fn (GL w) 4 454 [.lst (prT "b")] (fun r => r = .val (csV "b")) := d_m_made.2.fn rfl (LoopI.unroll (⟨leB rfl, SortP.prs [(98, 98)] rfl (by decide) (by decide) (LoopI.unroll ⟨leB rfl, rfl, leB rfl, Nat.le_refl 3, _, rfl, leB rfl, mk_CharSet rfl⟩)⟩))
theorem of_b (w : World) : Fn (GL w) 5 434 [.str "b"] (fun r => r = .val (csV "b")) := d_m_of.2.fn rfl ⟨(Array.all_toList ..).symm.trans rfl, LoopC.unroll (⟨98, rfl, 98, rfl, Nat.le_of_ble_eq_true rfl, CallP.of (made_b w) (Nat.le_refl _) rfl⟩)⟩
theorem codes_c (w : World) : Meth (GL w) 1 "codes" (fun r => r = .fresh (codesOf "c")) (csV "c") := m_of d_m_codes.2 (cls_ok _ _ (by decide)) rfl (by kernel_rfl) (by kernel_rfl) (by kernel_rfl) (LoopI.unroll ⟨99, 100, rfl, rfl, by decide, by decide, rfl⟩)
theorem made_c (w : World) : Fn (GL w) 4 454 [.lst (prT "c")] (fun r => r = .val (csV "c")) := d_m_made.2.fn rfl (LoopI.unroll (⟨leB rfl, SortP.prs [(99, 99)] rfl (by decide) (by decide) (LoopI.unroll ⟨leB rfl, rfl, leB rfl, Nat.le_refl 3, _, rfl, leB rfl, mk_CharSet rfl⟩)⟩))
theorem of_c (w : World) : Fn (GL w) 5 434 [.str "c"] (fun r => r = .val (csV "c")) := d_m_of.2.fn rfl ⟨(Array.all_toList ..).symm.trans rfl, LoopC.unroll (⟨99, rfl, 99, rfl, Nat.le_of_ble_eq_true rfl, CallP.of (made_c w) (Nat.le_refl _) rfl⟩)⟩
theorem codes_ab (w : World) : Meth (GL w) 1 "codes" (fun r => r = .fresh (codesOf "ab")) (csV "ab") := m_of d_m_codes.2 (cls_ok _ _ (by decide)) rfl (by kernel_rfl) (by kernel_rfl) (by kernel_rfl) (LoopI.unroll ⟨97, 99, rfl, rfl, by decide, by decide, rfl⟩)
theorem made_ab (w : World) : Fn (GL w) 4 454 [.lst (prT "ab")] (fun r => r = .val (csV "ab")) := d_m_made.2.fn rfl (LoopI.unroll (⟨leB rfl, ⟨leB rfl, SortP.prs [(97, 97), (98, 98)] rfl (by decide) (by decide) (LoopI.unroll ⟨leB rfl, rfl, leB rfl, leB rfl, rfl, lastI rfl (lastI rfl (lastI rfl (lastS rfl ⟨Nat.le_refl 3, _, rfl, leB rfl, mk_CharSet rfl⟩)))⟩)⟩⟩))
theorem of_ab (w : World) : Fn (GL w) 5 434 [.str "ab"] (fun r => r = .val (csV "ab")) := d_m_of.2.fn rfl ⟨(Array.all_toList ..).symm.trans rfl, LoopC.unroll (⟨97, rfl, 97, rfl, Nat.le_of_ble_eq_true rfl, ⟨98, rfl, 98, rfl, Nat.le_of_ble_eq_true rfl, CallP.of (made_ab w) (Nat.le_refl _) rfl⟩⟩)⟩
theorem codes_bc (w : World) : Meth (GL w) 1 "codes" (fun r => r = .fresh (codesOf "bc")) (csV "bc") := m_of d_m_codes.2 (cls_ok _ _ (by decide)) rfl (by kernel_rfl) (by kernel_rfl) (by kernel_rfl) (LoopI.unroll ⟨98, 100, rfl, rfl, by decide, by decide, rfl⟩)
theorem made_bc (w : World) : Fn (GL w) 4 454 [.lst (prT "bc")] (fun r => r = .val (csV "bc")) := d_m_made.2.fn rfl (LoopI.unroll (⟨leB rfl, ⟨leB rfl, SortP.prs [(98, 98), (99, 99)] rfl (by decide) (by decide) (LoopI.unroll ⟨leB rfl, rfl, leB rfl, leB rfl, rfl, lastI rfl (lastI rfl (lastI rfl (lastS rfl ⟨Nat.le_refl 3, _, rfl, leB rfl, mk_CharSet rfl⟩)))⟩)⟩⟩))
theorem of_bc (w : World) : Fn (GL w) 5 434 [.str "bc"] (fun r => r = .val (csV "bc")) := d_m_of.2.fn rfl ⟨(Array.all_toList ..).symm.trans rfl, LoopC.unroll (⟨98, rfl, 98, rfl, Nat.le_of_ble_eq_true rfl, ⟨99, rfl, 99, rfl, Nat.le_of_ble_eq_true rfl, CallP.of (made_bc w) (Nat.le_refl _) rfl⟩⟩)⟩
theorem codes_abc (w : World) : Meth (GL w) 1 "codes" (fun r => r = .fresh (codesOf "abc")) (csV "abc") := m_of d_m_codes.2 (cls_ok _ _ (by decide)) rfl (by kernel_rfl) (by kernel_rfl) (by kernel_rfl) (LoopI.unroll ⟨97, 100, rfl, rfl, by decide, by decide, rfl⟩)
theorem made_abc (w : World) : Fn (GL w) 4 454 [.lst (prT "abc")] (fun r => r = .val (csV "abc")) := d_m_made.2.fn rfl (LoopI.unroll (⟨leB rfl, ⟨leB rfl, ⟨leB rfl, SortP.prs [(97, 97), (98, 98), (99, 99)] rfl (by decide) (by decide) (LoopI.unroll ⟨leB rfl, rfl, leB rfl, leB rfl, rfl, lastI rfl (lastI rfl (lastI rfl (lastS rfl ⟨leB rfl, rfl, lastI rfl (lastI rfl (lastI rfl (lastS rfl ⟨Nat.le_refl 3, _, rfl, leB rfl, mk_CharSet rfl⟩)))⟩)))⟩)⟩⟩⟩))
theorem of_abc (w : World) : Fn (GL w) 5 434 [.str "abc"] (fun r => r = .val (csV "abc")) := d_m_of.2.fn rfl ⟨(Array.all_toList ..).symm.trans rfl, LoopC.unroll (⟨97, rfl, 97, rfl, Nat.le_of_ble_eq_true rfl, ⟨98, rfl, 98, rfl, Nat.le_of_ble_eq_true rfl, ⟨99, rfl, 99, rfl, Nat.le_of_ble_eq_true rfl, CallP.of (made_abc w) (Nat.le_refl _) rfl⟩⟩⟩)⟩
theorem codes_none (w : World) : Meth (GL w) 1 "codes" (fun r => r = .fresh (codesOf "")) (csV "") := m_of d_m_codes.2 (cls_ok _ _ (by decide)) rfl (by kernel_rfl) (by kernel_rfl) (by kernel_rfl) (LoopI.unroll rfl)
theorem made_none (w : World) : Fn (GL w) 4 454 [.lst (prT "")] (fun r => r = .val (csV "")) := d_m_made.2.fn rfl (LoopI.unroll (SortP.prs [] rfl (by decide) (by decide) (LoopI.unroll ⟨Nat.le_refl 3, _, rfl, leB rfl, mk_CharSet rfl⟩)))
theorem of_none (w : World) : Fn (GL w) 5 434 [.str ""] (fun r => r = .val (csV "")) := d_m_of.2.fn rfl ⟨(Array.all_toList ..).symm.trans rfl, LoopC.unroll (CallP.of (made_none w) (Nat.le_refl _) rfl)⟩
theorem of_ok (w : World) : ∀ t ∈ T7, Fn (GL w) 5 434 [.str t] (fun r => r = .val (csV t)) := by
  intro t ht
  simp only [T7, List.mem_cons, List.not_mem_nil, or_false] at ht
  rcases ht with rfl | rfl | rfl | rfl | rfl | rfl | rfl
  · exact of_a w
  · exact of_b w
  · exact of_c w
  · exact of_ab w
  · exact of_bc w
  · exact of_abc w
  · exact of_none w
theorem m_codes (w : World) : ∀ t ∈ T7, Meth (GL w) 1 "codes" (fun r => r = .fresh (codesOf t)) (csV t) := by
  intro t ht
  simp only [T7, List.mem_cons, List.not_mem_nil, or_false] at ht
  rcases ht with rfl | rfl | rfl | rfl | rfl | rfl | rfl
  · exact codes_a w
  · exact codes_b w
  · exact codes_c w
  · exact codes_ab w
  · exact codes_bc w
  · exact codes_abc w
  · exact codes_none w

end Mine

end
section
-- F13
open PySem PySem.W PySem.Calls PyProof.Rows
set_option Elab.async false
set_option linter.all false
set_option maxRecDepth 100000
set_option maxHeartbeats 4000000
set_option genInjectivity false
set_option genSizeOfSpec false
namespace Mine
noncomputable def penV (cells : List Int) (spot rest : Int) : List V := [.lst (cells.map V.int), .int spot, .int rest]
theorem ints_isDs : ∀ l : List Int, isDs (l.map V.int) = true
  | [] => rfl
  | _ :: l => ints_isDs l
theorem ints_dep : ∀ l : List Int, PyData.depthAll (pds (l.map V.int)) = 0
  | [] => rfl
  | _ :: l => (Nat.zero_max _).trans (ints_dep l)
theorem ints_dat (l : List Int) : Dat 64 (.lst (l.map V.int)) := ⟨ints_isDs l, Nat.le_trans (Nat.le_of_eq (congrArg (· + 1) (ints_dep l))) (by decide)⟩
inductive DrawQ (cells : List Int) (spot many : Int) (v : V) (vs' : List V) : Prop
  | mk (dg sp rs : Int) (e : v = .int dg) (h1 : 0 ≤ dg) (h2 : dg < many) (e2 : vs' = penV cells sp rs) (s1 : 0 ≤ sp) (s2 : sp ≤ spot + 1)
theorem setN {ρ ρ₁ : Env'} {j : Nat} {v : V} {Q : Env' → Prop} {vs : List V} (n : Nat) (hr : ρ₁[j]? = some (some (.own vs))) (hl : n < vs.length) (h : (n : Int) < 2 ^ 63) (q : Q (ρ₁.set j (some (.own (vs.set n v))))) : SetP ρ j v Q (.int n) ρ₁ :=
  ⟨n, n, vs, rfl, hr, .inl ⟨Int.natCast_nonneg n, h, rfl⟩, hl, q⟩
theorem seqCut {D D2 : DS} {w : World} {d : Nat} {ρ : Env'} {Qn : Env' → Prop} {Qr : R → Env' → Prop} (I : Env' → Prop) (rest : ∀ ρ₁, I ρ₁ → D2 w d ρ₁ Qn Qr) (h : ∀ Qm : Env' → Prop, (∀ ρ₁, I ρ₁ → Qm ρ₁) → D w d ρ Qm Qr) : sSeq D D2 w d ρ Qn Qr := h _ rest
theorem mulOkL {a b : Int} (h : 0 ≤ a) (h2 : a ≤ 200000000) : IntMulOk a b := .of_left (intBits_le_64 (by lia) (by lia))
theorem oAdd_of {m n : Int} {Q : V → Prop} (h : Q (.int (m + n))) : oAdd (.int m) (.int n) Q := h
theorem draw_ok (w : World) (cells : List Int) (spot rest many : Int) (hc : cells.length ≤ 48) (hs : 0 ≤ spot ∧ spot ≤ 1000) (hm : 1 ≤ many ∧ many ≤ 10) : FnP (GL w) 1 567 [.int many] (penV cells spot rest) (DrawQ cells spot many) := by
  have h0 : many ≠ 0 := by lia
  have fin : ∀ a rs sp : Int, 0 ≤ sp → sp ≤ spot + 1 → DrawQ cells spot many (.int (a.fmod many)) (penV cells sp rs) := fun a rs sp s1 s2 => ⟨_, sp, rs, rfl, Int.fmod_nonneg_of_pos _ (by lia), Int.fmod_lt_of_pos _ (by lia), rfl, s1, s2⟩
  have hdm : ∀ a, Builtin.divisionGoesByPylong a many = false := fun a => PyProof.noPylong_small (by lia)
  have s0 : 0 ≤ spot + 1 := by lia
  refine d__law_draw.2.fn rfl ?_
  refine Way.by (c := decide (rest > 0)) (fun h1 => ?_) fun h1 => ?_
  · exact ⟨h0, ⟨h0, hdm _⟩, setN 2 rfl (Nat.le_refl 3) (by decide) (fin rest (rest.fdiv many) spot hs.1 (by lia))⟩
  · refine setN 1 rfl (Nat.le_succ 2) (by decide) ⟨mulOkL (a := 7717) (by decide) (by decide), ?_⟩
    refine oAdd_of ?_
    refine seqCut (fun ρ => ∃ cell : Int, ρ = [some (Slot.own (penV cells (spot + 1) rest)), some (Slot.val (.int many)), none, some (Slot.val (.int spot)), some (Slot.val (.int cell)), none, none, none, none, none]) ?_ ?_
    · rintro ρ ⟨cell, rfl⟩
      refine seqCut (fun ρ => ∃ o : Option Slot, ρ = [some (Slot.own (penV cells (spot + 1) rest)), some (Slot.val (.int many)), none, some (Slot.val (.int spot)), some (Slot.val (.int cell)), o, none, none, none, none]) ?_ ?_
      · rintro ρ ⟨o, rfl⟩
        have m1 := Int.fmod_nonneg_of_pos cell (b := 2147483587) (by decide)
        have m2 := Int.fmod_lt_of_pos cell (b := 2147483587) (by decide)
        have hb : Builtin.Int.intBits (cell.fmod 2147483587 + 51031 * spot + 6221) ≤ 64 := intBits_le_64 (by lia) (by lia)
        exact ⟨by decide, mulOkL (a := 51031) (by decide) (by decide), ⟨by decide, by lia⟩, by decide, mulOkL (a := 2) (by decide) (by decide), mulOkR (b := 2 * spot + 5231) (by lia) (by lia), mulOkL (a := 829) (by decide) (by decide), mulOkR (b := spot) hs.1 (by lia),
          by decide, ⟨by decide, PyProof.noPylong_small (by decide)⟩, h0, fin _ rest (spot + 1) s0 (Int.le_refl _)⟩
      · intro Qm k
        refine ⟨by rw [List.length_map]; lia, ?_⟩
        refine Way.by (c := decide (spot < ((cells.map V.int).length : Int))) (fun h2 => ?_) fun h2 => k _ ⟨_, rfl⟩
        refine ⟨⟨by decide, by decide +kernel⟩, ?_⟩
        refine Way.by (c := decide ((10 : Int) ^ (18 : Int).toNat ≤ if cell < 0 then -cell else cell)) (fun h3 => ?_) fun h3 => k _ ⟨_, rfl⟩
        exact ⟨⟨by decide, by decide +kernel⟩, ⟨h0, hdm _⟩, setN 2 rfl (Nat.le_refl 3) (by decide) ⟨h0, fin _ _ (spot + 1) s0 (Int.le_refl _)⟩⟩
    · intro Qm k
      refine ⟨ints_dat cells, ints_dat [], ?_⟩
      cases cells with
      | nil => exact k _ ⟨_, rfl⟩
      | cons c cs =>
        have hl : (List.map V.int (c :: cs)).length ≤ 100000 := by rw [List.length_map]; lia
        have hp : 0 < (((List.map V.int (c :: cs)).length : Nat) : Int) := Int.natCast_pos.mpr (Nat.succ_pos _)
        have g1 := Int.fmod_nonneg_of_pos spot hp
        have g2 := Int.fmod_lt_of_pos spot hp
        refine ⟨hl, Int.ne_of_gt hp, ?_⟩
        have g3 : (spot.fmod ((List.map V.int (c :: cs)).length : Int)).toNat < (c :: cs).length := by rw [List.length_map] at *; lia
        exact ⟨_, .lst _ _ rfl rfl g1 (by lia) (by rw [List.getElem?_map, List.getElem?_eq_getElem g3]; rfl), k _ ⟨_, rfl⟩⟩
theorem pen_ok (w : World) (l : List Int) (hl : l.length ≤ 90000) : Fn (GL w) 1 560 [.lst (l.map V.int)] (fun r => r = .fresh (penV (l.take 48) 0 0)) := by
  refine d__law_pen.2.fn rfl ?_
  refine ⟨_, none, some 48, rfl, by rw [List.length_map]; lia, rfl, rfl, ?_⟩
  rw [pick_to _ _ (by decide), ← List.map_take]
  exact LoopC.maps V.int V.int (fun o => [none, o, none]) none rfl (Nat.le_trans (List.length_take_le ..) (by decide)) (fun m _ o acc K B ha hK => ⟨ha, hK _⟩) fun o => rfl

end Mine

end
section
-- F14
open PySem PySem.W PySem.Calls PyProof.Rows
set_option Elab.async false
set_option linter.all false
set_option maxRecDepth 100000
set_option maxHeartbeats 4000000
set_option genInjectivity false
set_option genSizeOfSpec false
namespace Mine
/-- what may be drawn -/
noncomputable def N.drawn : N → Nat → Nat → Prop
  | .empty, _, _ => True
  | .never, _, _ => True
  | .chars t, _, _ => t ∈ T7
  | .cat l r, d, k => 0 < d ∧ l.drawn (d - 1) k ∧ r.drawn (d - 1) k
  | .alt l r, d, k => 0 < d ∧ l.drawn (d - 1) k ∧ r.drawn (d - 1) k
  | .star b, d, k => 0 < d ∧ 0 < k ∧ b.drawn (d - 1) (k - 1)
  | .plus b, d, k => 0 < d ∧ 0 < k ∧ b.drawn (d - 1) (k - 1)
  | .opt b, d, k => 0 < d ∧ 0 < k ∧ b.drawn (d - 1) (k - 1)
  | .rep b lo hi, d, k => 0 < d ∧ 0 < k ∧ b.drawn (d - 1) (k - 1) ∧ 0 ≤ lo ∧ lo ≤ 3 ∧ ∀ h, hi = some h → lo ≤ h ∧ h ≤ 40
noncomputable def tdraws : Nat → Int
  | 0 => 3
  | d + 1 => 4 + 2 * tdraws d
theorem tdraws_pos : ∀ d, 3 ≤ tdraws d
  | 0 => by decide
  | d + 1 => by have := tdraws_pos d; simp only [tdraws]; lia
inductive TreeQ (cells : List Int) (B : Int) (dp k : Nat) (v : V) (vs' : List V) : Prop
  | mk (n : N) (sp rs : Int) (e : v = n.tv) (hn : n.drawn dp k) (e2 : vs' = penV cells sp rs) (s1 : 0 ≤ sp) (s2 : sp ≤ B)
theorem LendP.of {w : World} {d d' : Nat} {a : Addr} {us vs : List V} {Q Q' : V → List V → Prop} (h : FnP (GL w) d' a us vs Q) (hd : d' ≤ d) (q : ∀ v vs', Q v vs' → Q' v vs') : LendP w d a us vs Q' := ⟨h.mono hd q⟩
theorem ifCut {T : DB} {D D2 : DS} {w : World} {d : Nat} {ρ : Env'} {Qn : Env' → Prop} {Qr : R → Env' → Prop} (I : Bool → Env' → Prop) (h : ∀ Q : Bool → Env' → Prop, (∀ c ρ₁, I c ρ₁ → Q c ρ₁) → T w d ρ Q) (rest : ∀ c ρ₁, I c ρ₁ → Way c (D w d ρ₁ Qn Qr) (D2 w d ρ₁ Qn Qr)) : sIf T D D2 w d ρ Qn Qr := h _ rest
theorem itemN {Q : V → Prop} {us : List V} {u : V} (n : Nat) (h : us[n]? = some u) (h63 : (n : Int) < 2 ^ 63) (q : Q u) : ItemP Q (.lst us) (.int n) := ⟨u, .lst us n rfl rfl (Int.natCast_nonneg n) h63 h, q⟩
theorem upto {x : Int} (m : Nat) (h1 : 0 ≤ x) (h2 : x < m) : ∃ n : Nat, x = n ∧ n < m := ⟨x.toNat, (Int.toNat_of_nonneg h1).symm, (Int.toNat_lt h1).mpr h2⟩
theorem nat3 : ∀ n < 3, n = 0 ∨ n = 1 ∨ n = 2 := by decide
theorem nat4 : ∀ n < 4, n = 0 ∨ n = 1 ∨ n = 2 ∨ n = 3 := by decide
theorem nat9 : ∀ n < 9, n = 0 ∨ n = 1 ∨ n = 2 ∨ n = 3 ∨ n = 4 ∨ n = 5 ∨ n = 6 ∨ n = 7 ∨ n = 8 := by decide
theorem tree_step (w : World) (cells : List Int) (hc : cells.length ≤ 48) (dp k : Nat) (spot rest : Int) (h0 : 0 ≤ spot) (hs : spot + tdraws dp ≤ 900) (T : Int) (hT : 0 < dp → tdraws dp = 4 + 2 * T ∧ 3 ≤ T)
    (ih : ∀ (k : Nat) (x spot rest : Int), 0 < dp → x = k → 0 ≤ spot → spot + T ≤ 900 → FnP (GL w) (dp + 1) 574 [.int ((dp : Int) - 1), .int x] (penV cells spot rest) (TreeQ cells (spot + T) (dp - 1) k)) :
    FnP (GL w) (dp + 2) 574 [.int dp, .int k] (penV cells spot rest) (TreeQ cells (spot + tdraws dp) dp k) := by
  have hp := tdraws_pos dp
  have dd : 1 ≤ dp + 1 := Nat.succ_le_succ (Nat.zero_le _)
  refine d__law_tree.2.fn rfl ?_
  refine LendP.of (draw_ok w cells spot rest 10 hc (by lia) (by decide)) dd ?_
  rintro v vs' ⟨way, sp1, rs1, rfl, w1, w2, rfl, s1, s2⟩
  refine ifCut (fun b ρ => ρ = [some (Slot.own (penV cells sp1 rs1)), some (Slot.val (.int dp)), some (Slot.val (.int k)), some (Slot.val (.int way)), none, none, none, none, none] ∧ (b = false → 0 < dp ∧ 3 ≤ way ∧ (6 < way → 0 < k))) ?_ ?_
  · intro Q q
    refine Way.by (c := (dp : Int) == 0) (fun h => q _ _ ⟨rfl, fun e => nomatch e⟩) fun h1 => ?_
    refine Way.by (c := decide (way < 3)) (fun h => q _ _ ⟨rfl, fun e => nomatch e⟩) fun h2 => ?_
    have h1 := ne_of_beq_false h1
    have h2 := of_decide_eq_false h2
    refine Way.by (c := decide (way > 6)) (fun h3 => ?_) fun h3 => ?_
    · refine Way.by (c := (k : Int) == 0) (fun h => q _ _ ⟨rfl, fun e => nomatch e⟩) fun h4 => ?_
      have h4 := ne_of_beq_false h4
      exact q _ _ ⟨rfl, fun _ => ⟨by lia, by lia, fun _ => by lia⟩⟩
    · have h3 := of_decide_eq_false h3
      exact q _ _ ⟨rfl, fun _ => ⟨by lia, by lia, fun h => (h3 h).elim⟩⟩
  · rintro (_ | _) ρ ⟨rfl, hb⟩
    · obtain ⟨hd, hw3, hwk⟩ := hb rfl
      obtain ⟨hT1, hT2⟩ := hT hd
      rw [hT1] at hs ⊢
      refine Way.by (c := decide (way < 6)) (fun h => ?_) fun h6 => ?_
      · refine LendP.of (ih k k sp1 rs1 hd rfl s1 (by lia)) (Nat.le_refl _) ?_
        rintro v vs' ⟨n1, sp2, rs2, rfl, d1, rfl, t1, t2⟩
        refine LendP.of (ih k k sp2 rs2 hd rfl t1 (by lia)) (Nat.le_refl _) ?_
        rintro v vs' ⟨n2, sp3, rs3, rfl, d2, rfl, u1, u2⟩
        exact ⟨.cat n1 n2, sp3, rs3, rfl, ⟨hd, d1, d2⟩, rfl, u1, by lia⟩
      have h6 := of_decide_eq_false h6
      refine Way.by (c := decide (way < 7)) (fun h => ?_) fun h7 => ?_
      · refine LendP.of (ih k k sp1 rs1 hd rfl s1 (by lia)) (Nat.le_refl _) ?_
        rintro v vs' ⟨n1, sp2, rs2, rfl, d1, rfl, t1, t2⟩
        refine LendP.of (ih k k sp2 rs2 hd rfl t1 (by lia)) (Nat.le_refl _) ?_
        rintro v vs' ⟨n2, sp3, rs3, rfl, d2, rfl, u1, u2⟩
        exact ⟨.alt n1 n2, sp3, rs3, rfl, ⟨hd, d1, d2⟩, rfl, u1, by lia⟩
      have h7 := of_decide_eq_false h7
      have hk := hwk (by lia)
      have hk1 : (k : Int) - 1 = ((k - 1 : Nat) : Int) := by lia
      refine Way.by (c := decide (way < 9)) (fun h => ?_) fun h9 => ?_
      · refine LendP.of (draw_ok w cells sp1 rs1 3 hc (by lia) (by decide)) dd ?_
        rintro v vs' ⟨x, sp2, rs2, rfl, x1, x2, rfl, t1, t2⟩
        have sub := ih (k - 1) ((k : Int) - 1) sp2 rs2 hd hk1 t1 (by lia)
        have hB : sp2 + T + T ≤ spot + (4 + 2 * T) := by lia
        obtain ⟨n, rfl, hn⟩ := upto 3 x1 x2
        rcases nat3 n hn with rfl | rfl | rfl
        · exact itemN 0 rfl (by decide) (LendP.of sub (Nat.le_refl _) fun v vs' ⟨n1, sp3, rs3, e, d1, e2, u1, u2⟩ => ⟨.star n1, sp3, rs3, congrArg (fun v => V.tup [.str "star", v]) e, ⟨hd, hk, d1⟩, e2, u1, by lia⟩)
        · exact itemN 1 rfl (by decide) (LendP.of sub (Nat.le_refl _) fun v vs' ⟨n1, sp3, rs3, e, d1, e2, u1, u2⟩ => ⟨.plus n1, sp3, rs3, congrArg (fun v => V.tup [.str "plus", v]) e, ⟨hd, hk, d1⟩, e2, u1, by lia⟩)
        · exact itemN 2 rfl (by decide) (LendP.of sub (Nat.le_refl _) fun v vs' ⟨n1, sp3, rs3, e, d1, e2, u1, u2⟩ => ⟨.opt n1, sp3, rs3, congrArg (fun v => V.tup [.str "opt", v]) e, ⟨hd, hk, d1⟩, e2, u1, by lia⟩)
      · refine LendP.of (draw_ok w cells sp1 rs1 4 hc (by lia) (by decide)) dd ?_
        rintro v vs' ⟨lo, sp2, rs2, rfl, l1, l2, rfl, t1, t2⟩
        refine LendP.of (ih (k - 1) ((k : Int) - 1) sp2 rs2 hd hk1 t1 (by lia)) (Nat.le_refl _) ?_
        rintro v vs' ⟨n1, sp3, rs3, rfl, d1, rfl, u1, u2⟩
        have fin : ∀ hi, (∀ h, hi = some h → lo ≤ h ∧ h ≤ 40) → (N.rep n1 lo hi).drawn dp k := fun hi h => ⟨hd, hk, d1, l1, by lia, h⟩
        have all : ∀ (m : Int) {Q : V → List V → Prop}, 0 ≤ m ∧ m ≤ 40 → (∀ hi, (N.rep n1 lo hi).drawn dp k → ∀ sp rs, 0 ≤ sp → sp ≤ sp3 + 1 → Q (hiV hi) (penV cells sp rs)) →
            LendP w (dp + 1) 567 [.int 4] (penV cells sp3 rs3) fun v vs' => ItemP (fun u => Q u vs') (.lst [.int lo, .int (lo + 1), .none, .int (max lo m)]) v := by
          intro m Q hm q
          refine LendP.of (draw_ok w cells sp3 rs3 4 hc (by lia) (by decide)) dd ?_
          rintro v vs' ⟨x, sp4, rs4, rfl, x1, x2, rfl, y1, y2⟩
          obtain ⟨n, rfl, hn⟩ := upto 4 x1 x2
          rcases nat4 n hn with rfl | rfl | rfl | rfl
          · exact itemN 0 rfl (by decide) (q (some lo) (fin _ fun h e => by cases e; lia) _ _ y1 y2)
          · exact itemN 1 rfl (by decide) (q (some (lo + 1)) (fin _ fun h e => by cases e; lia) _ _ y1 y2)
          · exact itemN 2 rfl (by decide) (q none (fin _ fun h e => nomatch e) _ _ y1 y2)
          · exact itemN 3 rfl (by decide) (q (some (max lo m)) (fin _ fun h e => by cases e; lia) _ _ y1 y2)
        have hB : sp3 + 1 ≤ spot + (4 + 2 * T) := by lia
        refine Way.by (c := (k : Int) == 2) (fun h => ?_) fun h => ?_
        · exact all 40 (by decide) fun hi hn sp rs y1 y2 => ⟨.rep n1 lo hi, sp, rs, rfl, hn, rfl, y1, Int.le_trans y2 hB⟩
        · exact all 2 (by decide) fun hi hn sp rs y1 y2 => ⟨.rep n1 lo hi, sp, rs, rfl, hn, rfl, y1, Int.le_trans y2 hB⟩
    · refine LendP.of (draw_ok w cells sp1 rs1 9 hc (by lia) (by decide)) dd ?_
      rintro v vs' ⟨leaf, sp2, rs2, rfl, l1, l2, rfl, t1, t2⟩
      have hB : sp2 ≤ spot + tdraws dp := by lia
      obtain ⟨n, rfl, hn⟩ := upto 9 l1 l2
      rcases nat9 n hn with rfl | rfl | rfl | rfl | rfl | rfl | rfl | rfl | rfl
      · exact itemN 0 rfl (by decide) ⟨.chars "a", sp2, rs2, rfl, .head _, rfl, t1, hB⟩
      · exact itemN 1 rfl (by decide) ⟨.chars "b", sp2, rs2, rfl, .tail _ (.head _), rfl, t1, hB⟩
      · exact itemN 2 rfl (by decide) ⟨.chars "c", sp2, rs2, rfl, .tail _ (.tail _ (.head _)), rfl, t1, hB⟩
      · exact itemN 3 rfl (by decide) ⟨.chars "ab", sp2, rs2, rfl, .tail _ (.tail _ (.tail _ (.head _))), rfl, t1, hB⟩
      · exact itemN 4 rfl (by decide) ⟨.chars "bc", sp2, rs2, rfl, .tail _ (.tail _ (.tail _ (.tail _ (.head _)))), rfl, t1, hB⟩
      · exact itemN 5 rfl (by decide) ⟨.chars "abc", sp2, rs2, rfl, .tail _ (.tail _ (.tail _ (.tail _ (.tail _ (.head _))))), rfl, t1, hB⟩
      · exact ⟨.empty, sp2, rs2, rfl, trivial, rfl, t1, hB⟩
      · exact ⟨.never, sp2, rs2, rfl, trivial, rfl, t1, hB⟩
      · exact itemN 8 rfl (by decide) ⟨.chars "", sp2, rs2, rfl, .tail _ (.tail _ (.tail _ (.tail _ (.tail _ (.tail _ (.head _)))))), rfl, t1, hB⟩
theorem tree_ok (w : World) (cells : List Int) (hc : cells.length ≤ 48) : ∀ (dp k : Nat) (spot rest : Int), 0 ≤ spot → spot + tdraws dp ≤ 900 → FnP (GL w) (dp + 2) 574 [.int dp, .int k] (penV cells spot rest) (TreeQ cells (spot + tdraws dp) dp k)
  | 0, k, spot, rest, h0, hs => tree_step w cells hc 0 k spot rest h0 hs 0 (fun h => absurd h (Nat.lt_irrefl 0)) fun _ _ _ _ h => absurd h (Nat.lt_irrefl 0)
  | dp + 1, k, spot, rest, h0, hs => tree_step w cells hc (dp + 1) k spot rest h0 hs (tdraws dp) (fun _ => ⟨rfl, tdraws_pos dp⟩) fun k x spot rest _ e h0 hs => by
    have h := tree_ok w cells hc dp k spot rest h0 hs
    rw [e, show ((dp + 1 : Nat) : Int) - 1 = (dp : Int) by lia]
    exact h

end Mine

end
section
-- F15
open PySem PySem.W PySem.Calls PyProof.Rows
set_option Elab.async false
set_option linter.all false
set_option maxRecDepth 100000
set_option maxHeartbeats 4000000
set_option genInjectivity false
set_option genSizeOfSpec false
namespace Mine
noncomputable def wV : Option (List Nat) → V
  | none => .none
  | some l => .str (sOf l)
noncomputable def wlt (x y : List Nat) : Bool := if (x.length : Int) = (y.length : Int) then decide (x < y) else decide ((x.length : Int) < (y.length : Int))
noncomputable def wmin : Option (List Nat) → Option (List Nat) → Option (List Nat)
  | none, o => o
  | o, none => o
  | some a, some b => if wlt b a then some b else some a
noncomputable def wcat : Option (List Nat) → Option (List Nat) → Option (List Nat)
  | some a, some b => some (a ++ b)
  | _, _ => none
noncomputable def N.lword : N → Option (List Nat)
  | .empty => some []
  | .never => none
  | .chars t => match t.cps.toList with
    | [] => none
    | c :: _ => some [c]
  | .cat l r => wcat l.lword r.lword
  | .alt l r => wmin l.lword r.lword
  | .star _ => some []
  | .plus b => b.lword
  | .opt _ => some []
  | .rep b lo _ => match b.lword with
    | none => if lo == 0 then some [] else none
    | some x => some (rept lo x)
noncomputable def N.wlen : N → Nat
  | .empty => 0
  | .never => 0
  | .chars _ => 1
  | .cat l r => l.wlen + r.wlen
  | .alt l r => max l.wlen r.wlen
  | .star _ => 0
  | .plus b => b.wlen
  | .opt _ => 0
  | .rep b lo _ => max b.wlen (lo.toNat * b.wlen)
theorem rept_len (n : Int) (l : List Nat) : (rept n l).length = n.toNat * l.length := by simp [rept]
theorem rept_nil (n : Int) : rept n [] = [] := by
  apply List.length_eq_zero_iff.mp; simp [rept_len]
theorem wmin_or {a b : Option (List Nat)} {x : List Nat} (h : wmin a b = some x) : a = some x ∨ b = some x := by
  cases a with
  | none => exact .inr h
  | some a => cases b with
    | none => exact .inl h
    | some b =>
      simp only [wmin] at h
      split at h
      · exact .inr h
      · exact .inl h
theorem lword_len : ∀ n : N, ∀ x, n.lword = some x → x.length ≤ n.wlen := by
  intro n
  induction n with
  | empty => intro x h; cases h; exact Nat.zero_le _
  | never => intro x h; cases h
  | chars t =>
    intro x h
    rw [N.lword] at h
    cases e : t.cps.toList with
    | nil => rw [e] at h; cases h
    | cons c cs => rw [e] at h; cases h; exact Nat.le_refl _
  | cat l r ih1 ih2 =>
    intro x h
    rw [N.lword] at h
    cases e1 : l.lword with
    | none => rw [e1] at h; cases h
    | some a =>
      cases e2 : r.lword with
      | none => rw [e1, e2] at h; cases h
      | some b =>
        rw [e1, e2] at h; cases h
        exact Nat.le_trans (Nat.le_of_eq List.length_append) (Nat.add_le_add (ih1 _ e1) (ih2 _ e2))
  | alt l r ih1 ih2 => exact fun x h => (wmin_or h).elim (fun h => Nat.le_trans (ih1 x h) (Nat.le_max_left ..)) fun h => Nat.le_trans (ih2 x h) (Nat.le_max_right ..)
  | star b _ => intro x h; cases h; exact Nat.zero_le _
  | plus b ih => exact ih
  | opt b _ => intro x h; cases h; exact Nat.zero_le _
  | rep b lo hi ih =>
    intro x h
    rw [N.lword] at h
    cases e : b.lword with
    | none =>
      rw [e] at h
      replace h : (if lo == 0 then some [] else none) = some x := h
      split at h
      · cases h; exact Nat.zero_le _
      · cases h
    | some y =>
      rw [e] at h
      cases h
      rw [rept_len]
      exact Nat.le_trans (Nat.mul_le_mul_left lo.toNat (ih _ e)) (Nat.le_max_right ..)
theorem sOf_len (l : List Nat) : (sOf l).length = l.length := List.size_toArray ..
theorem wlt_nil (x : List Nat) : wlt x [] = false := by
  unfold wlt
  cases x with
  | nil => rfl
  | cons a x => rw [if_neg (by simp; lia)]; simp; lia
theorem wlt_cons (a : Nat) (x : List Nat) : wlt [] (a :: x) = true := by
  unfold wlt; rw [if_neg (by simp; lia)]; simp; try lia
theorem canE_lword : ∀ n : N, n.wf → n.canE = true → n.lword = some [] := by
  intro n
  induction n with
  | empty => intro _ _; rfl
  | never => intro _ h; cases h
  | chars t => intro _ h; cases h
  | cat l r ih1 ih2 =>
    intro hw h
    have h := Bool.and_eq_true_iff.mp h
    rw [N.lword, ih1 hw.1 h.1, ih2 hw.2 h.2]; rfl
  | alt l r ih1 ih2 =>
    intro hw h
    have h := (Bool.or_eq_true_iff ..).mp h
    rw [N.lword]
    by_cases h1 : l.canE = true
    · rw [ih1 hw.1 h1]
      cases r.lword with
      | none => rfl
      | some b => rw [wmin, wlt_nil]; rfl
    · rw [ih2 hw.2 (h.resolve_left h1)]
      cases l.lword with
      | none => rfl
      | some a => cases a with
        | nil => rfl
        | cons c a => rw [wmin, wlt_cons]; rfl
  | star b _ => intro _ _; rfl
  | plus b ih => exact ih
  | opt b _ => intro _ _; rfl
  | rep b lo hi ih =>
    intro hw h
    have h := (Bool.or_eq_true_iff ..).mp h
    rw [N.lword]
    rcases h with h | h
    · cases b.lword with
      | none => exact if_pos h
      | some y => rw [eq_of_beq h]; rfl
    · rw [ih hw.1 h]; exact congrArg some (rept_nil lo)
noncomputable def wcons : Option (List Nat) → Option (List (List Nat)) → Option (List (List Nat))
  | some a, some ws => some (a :: ws)
  | _, _ => none
noncomputable def catWs : List N → Option (List (List Nat))
  | [] => some []
  | m :: ms => wcons m.lword (catWs ms)
theorem map_wcons (a : Option (List Nat)) (ws : Option (List (List Nat))) : (wcons a ws).map List.flatten = wcat a (ws.map List.flatten) := by cases a <;> cases ws <;> rfl
theorem wcat_assoc (a b c : Option (List Nat)) : wcat (wcat a b) c = wcat a (wcat b c) := by
  cases a <;> cases b <;> cases c <;> first | rfl | exact congrArg some (List.append_assoc ..)
theorem wcat_nil (a : Option (List Nat)) : wcat a (some []) = a := by
  cases a with
  | none => rfl
  | some a => exact congrArg some (List.append_nil a)
theorem catWs_one (r : N) : ∀ xs : List N, (catWs (xs ++ [r])).map List.flatten = wcat ((catWs xs).map List.flatten) r.lword
  | [] => (map_wcons ..).trans ((wcat_nil _).trans (by cases r.lword <;> rfl))
  | x :: xs => by rw [List.cons_append, catWs, map_wcons, catWs_one r xs, catWs, map_wcons, wcat_assoc]
theorem lword_C : ∀ n : N, n.lword = (catWs (spineC n)).map List.flatten := by
  intro n
  have other : ∀ n : N, n.lword = (catWs [n]).map List.flatten := fun n => ((map_wcons ..).trans (wcat_nil _)).symm
  induction n with
  | cat l r ih _ => rw [N.lword, spineC, catWs_one, ih]
  | _ => exact other _
noncomputable def wfold (o : Option (List Nat)) (m : N) : Option (List Nat) := wmin o m.lword
theorem lword_A : ∀ n : N, (spineA n).foldl wfold none = n.lword := by
  intro n
  induction n with
  | alt l r ih _ => rw [N.lword, spineA, List.foldl_append, ih]; rfl
  | _ => rfl
structure LwOk (n : N) : Prop where
  wf : n.wf
  len : n.wlen ≤ 4000
  lv : ∀ t ∈ n.leaves, t ∈ T7
theorem LwOk.C : ∀ n : N, LwOk n → ∀ m ∈ spineC n, LwOk m := by
  intro n
  induction n with
  | cat l r ih _ =>
    intro h m hm
    rcases List.mem_append.mp hm with hm | hm
    · exact ih ⟨h.wf.1, Nat.le_trans (Nat.le_add_right ..) h.len, fun t q => h.lv t (List.mem_append_left _ q)⟩ m hm
    · exact List.mem_singleton.mp hm ▸ ⟨h.wf.2, Nat.le_trans (Nat.le_add_left ..) h.len, fun t q => h.lv t (List.mem_append_right _ q)⟩
  | _ => intro h m hm; exact List.mem_singleton.mp hm ▸ h
theorem LwOk.A : ∀ n : N, LwOk n → ∀ m ∈ spineA n, LwOk m := by
  intro n
  induction n with
  | alt l r ih _ =>
    intro h m hm
    rcases List.mem_append.mp hm with hm | hm
    · exact ih ⟨h.wf.1, Nat.le_trans (Nat.le_max_left ..) h.len, fun t q => h.lv t (List.mem_append_left _ q)⟩ m hm
    · exact List.mem_singleton.mp hm ▸ ⟨h.wf.2, Nat.le_trans (Nat.le_max_right ..) h.len, fun t q => h.lv t (List.mem_append_right _ q)⟩
  | _ => intro h m hm; exact List.mem_singleton.mp hm ▸ h
theorem T7_le : ∀ t ∈ T7, ∀ c ∈ t.cps.toList, c ≤ 127 := by decide +kernel
theorem lword_ok (w : World) : ∀ (k : Nat) (n : N), n.size ≤ k → k ≤ 1000 → LwOk n → Fn (GL w) (n.size + 2) 361 [n.v] (fun r => r = .val (wV n.lword)) := by
  intro k
  induction k with
  | zero => intro n hn; have := n.pos; lia
  | succ k ih =>
    intro n hn hk hw
    refine d_least_word.2.fn rfl ?_
    have can := can_ok w 1000 n (Nat.le_trans hn hk) (Nat.le_refl _)
    cases hc : n.canE with
    | true =>
      have hl := canE_lword n hw.wf hc
      rw [hc] at can
      rw [hl]
      cases n with
      | never => cases hc
      | chars t => cases hc
      | _ => exact CallP.of can (Nat.le_refl _) rfl
    | false =>
      rw [hc] at can
      cases n with
      | empty => cases hc
      | star b => cases hc
      | opt b => cases hc
      | never => exact rfl
      | chars t =>
        refine (m_isEmpty w t).of (Nat.succ_le_succ (Nat.zero_le _)) ?_
        rw [show t.cps.size = t.cps.toList.length from Array.length_toList.symm, N.lword]
        have l := m_least w t
        have h7 := T7_le t (hw.lv t (.head _))
        unfold leastOf at l
        cases e : t.cps.toList with
        | nil => exact rfl
        | cons c cs =>
          rw [e] at l h7
          have := h7 c (.head _)
          exact l.of (Nat.succ_le_succ (Nat.zero_le _)) ⟨c, rfl, ⟨Int.natCast_nonneg c, by lia⟩, rfl⟩
      | plus b =>
        refine CallP.of can (Nat.le_refl _) ?_
        refine CallP.of (ih b (Nat.le_of_succ_le_succ hn) (Nat.le_of_succ_le hk) ⟨hw.wf, hw.len, hw.lv⟩) (Nat.le_refl _) ?_
        rw [N.lword]
        cases b.lword <;> exact rfl
      | rep b lo hi =>
        refine CallP.of can (Nat.le_refl _) ?_
        have hz := Nat.le_trans (Nat.le_max_left ..) hw.len
        refine CallP.of (ih b (Nat.le_of_succ_le_succ hn) (Nat.le_of_succ_le hk) ⟨hw.wf.1, hz, hw.lv⟩) (Nat.le_refl _) ?_
        rw [N.lword]
        cases hb : b.lword with
        | none => rw [show (lo == 0) = false from (Bool.or_eq_false_iff.mp hc).1]; exact rfl
        | some j =>
          have := lword_len b j hb
          have h40 := hw.wf.2.2.1
          exact ⟨j, lo, rfl, rfl, ⟨Nat.le_trans this hz, hw.wf.2.1, by lia⟩, rfl⟩
      | cat l r =>
        refine CallP.of can (Nat.le_refl _) ?_
        refine CallP.of (spine_ok w (.cat l r) (Nat.le_trans hn hk)) (Nat.succ_le_succ (Nat.zero_le _)) ?_
        have hrow := Nat.le_trans (row_len (.cat l r) (.cat l r)) (Nat.le_trans hn hk)
        have tot := lword_C (.cat l r)
        refine LoopI.nodes (fun ms ρ => (∀ m ∈ ms, LwOk m ∧ m.size + 1 ≤ (N.cat l r).size) ∧ ∃ (ws : List (List Nat)) (o o1 : Option Slot), (catWs ms).map (ws ++ ·) = catWs (spineC (.cat l r)) ∧ ws.length + ms.length ≤ 1000 ∧ (∀ x ∈ ws, x.length ≤ 4000) ∧ ρ = [some (Slot.val (N.cat l r).v), some (Slot.own (wsV ws)), o, o1, none, none, none, none, none, none])
          ⟨fun m hm => ⟨LwOk.C _ hw m hm, (mem_spineC (.cat l r) m hm).2 ⟨_, _, rfl⟩⟩, [], _, _, ?_, Nat.le_trans (Nat.le_of_eq (Nat.zero_add _)) hrow, fun x h => (List.not_mem_nil h).elim, rfl⟩ ?_ ?_
        · exact Option.map_id' ..
        · rintro u us ρ ⟨ns, e, h1, ws, o, o1, h2, h3, h4, rfl⟩
          obtain ⟨m, ms, rfl, rfl, rfl⟩ := nodes_cons e
          have hm := h1 m (.head _)
          refine CallP.of (ih m (by lia) (by lia) hm.1) (Nat.succ_le_succ hm.2) ?_
          rw [catWs] at h2
          rw [List.length_cons] at h3
          cases hl : m.lword with
          | none =>
            rw [hl] at h2
            rw [tot, ← h2]; exact rfl
          | some j =>
            rw [hl] at h2
            refine ⟨by rw [List.length_map]; lia, ms, rfl, fun q hq => h1 q (.tail _ hq), ws ++ [j], _, _, ?_, ?_, ?_, congrArg (fun us => [some (Slot.val (N.cat l r).v), some (Slot.own us), some (.val m.v), some (.val (wV (some j))), none, none, none, none, none, none]) (List.map_append (f := fun l => V.str (sOf l)) (l₁ := ws) (l₂ := [j])).symm⟩
            · rw [← h2]; cases catWs ms <;> simp [wcons]
            · rw [List.length_append, List.length_singleton]; lia
            · intro x hx
              rcases List.mem_append.mp hx with hx | hx
              · exact h4 x hx
              · exact List.mem_singleton.mp hx ▸ Nat.le_trans (lword_len m j hl) hm.1.len
        · rintro ρ ⟨h1, ws, o, o1, h2, h3, h4, rfl⟩
          refine ⟨ws, rfl, h3, h4, ?_⟩
          rw [tot, ← h2]; exact congrArg (fun l : List (List Nat) => R.val (.str (sOf l.flatten))) (List.append_nil ws).symm
      | alt l r =>
        refine CallP.of can (Nat.le_refl _) ?_
        refine CallP.of (spine_ok w (.alt l r) (Nat.le_trans hn hk)) (Nat.succ_le_succ (Nat.zero_le _)) ?_
        refine LoopI.nodes (fun ms ρ => (∀ m ∈ ms, LwOk m ∧ m.size + 1 ≤ (N.alt l r).size) ∧ ∃ (a : Option (List Nat)) (o o1 : Option Slot), ms.foldl wfold a = (N.alt l r).lword ∧ (∀ x, a = some x → x.length ≤ 4000) ∧ ρ = [some (Slot.val (N.alt l r).v), none, o, o1, some (Slot.val (wV a)), none, none, none, none, none])
          ⟨fun m hm => ⟨LwOk.A _ hw m hm, (mem_spineA (.alt l r) m hm).2 ⟨_, _, rfl⟩⟩, none, _, _, lword_A _, (fun x h => by cases h), rfl⟩ ?_ ?_
        · rintro u us ρ ⟨ns, e, h1, a, o, o1, h2, h4, rfl⟩
          obtain ⟨m, ms, rfl, rfl, rfl⟩ := nodes_cons e
          have hm := h1 m (.head _)
          have h1' : ∀ q ∈ ms, LwOk q ∧ q.size + 1 ≤ (N.alt l r).size := fun q hq => h1 q (.tail _ hq)
          refine CallP.of (ih m (by lia) (by lia) hm.1) (Nat.succ_le_succ hm.2) ?_
          replace h2 : ms.foldl wfold (wmin a m.lword) = (N.alt l r).lword := h2
          cases hl : m.lword with
          | none => rw [hl] at h2; exact ⟨ms, rfl, h1', a, _, _, by rw [← h2]; cases a <;> rfl, h4, rfl⟩
          | some j =>
            have hj := Nat.le_trans (lword_len m j hl) hm.1.len
            rw [hl] at h2
            cases a with
            | none => exact ⟨ms, rfl, h1', some j, _, _, h2, fun x e => by cases e; exact hj, rfl⟩
            | some i =>
              have hi := h4 i rfl
              refine ⟨by rw [sOf_len]; lia, by rw [sOf_len]; lia, _, _, j, i, rfl, rfl, ?_⟩
              rw [sOf_len, sOf_len]
              refine Way.by (c := wlt j i) (fun h => ?_) fun h => ?_
              · exact ⟨ms, rfl, h1', some j, _, _, by rw [← h2, wmin, if_pos h], fun x e => by cases e; exact hj, rfl⟩
              · exact ⟨ms, rfl, h1', some i, _, _, by rw [← h2, wmin, if_neg (by rw [h]; decide)], h4, rfl⟩
        · rintro ρ ⟨h1, a, o, o1, h2, h4, rfl⟩
          exact congrArg (fun a => R.val (wV a)) h2

end Mine

end
section
-- G1
open PySem PySem.W PySem.Calls PyProof.Rows
set_option Elab.async false
set_option linter.all false
set_option maxRecDepth 100000
set_option maxHeartbeats 4000000
set_option genInjectivity false
set_option genSizeOfSpec false
namespace Mine
noncomputable abbrev WW := List (List Nat)
noncomputable def catF (A B : Nat → WW) (p : Nat) : WW := (A p).flatMap fun u => (B p).map (u ++ ·)
noncomputable def catN (A B : Nat → WW) (m : Nat) : WW := (List.range m).flatMap (catF A B)
theorem flatMap_len {α β : Type} (f : α → List β) (N : Nat) : ∀ (l : List α), (∀ x ∈ l, (f x).length ≤ N) → (l.flatMap f).length ≤ l.length * N
  | [], _ => by simp
  | x :: l, h => by
    have h1 := h x (.head _)
    have h2 := flatMap_len f N l fun y hy => h y (.tail _ hy)
    rw [List.flatMap_cons, List.length_append, List.length_cons, Nat.succ_mul]; lia
theorem catF_len {A B : Nat → WW} {p a b : Nat} (ha : (A p).length ≤ a) (hb : (B p).length ≤ b) : (catF A B p).length ≤ a * b :=
  Nat.le_trans (flatMap_len _ b _ fun u _ => by rw [List.length_map]; exact hb) (Nat.mul_le_mul_right _ ha)
theorem catN_len {A B : Nat → WW} {m a b : Nat} (ha : ∀ p < m, (A p).length ≤ a) (hb : ∀ p < m, (B p).length ≤ b) : (catN A B m).length ≤ m * (a * b) := by
  have := flatMap_len (catF A B) (a * b) (List.range m) fun p hp => catF_len (ha p (List.mem_range.mp hp)) (hb p (List.mem_range.mp hp))
  rw [List.length_range] at this
  exact this
theorem catN_succ (A B : Nat → WW) (m : Nat) : catN A B (m + 1) = catN A B m ++ catF A B m := by
  unfold catN; rw [List.range_succ, List.flatMap_append]; simp
theorem mem_catN {A B : Nat → WW} {m : Nat} {x : List Nat} : x ∈ catN A B m ↔ ∃ p < m, ∃ u ∈ A p, ∃ v ∈ B p, x = u ++ v := by
  unfold catN catF
  simp only [List.mem_flatMap, List.mem_range, List.mem_map]
  constructor
  · rintro ⟨p, hp, u, hu, v, hv, rfl⟩; exact ⟨p, hp, u, hu, v, hv, rfl⟩
  · rintro ⟨p, hp, u, hu, v, hv, rfl⟩; exact ⟨p, hp, u, hu, v, hv, rfl⟩
/-- m words of a language, one after another -/
noncomputable def Pow (L : List Nat → Prop) : Nat → List Nat → Prop
  | 0, x => x = []
  | m + 1, x => ∃ u v, x = u ++ v ∧ Pow L m u ∧ L v
/-- the words of a node -/
noncomputable def N.lang : N → List Nat → Prop
  | .empty, x => x = []
  | .never, _ => False
  | .chars t, x => ∃ c, c ∈ t.cps.toList ∧ x = [c]
  | .cat l r, x => ∃ u v, x = u ++ v ∧ l.lang u ∧ r.lang v
  | .alt l r, x => l.lang x ∨ r.lang x
  | .star b, x => ∃ m, Pow b.lang m x
  | .plus b, x => ∃ m, 1 ≤ m ∧ Pow b.lang m x
  | .opt b, x => ∃ m, m ≤ 1 ∧ Pow b.lang m x
  | .rep b lo hi, x => ∃ m : Nat, lo ≤ (m : Int) ∧ (∀ h, hi = some h → (m : Int) ≤ h) ∧ Pow b.lang m x
theorem pow_len {L : List Nat → Prop} {k : Int} (h : ∀ x, L x → k ≤ x.length) : ∀ (m : Nat) (x : List Nat), Pow L m x → k * m ≤ x.length
  | 0, x, e => by have : x = [] := e
                  subst this; simp
  | m + 1, x, e => by
    obtain ⟨u, v, rfl, h1, h2⟩ := e
    have a := pow_len h m u h1
    have b := h v h2
    rw [List.length_append]
    have : k * ((m + 1 : Nat) : Int) = k * m + k := by rw [Int.natCast_add, Int.mul_add]; simp
    lia
theorem pow_nil {L : List Nat → Prop} (h : L []) : ∀ m, Pow L m []
  | 0 => rfl
  | m + 1 => ⟨[], [], rfl, pow_nil h m, h⟩
theorem nil_of_pow {L : List Nat → Prop} : ∀ (m : Nat), 1 ≤ m → Pow L m [] → L []
  | m + 1, _, h => by
    obtain ⟨u, v, e, h1, h2⟩ := h
    have : v = [] := by
      have := congrArg List.length e
      simp at this; exact List.length_eq_zero_iff.mp (by lia)
    subst this; exact h2
theorem pow_empty {L : List Nat → Prop} (h : ∀ x, ¬ L x) : ∀ (m : Nat) (x : List Nat), 1 ≤ m → ¬ Pow L m x
  | m + 1, x, _, ⟨u, v, _, _, h2⟩ => h v h2
/-- no word is shorter than the least length -/
theorem lang_least : ∀ n : N, n.wf → ∀ x, n.lang x → ∃ k, n.least = some k ∧ k ≤ x.length := by
  intro n
  induction n with
  | empty => intro _ x h; exact ⟨0, rfl, by lia⟩
  | never => intro _ x h; exact h.elim
  | chars t =>
    intro _ x h
    obtain ⟨c, hc, rfl⟩ := h
    refine ⟨1, ?_, by simp⟩
    simp only [N.least]
    have : ¬ t.cps.size = 0 := fun e => by
      have : t.cps.toList = [] := List.length_eq_zero_iff.mp (by rw [Array.length_toList]; exact e)
      rw [this] at hc; cases hc
    rw [if_neg (by simpa using this)]
  | cat l r ih1 ih2 =>
    intro hw x h
    obtain ⟨u, v, rfl, h1, h2⟩ := h
    obtain ⟨a, e1, q1⟩ := ih1 hw.1 u h1
    obtain ⟨b, e2, q2⟩ := ih2 hw.2 v h2
    exact ⟨a + b, by simp only [N.least, e1, e2, oadd], by rw [List.length_append]; lia⟩
  | alt l r ih1 ih2 =>
    intro hw x h
    rcases h with h | h
    · obtain ⟨a, e1, q1⟩ := ih1 hw.1 x h
      simp only [N.least, e1]
      cases r.least with
      | none => exact ⟨a, rfl, q1⟩
      | some b => exact ⟨_, rfl, by lia⟩
    · obtain ⟨b, e1, q1⟩ := ih2 hw.2 x h
      simp only [N.least, e1]
      cases l.least with
      | none => exact ⟨b, rfl, q1⟩
      | some a => exact ⟨_, rfl, by lia⟩
  | star b _ => intro _ x _; exact ⟨0, rfl, by lia⟩
  | opt b _ => intro _ x _; exact ⟨0, rfl, by lia⟩
  | plus b ih =>
    intro hw x h
    obtain ⟨m, hm, hp⟩ := h
    have hb : ∃ k, b.least = some k := by
      obtain _ | m := m
      · lia
      · obtain ⟨u, v, rfl, h1, h2⟩ := hp
        obtain ⟨k, e, _⟩ := ih hw v h2
        exact ⟨k, e⟩
    obtain ⟨k, e⟩ := hb
    refine ⟨k, e, ?_⟩
    have := pow_len (k := k) (fun y hy => by obtain ⟨k', e', q⟩ := ih hw y hy; rw [e] at e'; cases e'; exact q) m x hp
    have hk := least_nn b hw k e
    have : k * 1 ≤ k * (m : Int) := Int.mul_le_mul_of_nonneg_left (by lia) hk
    lia
  | rep b lo hi ih =>
    intro hw x h
    obtain ⟨m, hm, _, hp⟩ := h
    simp only [N.least]
    cases e : b.least with
    | none =>
      have hno : ∀ y, ¬ b.lang y := fun y hy => by obtain ⟨k', e', _⟩ := ih hw.1 y hy; rw [e] at e'; cases e'
      have m0 : m = 0 := by
        by_cases q : 1 ≤ m
        · exact absurd hp (pow_empty hno m x q)
        · lia
      have l0 : lo = 0 := by have := hw.2.1; lia
      subst l0
      exact ⟨0, rfl, by lia⟩
    | some k =>
      refine ⟨_, rfl, ?_⟩
      have := pow_len (k := k) (fun y hy => by obtain ⟨k', e', q⟩ := ih hw.1 y hy; rw [e] at e'; cases e'; exact q) m x hp
      have hk := least_nn b hw.1 k e
      have : k * lo ≤ k * (m : Int) := Int.mul_le_mul_of_nonneg_left hm hk
      lia
theorem no_lang {n : N} (hw : n.wf) (h : n.least = none) : ∀ x, ¬ n.lang x := fun x hx => by
  obtain ⟨k, e, _⟩ := lang_least n hw x hx
  rw [h] at e; cases e
/-! ### the order of words of one length -/
theorem append_le : ∀ {a u b v : List Nat}, a.length = u.length → a ≤ u → b ≤ v → a ++ b ≤ u ++ v
  | [], [], b, v, _, _, h => h
  | x :: a, y :: u, b, v, hl, h1, h2 => by
    have hl' : a.length = u.length := by simpa using hl
    rcases List.cons_le_cons_iff.mp h1 with h | ⟨rfl, h⟩
    · exact List.cons_le_cons_iff.mpr (.inl h)
    · exact List.cons_le_cons_iff.mpr (.inr ⟨rfl, append_le hl' h h2⟩)
  | [], _ :: _, _, _, hl, _, _ => by simp at hl
  | _ :: _, [], _, _, hl, _, _ => by simp at hl
theorem reduce_pow {b : N} (hw : b.wf) {m lo len : Nat} {x : List Nat} (hp : Pow b.lang m x) (hm : lo ≤ m) (hx : x.length = len) (hl : ∀ kb, b.least = some kb → (len : Int) ≤ kb * lo) : Pow b.lang lo x := by
  by_cases e : m = lo
  · rw [← e]; exact hp
  have hm1 : 1 ≤ m := by lia
  cases eb : b.least with
  | none => exact absurd hp (pow_empty (no_lang hw eb) m x hm1)
  | some kb =>
    have h0 := least_nn b hw kb eb
    have h1 := pow_len (k := kb) (fun y hy => by obtain ⟨k', e', q⟩ := lang_least b hw y hy; rw [eb] at e'; cases e'; exact q) m x hp
    have h2 := hl kb eb
    have h3 : kb * (m : Int) ≤ kb * lo := by lia
    have hk0 : kb = 0 := by
      by_cases q : kb = 0
      · exact q
      · have := Int.le_of_mul_le_mul_left h3 (by lia)
        lia
    subst hk0
    have hx0 : x = [] := List.length_eq_zero_iff.mp (by lia)
    subst hx0
    exact pow_nil (nil_of_pow m hm1 hp) lo
noncomputable def atMost (n : N) (len : Nat) : Prop := ∀ k, n.least = some k → (len : Int) ≤ k
theorem loop_facts (n b : N) (hk : n.kids = [b]) (hl : n.lohi.isSome = true) (hw : n.wf) (len : Nat) (h3 : len ≤ 3) : ∃ lo T : Nat, (n.bnds len).1 = lo ∧ min (n.bnds len).2 ((lo : Int) + len) = T ∧ lo ≤ T ∧ T ≤ 43 ∧
    (atMost n len → ∀ kb, b.least = some kb → (len : Int) ≤ kb * lo) ∧ (atMost n len → ∀ x, x.length = len → (n.lang x ↔ ∃ m, lo ≤ m ∧ m ≤ T ∧ Pow b.lang m x)) := by
  have key : ∀ lo T : Nat, b.wf → lo ≤ T → (∀ kb, b.least = some kb → (len : Int) ≤ kb * lo) → ∀ x, x.length = len → ∀ m, lo ≤ m → Pow b.lang m x → ∃ m, lo ≤ m ∧ m ≤ T ∧ Pow b.lang m x :=
    fun lo T hwb hlT hc x hx m hm hp => ⟨lo, Nat.le_refl _, hlT, reduce_pow hwb hp hm hx hc⟩
  cases n with
  | star c =>
    cases hk
    have hc : atMost (.star b) len → ∀ kb, b.least = some kb → (len : Int) ≤ kb * ((0 : Nat) : Int) := fun h kb _ => by have := h 0 rfl; simpa using this
    refine ⟨0, len, rfl, ?_, Nat.zero_le _, by lia, hc, fun h x hx => ⟨fun ⟨m, hp⟩ => key 0 len hw (Nat.zero_le _) (hc h) x hx m (Nat.zero_le _) hp, fun ⟨m, _, _, hp⟩ => ⟨m, hp⟩⟩⟩
    simp [N.bnds]
  | plus c =>
    cases hk
    have hc : atMost (.plus b) len → ∀ kb, b.least = some kb → (len : Int) ≤ kb * ((1 : Nat) : Int) := fun h kb e => by have := h kb e; simpa using this
    refine ⟨1, 1 + len, rfl, ?_, by lia, by lia, hc, fun h x hx => ⟨fun ⟨m, hm, hp⟩ => key 1 (1 + len) hw (by lia) (hc h) x hx m hm hp, fun ⟨m, hm, _, hp⟩ => ⟨m, hm, hp⟩⟩⟩
    simp [N.bnds]
  | opt c =>
    cases hk
    have hc : atMost (.opt b) len → ∀ kb, b.least = some kb → (len : Int) ≤ kb * ((0 : Nat) : Int) := fun h kb _ => by have := h 0 rfl; simpa using this
    refine ⟨0, min 1 len, rfl, ?_, Nat.zero_le _, by lia, hc, fun h x hx => ⟨fun ⟨m, _, hp⟩ => key 0 (min 1 len) hw (Nat.zero_le _) (hc h) x hx m (Nat.zero_le _) hp, fun ⟨m, _, hm, hp⟩ => ⟨m, by lia, hp⟩⟩⟩
    simp only [N.bnds]; lia
  | rep c lo hi =>
    cases hk
    obtain ⟨hwb, l0, l40, hh⟩ := hw
    obtain ⟨lo, rfl⟩ : ∃ l : Nat, lo = (l : Int) := ⟨lo.toNat, by lia⟩
    have hc : atMost (.rep b lo hi) len → ∀ kb, b.least = some kb → (len : Int) ≤ kb * ((lo : Nat) : Int) := fun h kb e => h _ (by simp only [N.least, e])
    cases hi with
    | none =>
      refine ⟨lo, lo + len, rfl, ?_, by lia, by lia, hc, fun h x hx => ⟨fun ⟨m, hm, _, hp⟩ => key lo (lo + len) hwb (by lia) (hc h) x hx m (by lia) hp, fun ⟨m, hm, _, hp⟩ => ⟨m, by lia, fun _ e => (by cases e), hp⟩⟩⟩
      simp [N.bnds]
    | some hv =>
      obtain ⟨q1, q2⟩ := hh hv rfl
      obtain ⟨hv, rfl⟩ : ∃ l : Nat, hv = (l : Int) := ⟨hv.toNat, by lia⟩
      refine ⟨lo, min hv (lo + len), rfl, ?_, by lia, by lia, hc, fun h x hx => ⟨fun ⟨m, hm, _, hp⟩ => key lo (min hv (lo + len)) hwb (by lia) (hc h) x hx m (by lia) hp, fun ⟨m, hm, hm2, hp⟩ => ⟨m, by lia, fun h' e => (by cases e; lia), hp⟩⟩⟩
      simp only [N.bnds]; lia
  | _ => cases hl
/-! ### few words -/
noncomputable def allW : Nat → List (List Nat)
  | 0 => [[]]
  | k + 1 => [97, 98, 99].flatMap fun c => (allW k).map (c :: ·)
theorem mem_allW : ∀ (k : Nat) (x : List Nat), x.length = k → (∀ c ∈ x, 97 ≤ c ∧ c ≤ 99) → x ∈ allW k
  | 0, x, h, _ => by have := List.length_eq_zero_iff.mp h; subst this; simp [allW]
  | k + 1, [], h, _ => by simp at h
  | k + 1, c :: x, h, hc => by
    have h1 := mem_allW k x (by simpa using h) fun d hd => hc d (.tail _ hd)
    have h2 := hc c (.head _)
    simp only [allW, List.mem_flatMap, List.mem_map]
    exact ⟨c, by simp; lia, x, h1, rfl⟩
theorem nodup_sub_len {α : Type} [DecidableEq α] : ∀ (l m : List α), l.Nodup → (∀ x ∈ l, x ∈ m) → l.length ≤ m.length
  | [], _, _, _ => Nat.zero_le _
  | x :: l, m, hn, hs => by
    have hx := hs x (.head _)
    rw [List.nodup_cons] at hn
    have := nodup_sub_len l (m.erase x) hn.2 fun y hy => by
      have hne : y ≠ x := fun e => hn.1 (e ▸ hy)
      exact (List.mem_erase_of_ne hne).mpr (hs y (.tail _ hy))
    rw [List.length_erase_of_mem hx] at this
    have : 0 < m.length := List.length_pos_of_mem hx
    rw [List.length_cons]; lia
noncomputable def okW (len : Nat) (W : WW) : Prop := ∀ x ∈ W, x.length = len ∧ ∀ c ∈ x, 97 ≤ c ∧ c ≤ 99
theorem fewW {len : Nat} (h3 : len ≤ 3) {W : WW} (hn : W.Nodup) (ho : okW len W) : W.length ≤ 27 := by
  have h1 := nodup_sub_len W (allW len) hn fun x hx => mem_allW len x (ho x hx).1 (ho x hx).2
  have h2 : (allW len).length ≤ 27 := by
    have : len = 0 ∨ len = 1 ∨ len = 2 ∨ len = 3 := by lia
    rcases this with rfl | rfl | rfl | rfl <;> decide
  lia
theorem pw_nodup {W : WW} (h : W.Pairwise (· < ·)) : W.Nodup := h.imp fun {a b} h e => by subst e; exact List.lt_irrefl _ h
/-- the words of one length that the law lists -/
structure Good (n : N) (len : Nat) (W : WW) : Prop where
  pw : W.Pairwise (· < ·)
  ok : okW len W
  mem : atMost n len → ∀ x, x ∈ W ↔ n.lang x ∧ x.length = len
theorem Good.few {n : N} {len : Nat} {W : WW} (g : Good n len W) (h3 : len ≤ 3) : W.length ≤ 27 := fewW h3 (pw_nodup g.pw) g.ok

end Mine

end
section
-- G2
open PySem PySem.W PySem.Calls PyProof.Rows
set_option Elab.async false
set_option linter.all false
set_option maxRecDepth 100000
set_option maxHeartbeats 4000000
set_option genInjectivity false
set_option genSizeOfSpec false
namespace Mine
theorem good_nil {n : N} {len : Nat} (h : atMost n len → ∀ x, n.lang x → x.length ≠ len) : Good n len [] :=
  ⟨List.Pairwise.nil, fun x hx => (by cases hx), fun ha x => ⟨fun hx => (by cases hx), fun hx => absurd hx.2 (h ha x hx.1)⟩⟩
theorem okW_app {len : Nat} {W1 W2 : WW} (h1 : okW len W1) (h2 : okW len W2) : okW len (W1 ++ W2) := fun x hx => (List.mem_append.mp hx).elim (h1 x) (h2 x)
theorem good_alt {l r : N} {len : Nat} {W1 W2 W : WW} (g1 : Good l len W1) (g2 : Good r len W2) (hC : Canon W (W1 ++ W2)) : Good (.alt l r) len W := by
  refine ⟨hC.pw, fun x hx => okW_app g1.ok g2.ok x ((hC.mem x).mp hx), fun ha x => ?_⟩
  have a1 : atMost l len := fun q e => by
    cases e2 : r.least with
    | none => exact ha q (by simp only [N.least, e, e2, omin])
    | some q2 => have := ha (min q q2) (by simp only [N.least, e, e2, omin]); lia
  have a2 : atMost r len := fun q e => by
    cases e2 : l.least with
    | none => exact ha q (by simp only [N.least, e, e2, omin])
    | some q2 => have := ha (min q2 q) (by simp only [N.least, e, e2, omin]); lia
  rw [hC.mem x, List.mem_append, g1.mem a1 x, g2.mem a2 x]
  simp only [N.lang]
  constructor
  · rintro (⟨a, b⟩ | ⟨a, b⟩)
    · exact ⟨.inl a, b⟩
    · exact ⟨.inr a, b⟩
  · rintro ⟨a | a, b⟩
    · exact .inl ⟨a, b⟩
    · exact .inr ⟨a, b⟩
theorem okW_catN {A B : Nat → WW} {m len : Nat} (h : ∀ p < m, ∃ a b, a + b = len ∧ okW a (A p) ∧ okW b (B p)) : okW len (catN A B m) := by
  intro x hx
  obtain ⟨p, hp, u, hu, v, hv, rfl⟩ := mem_catN.mp hx
  obtain ⟨a, b, e, h1, h2⟩ := h p hp
  refine ⟨by rw [List.length_append, (h1 u hu).1, (h2 v hv).1]; exact e, fun c hc => ?_⟩
  rcases List.mem_append.mp hc with q | q
  · exact (h1 u hu).2 c q
  · exact (h2 v hv).2 c q
theorem good_cat {l r : N} (hw : (N.cat l r).wf) {len : Nat} {L R : Nat → WW} {W : WW} (hL : ∀ p < len + 1, Good l p (L p)) (hR : ∀ p < len + 1, Good r p (R p)) (hC : Canon W (catN L (fun p => R (len - p)) (len + 1))) : Good (.cat l r) len W := by
  have hok : okW len (catN L (fun p => R (len - p)) (len + 1)) := okW_catN fun p hp => ⟨p, len - p, by lia, (hL p hp).ok, (hR (len - p) (by lia)).ok⟩
  refine ⟨hC.pw, fun x hx => hok x ((hC.mem x).mp hx), fun ha x => ?_⟩
  rw [hC.mem x, mem_catN]
  constructor
  · rintro ⟨p, hp, u, hu, v, hv, rfl⟩
    have lu := ((hL p hp).ok u hu).1
    have lv := ((hR (len - p) (by lia)).ok v hv).1
    refine ⟨?_, by rw [List.length_append, lu, lv]; lia⟩
    by_cases a1 : atMost l p
    · by_cases a2 : atMost r (len - p)
      · exact ⟨u, v, rfl, (((hL p hp).mem a1 u).mp hu).1, (((hR (len - p) (by lia)).mem a2 v).mp hv).1⟩
      · -- r is too short: then l has a word that is too short
        exfalso
        obtain ⟨kr, er, hr⟩ : ∃ kr, r.least = some kr ∧ kr < ((len - p : Nat) : Int) := by
          cases q : r.least with
          | none => exact absurd (fun k e => by rw [q] at e; cases e) a2
          | some k => refine ⟨k, rfl, ?_⟩
                      by_cases z : ((len - p : Nat) : Int) ≤ k
                      · exact absurd (fun k' e => by rw [q] at e; cases e; exact z) a2
                      · lia
        obtain ⟨kl, el, hl⟩ := lang_least l hw.1 u (((hL p hp).mem a1 u).mp hu).1
        have := ha (kl + kr) (by simp only [N.least, el, er, oadd])
        lia
    · exfalso
      obtain ⟨kl, el, hl⟩ : ∃ kl, l.least = some kl ∧ kl < (p : Int) := by
        cases q : l.least with
        | none => exact absurd (fun k e => by rw [q] at e; cases e) a1
        | some k => refine ⟨k, rfl, ?_⟩
                    by_cases z : (p : Int) ≤ k
                    · exact absurd (fun k' e => by rw [q] at e; cases e; exact z) a1
                    · lia
      have a2 : atMost r (len - p) := fun kr er => by
        have := ha (kl + kr) (by simp only [N.least, el, er, oadd])
        lia
      obtain ⟨kr, er, hr⟩ := lang_least r hw.2 v (((hR (len - p) (by lia)).mem a2 v).mp hv).1
      have := ha (kl + kr) (by simp only [N.least, el, er, oadd])
      lia
  · rintro ⟨⟨u, v, rfl, h1, h2⟩, hx⟩
    rw [List.length_append] at hx
    obtain ⟨kl, el, hl⟩ := lang_least l hw.1 u h1
    obtain ⟨kr, er, hr⟩ := lang_least r hw.2 v h2
    have hsum := ha (kl + kr) (by simp only [N.least, el, er, oadd])
    have a1 : atMost l u.length := fun k e => by rw [el] at e; cases e; lia
    have a2 : atMost r v.length := fun k e => by rw [er] at e; cases e; lia
    refine ⟨u.length, by lia, u, ((hL _ (by lia)).mem a1 u).mpr ⟨h1, rfl⟩, v, ?_, rfl⟩
    show v ∈ R (len - u.length)
    rw [show len - u.length = v.length by lia]
    exact ((hR _ (by lia)).mem a2 v).mpr ⟨h2, rfl⟩
/-- the rows after t turns -/
structure RowsOk (b : N) (len t : Nat) (R : Nat → WW) : Prop where
  ok : ∀ p ≤ len, okW p (R p)
  few : ∀ p ≤ len, (R p).length ≤ 27
  mem : ∀ p ≤ len, (∀ kb, b.least = some kb → (p : Int) ≤ kb * t) → ∀ x, x ∈ R p ↔ Pow b.lang t x ∧ x.length = p
theorem rows_zero (b : N) (len : Nat) : RowsOk b len 0 (fun p => if p = 0 then [[]] else []) := by
  refine ⟨fun p _ x hx => ?_, fun p _ => ?_, fun p _ _ x => ?_⟩
  · split at hx
    · rw [List.mem_singleton.mp hx]; rename_i e; exact ⟨e.symm, fun c hc => by cases hc⟩
    · cases hx
  · split <;> simp
  · split
    · rename_i e
      subst e
      simp only [List.mem_singleton, Pow]
      exact ⟨fun e => ⟨e, by rw [e]; rfl⟩, fun e => e.1⟩
    · rename_i e
      refine ⟨fun h => (by cases h), fun h => ?_⟩
      have : x = [] := h.1
      subst this
      exact absurd h.2.symm e
theorem rows_succ {b : N} (hw : b.wf) {len t : Nat} (h3 : len ≤ 3) {R R' B : Nat → WW} (hR : RowsOk b len t R) (hB : ∀ p < len + 1, Good b p (B p)) (hC : ∀ p ≤ len, Canon (R' p) (catN (fun q => R (p - q)) B (p + 1))) : RowsOk b len (t + 1) R' := by
  have hok : ∀ p ≤ len, okW p (catN (fun q => R (p - q)) B (p + 1)) := fun p hp => okW_catN fun q hq => ⟨p - q, q, by lia, hR.ok _ (by lia), (hB q (by lia)).ok⟩
  have hok' : ∀ p ≤ len, okW p (R' p) := fun p hp x hx => hok p hp x (((hC p hp).mem x).mp hx)
  refine ⟨hok', fun p hp => fewW (by lia) (pw_nodup (hC p hp).pw) (hok' p hp), fun p hp ha x => ?_⟩
  have hb : ∀ {v : List Nat}, b.lang v → ∃ kb, b.least = some kb ∧ kb ≤ v.length := fun h => lang_least b hw _ h
  have hpw : ∀ {kb : Int} {u : List Nat}, b.least = some kb → Pow b.lang t u → kb * t ≤ u.length := fun {kb u} e h =>
    pow_len (k := kb) (fun y hy => by obtain ⟨k', e', q⟩ := lang_least b hw y hy; rw [e] at e'; cases e'; exact q) t u h
  have hmul : ∀ kb : Int, kb * ((t + 1 : Nat) : Int) = kb * t + kb := fun kb => by rw [Int.natCast_add, Int.mul_add]; simp
  rw [(hC p hp).mem x, mem_catN]
  constructor
  · rintro ⟨q, hq, u, hu, v, hv, rfl⟩
    have lu := (hR.ok (p - q) (by lia) u hu).1
    have lv := ((hB q (by lia)).ok v hv).1
    refine ⟨?_, by rw [List.length_append, lu, lv]; lia⟩
    by_cases a2 : atMost b q
    · have hv' := (((hB q (by lia)).mem a2 v).mp hv).1
      obtain ⟨kb, eb, hk⟩ := hb hv'
      have hsum := ha kb eb
      rw [hmul] at hsum
      have hu' := ((hR.mem (p - q) (by lia) (fun k' e' => by rw [eb] at e'; cases e'; lia) u).mp hu).1
      exact ⟨u, v, rfl, hu', hv'⟩
    · exfalso
      obtain ⟨kb, eb, hk⟩ : ∃ kb, b.least = some kb ∧ kb < (q : Int) := by
        cases z : b.least with
        | none => exact absurd (fun k e => by rw [z] at e; cases e) a2
        | some k => refine ⟨k, rfl, ?_⟩
                    by_cases y : (q : Int) ≤ k
                    · exact absurd (fun k' e => by rw [z] at e; cases e; exact y) a2
                    · lia
      have hsum := ha kb eb
      rw [hmul] at hsum
      have hu' := ((hR.mem (p - q) (by lia) (fun k' e' => by rw [eb] at e'; cases e'; lia) u).mp hu).1
      have := hpw eb hu'
      lia
  · rintro ⟨⟨u, v, rfl, h1, h2⟩, hx⟩
    rw [List.length_append] at hx
    obtain ⟨kb, eb, hk⟩ := hb h2
    have hsum := ha kb eb
    rw [hmul] at hsum
    have hu' := hpw eb h1
    refine ⟨v.length, by lia, u, ?_, v, ?_, rfl⟩
    · refine (hR.mem (p - v.length) (by lia) (fun k' e' => by rw [eb] at e'; cases e'; lia) u).mpr ⟨h1, by lia⟩
    · exact ((hB v.length (by lia)).mem (fun k' e' => by rw [eb] at e'; cases e'; lia) v).mpr ⟨h2, rfl⟩
/-- what is found after t turns -/
structure FoundOk (b : N) (len lo t : Nat) (F : WW) : Prop where
  ok : okW len F
  few : F.length ≤ 27 * (t + 1)
  mem : (∀ kb, b.least = some kb → (len : Int) ≤ kb * lo) → ∀ x, x ∈ F ↔ ∃ m, lo ≤ m ∧ m ≤ t ∧ Pow b.lang m x ∧ x.length = len
theorem exact_len {b : N} (hw : b.wf) {len lo m : Nat} (h : ∀ kb, b.least = some kb → (len : Int) ≤ kb * lo) (hm : lo ≤ m) : ∀ kb, b.least = some kb → (len : Int) ≤ kb * m := fun kb e => by
  have h1 := h kb e
  have h0 := least_nn b hw kb e
  have : kb * (lo : Int) ≤ kb * (m : Int) := Int.mul_le_mul_of_nonneg_left (by lia) h0
  lia
theorem found_zero {b : N} (hw : b.wf) {len lo : Nat} {R : Nat → WW} (hR : RowsOk b len 0 R) : FoundOk b len lo 0 (if lo = 0 then R len else []) := by
  split
  · rename_i e
    subst e
    refine ⟨hR.ok _ (Nat.le_refl _), hR.few _ (Nat.le_refl _), fun ha x => ?_⟩
    rw [hR.mem len (Nat.le_refl _) ha x]
    refine ⟨fun ⟨a, c⟩ => ⟨0, Nat.le_refl _, Nat.le_refl _, a, c⟩, fun ⟨m, _, hm, a, c⟩ => ?_⟩
    have e : m = 0 := by lia
    subst e; exact ⟨a, c⟩
  · rename_i e
    refine ⟨fun x hx => (by cases hx), by simp, fun _ x => ⟨fun h => (by cases h), fun ⟨m, h1, h2, _⟩ => by lia⟩⟩
theorem found_add {b : N} (hw : b.wf) {len lo t : Nat} {F : WW} {Rt : Nat → WW} (hR : RowsOk b len (t + 1) Rt) (hF : FoundOk b len lo t F) (hlo : lo ≤ t + 1) : FoundOk b len lo (t + 1) (F ++ Rt len) := by
  refine ⟨okW_app hF.ok (hR.ok _ (Nat.le_refl _)), by have := hF.few; have := hR.few len (Nat.le_refl _); rw [List.length_append]; lia, fun ha x => ?_⟩
  rw [List.mem_append, hF.mem ha x, hR.mem len (Nat.le_refl _) (exact_len hw ha hlo) x]
  constructor
  · rintro (⟨m, a1, a2, a3⟩ | ⟨a, c⟩)
    · exact ⟨m, a1, by lia, a3⟩
    · exact ⟨t + 1, hlo, Nat.le_refl _, a, c⟩
  · rintro ⟨m, a1, a2, a3⟩
    by_cases e : m = t + 1
    · subst e; exact .inr a3
    · exact .inl ⟨m, a1, by lia, a3⟩
theorem found_skip {b : N} {len lo t : Nat} {F : WW} (hF : FoundOk b len lo t F) (hlo : t + 1 < lo) : FoundOk b len lo (t + 1) F := by
  refine ⟨hF.ok, by have := hF.few; lia, fun ha x => ?_⟩
  rw [hF.mem ha x]
  exact ⟨fun ⟨m, a1, a2, a3⟩ => ⟨m, a1, by lia, a3⟩, fun ⟨m, a1, a2, a3⟩ => by lia⟩
theorem good_loop {n b : N} {len lo T : Nat} {F W : WW} (hF : FoundOk b len lo T F) (h1 : atMost n len → ∀ kb, b.least = some kb → (len : Int) ≤ kb * lo) (h2 : atMost n len → ∀ x, x.length = len → (n.lang x ↔ ∃ m, lo ≤ m ∧ m ≤ T ∧ Pow b.lang m x)) (hC : Canon W F) : Good n len W := by
  refine ⟨hC.pw, fun x hx => hF.ok x ((hC.mem x).mp hx), fun ha x => ?_⟩
  rw [hC.mem x, hF.mem (h1 ha) x]
  constructor
  · rintro ⟨m, a1, a2, a3, a4⟩
    exact ⟨(h2 ha x a4).mpr ⟨m, a1, a2, a3⟩, a4⟩
  · rintro ⟨a, a4⟩
    obtain ⟨m, a1, a2, a3⟩ := (h2 ha x a4).mp a
    exact ⟨m, a1, a2, a3, a4⟩

end Mine

end
section
-- F16
open PySem PySem.W PySem.Calls PyProof.Rows
set_option Elab.async false
set_option linter.all false
set_option maxRecDepth 100000
set_option maxHeartbeats 4000000
set_option genInjectivity false
set_option genSizeOfSpec false
namespace Mine
noncomputable def intsV (m : Nat) : List V := (List.range m).map fun i : Nat => V.int i
theorem rng_ints {x : Int} {m : Nat} (h : (x - 0).toNat = m) : ((List.range (x - 0).toNat).map fun i : Nat => V.int (0 + (i : Int))) = intsV m := by
  rw [h]; exact List.map_congr_left fun i _ => congrArg V.int (Int.zero_add _)
theorem rng_small {m : Nat} (h : m ≤ 1000) {x : Int} (e : x = m) : Builtin.Range.small 0 x 1 = true := PySem.small_one (by decide) (by decide) (by lia) (by lia)
theorem ints_cons {m k : Nat} {u : V} {us : List V} (h : u :: us = (intsV m).drop k) : k < m ∧ u = .int (k : Int) ∧ us = (intsV m).drop (k + 1) := by
  have h0 : (intsV m)[k]? = some u := by rw [← List.head?_drop, ← h]; rfl
  have hk : k < m := by
    have := (List.getElem?_eq_some_iff.mp h0).1
    rwa [intsV, List.length_map, List.length_range] at this
  refine ⟨hk, ?_, ?_⟩
  · rw [intsV, List.getElem?_map, List.getElem?_range hk] at h0
    exact (Option.some.inj h0).symm
  · rw [← List.tail_drop, ← h]; rfl
theorem ints_nil {m k : Nat} (h : [] = (intsV m).drop k) : m ≤ k := by
  have := List.drop_eq_nil_iff.mp h.symm
  rwa [intsV, List.length_map, List.length_range] at this
/-- a comprehension whose parts append lists -/
theorem LoopC.flat {α : Type} {w : World} {d : Nat} {t : TgF} {T : DB} {G : DG} {Q : List V → Env' → Prop} {ρ : Env'} {acc : List V} {row : List α} (e : α → V) (f : α → List V) (I : Env' → Prop) (h0 : I ρ) (B : Nat) (hB : acc.length + (row.flatMap f).length ≤ B)
    (step : ∀ m ∈ row, ∀ ρ, I ρ → ∀ acc (K : List V → Env' → Prop) (X : Env' → Prop), acc.length + (f m).length ≤ B → (∀ ρ', I ρ' → K (acc ++ f m) ρ') → t (e m) ρ fun ρ₂ => T w d ρ₂ fun ok ρ₃ => Way ok (G w d ρ₃ acc K) (X ρ₃))
    (fin : ∀ ρ, I ρ → Q (acc ++ row.flatMap f) ρ) : LoopC (turnF w d t T G) Q acc (row.map e) ρ := by
  refine ⟨fun a us ρ => ∃ ms, us = ms.map e ∧ a ++ ms.flatMap f = acc ++ row.flatMap f ∧ (∀ m ∈ ms, m ∈ row) ∧ I ρ, ⟨row, rfl, rfl, fun _ h => h, h0⟩, ?_, ?_⟩
  · rintro a u us ρ ⟨ms, hu, h1, h2, hI⟩
    cases ms with
    | nil => cases hu
    | cons m ms =>
      cases hu
      rw [List.flatMap_cons, ← List.append_assoc] at h1
      refine step m (h2 m (.head _)) ρ hI a _ _ ?_ fun ρ' hI' => ⟨ms, rfl, h1, fun q hq => h2 q (.tail _ hq), hI'⟩
      have := congrArg List.length h1
      simp only [List.length_append] at this
      lia
  · rintro a ρ ⟨ms, hu, h1, h2, hI⟩
    cases ms with
    | nil => rw [List.flatMap_nil, List.append_nil] at h1; exact h1 ▸ fin ρ hI
    | cons m ms => cases hu
noncomputable def lstL (L : Nat → WW) (m : Nat) : List V := (List.range m).map fun p => V.lst (wsV (L p))
theorem lstL_len (L : Nat → WW) (m : Nat) : (lstL L m).length = m := by rw [lstL, List.length_map, List.length_range]
theorem lstL_get {L : Nat → WW} {m p : Nat} (h : p < m) : (lstL L m)[p]? = some (.lst (wsV (L p))) := by rw [lstL, List.getElem?_map, List.getElem?_range h]; rfl
theorem lstL_succ (L : Nat → WW) (m : Nat) (W : WW) : lstL L m ++ [.lst (wsV W)] = lstL (fun p => if p = m then W else L p) (m + 1) := by
  unfold lstL
  rw [List.range_succ, List.map_append, List.map_singleton]
  simp only [if_true]
  exact congrArg (· ++ _) (List.map_congr_left fun p hp => by rw [if_neg (Nat.ne_of_lt (List.mem_range.mp hp))])
theorem lstL_item {Q : V → Prop} {L : Nat → WW} {m p : Nat} {x : Int} (e : x = p) (h : p < m) (hm : m ≤ 1000) (q : Q (.lst (wsV (L p)))) : ItemP Q (.lst (lstL L m)) (.int x) := by
  subst e; exact itemN p (lstL_get h) (by lia) q
/-- a comprehension over a range whose items are lists of words -/
theorem LoopC.tab {w : World} {d : Nat} {t : TgF} {T : DB} {G : DG} {Q : List V → Env' → Prop} {ρ : Env'} (m : Nat) (hm : m ≤ 1000) (P : Nat → WW → Prop) (E : Option Slot → Env') (h0 : ρ = E none)
    (step : ∀ i, i < m → ∀ o acc (K : List V → Env' → Prop) (X : Env' → Prop), acc.length < 100000 → (∀ W, P i W → ∀ o', K (acc ++ [.lst (wsV W)]) (E o')) → t (.int i) (E o) fun ρ₂ => T w d ρ₂ fun ok ρ₃ => Way ok (G w d ρ₃ acc K) (X ρ₃))
    (fin : ∀ L : Nat → WW, (∀ i < m, P i (L i)) → ∀ o, Q (lstL L m) (E o)) : LoopC (turnF w d t T G) Q [] (intsV m) ρ := by
  refine ⟨fun acc us ρ => ∃ k L o, k ≤ m ∧ us = (intsV m).drop k ∧ acc = lstL L k ∧ (∀ i < k, P i (L i)) ∧ ρ = E o, ⟨0, fun _ => [], none, Nat.zero_le _, rfl, rfl, fun i h => absurd h (Nat.not_lt_zero i), h0⟩, ?_, ?_⟩
  · rintro acc u us ρ ⟨k, L, o, hk, hu, rfl, hL, rfl⟩
    obtain ⟨hk', rfl, rfl⟩ := ints_cons hu
    refine step k hk' o _ _ _ (by rw [lstL_len]; lia) fun W hW o' => ⟨k + 1, fun p => if p = k then W else L p, o', hk', rfl, lstL_succ L k W, fun p hp => ?_, rfl⟩
    by_cases e : p = k
    · subst e; simp only [if_true]; exact hW
    · simp only [if_neg e]; exact hL p (by lia)
  · rintro acc ρ ⟨k, L, o, hk, hu, rfl, hL, rfl⟩
    obtain rfl := Nat.le_antisymm hk (ints_nil hu)
    exact fin L hL o
theorem flat_one {α β : Type} (f : α → β) : ∀ l : List α, l.flatMap (fun v => [f v]) = l.map f
  | [] => rfl
  | a :: l => congrArg (f a :: ·) (flat_one f l)
theorem flat_congr {α β : Type} {f g : α → List β} (h : ∀ a, f a = g a) (l : List α) : l.flatMap f = l.flatMap g := by rw [funext h]
theorem catN_V (A B : Nat → WW) (m : Nat) : ((List.range m).flatMap fun p => (A p).flatMap fun u => (B p).flatMap fun v => [V.str (sOf (u ++ v))]) = wsV (catN A B m) := by
  unfold wsV catN catF
  rw [List.map_flatMap]
  refine flat_congr (fun p => ?_) _
  rw [List.map_flatMap]
  refine flat_congr (fun u => ?_) _
  rw [List.map_map]; exact flat_one ..
noncomputable abbrev strV (u : List Nat) : V := V.str (sOf u)
noncomputable def catR (A B : Nat → WW) (p : Nat) : List V := (A p).flatMap fun u => (B p).flatMap fun v => [strV (u ++ v)]
theorem cat_run {w : World} {d : Nat} {I2 I3 : DL} {A B : Nat → WW} {m : Nat} {Q : List V → Env' → Prop} {rest : Env'} (hA : ∀ p < m, ∀ u ∈ A p, u.length ≤ 1000) (hB : ∀ p < m, ∀ v ∈ B p, v.length ≤ 1000) (hl : (catN A B m).length ≤ 4000)
    (h2 : ∀ p < m, ∀ o2 o3 (K : List V → Env' → Prop), K (wsV (A p)) (none :: some (.val (.int (p : Nat))) :: o2 :: o3 :: rest) → I2 w d (none :: some (.val (.int (p : Nat))) :: o2 :: o3 :: rest) K)
    (h3 : ∀ p < m, ∀ o2 o3 (K : List V → Env' → Prop), K (wsV (B p)) (none :: some (.val (.int (p : Nat))) :: o2 :: o3 :: rest) → I3 w d (none :: some (.val (.int (p : Nat))) :: o2 :: o3 :: rest) K)
    (fin : ∀ ρ, Q (wsV (catN A B m)) ρ) :
    LoopC (turnF w d (tName 1) (bC true) (gFor I2 (tName 2) (bC true) (gFor I3 (tName 3) (bC true) (gElt (vBin CatP (vNm 2) (vNm 3)))))) Q [] (intsV m) (none :: none :: none :: none :: rest) := by
  have hV : (List.range m).flatMap (catR A B) = wsV (catN A B m) := catN_V A B m
  refine LoopC.flat (fun i : Nat => V.int i) (catR A B) (fun ρ => ∃ o1 o2 o3, ρ = none :: o1 :: o2 :: o3 :: rest) ⟨_, _, _, rfl⟩ 4000 ?_ ?_ fun ρ _ => by rw [hV]; exact fin ρ
  · rw [hV, List.length_map]; exact Nat.le_trans (Nat.le_of_eq (Nat.zero_add _)) hl
  · rintro p hp ρ ⟨o1, o2, o3, rfl⟩ acc K X ha hK
    have hp := List.mem_range.mp hp
    refine h2 p hp _ _ _ ?_
    refine LoopC.flat strV (fun u => (B p).flatMap fun v => [strV (u ++ v)]) (fun ρ => ∃ o2 o3, ρ = none :: some (.val (.int (p : Nat))) :: o2 :: o3 :: rest) ⟨_, _, rfl⟩ 4000 ha ?_ ?_
    · rintro u hu ρ ⟨o2, o3, rfl⟩ acc K X ha hK
      refine h3 p hp _ _ _ ?_
      refine LoopC.flat strV (fun v => [strV (u ++ v)]) (fun ρ => ∃ o3, ρ = none :: some (.val (.int (p : Nat))) :: some (.val (strV u)) :: o3 :: rest) ⟨_, rfl⟩ 4000 ha ?_ ?_
      · rintro v hv ρ ⟨o3, rfl⟩ acc K X ha hK
        refine ⟨u, v, rfl, rfl, hA p hp u hu, hB p hp v hv, ?_⟩
        exact ⟨Nat.lt_of_le_of_lt (Nat.le_trans (Nat.le_add_right ..) ha) (by decide), hK _ ⟨_, rfl⟩⟩
      · rintro ρ ⟨o3, rfl⟩; exact hK _ ⟨_, _, rfl⟩
    · rintro ρ ⟨o2, o3, rfl⟩; exact hK _ ⟨_, _, _, rfl⟩
inductive WordsQ (n : N) (len : Nat) (r : R) : Prop
  | mk (W : WW) (e : r = .val (.lst (wsV W))) (g : Good n len W)
theorem CallP.ofQ {w : World} {d d' : Nat} {a : Addr} {vs : List V} {Q Q' : R → Prop} (h : Fn (GL w) d' a vs Q) (hd : d' ≤ d) (q : ∀ r, Q r → Q' r) : CallP w d a vs Q' := ⟨h.mono hd q⟩
theorem texts_of {Q : WW → Prop} {len : Nat} (h3 : len ≤ 3) {ws : WW} (hl : ws.length ≤ 4000) (ho : okW len ws) (q : ∀ W, Canon W ws → Q W) : TextsP Q [.lst (wsV ws)] :=
  ⟨ws, rfl, hl, fun l hn hs => Nat.lt_of_le_of_lt (fewW h3 hn fun x hx => ho x (hs x hx)) (by decide), q⟩
theorem catN_few {A B : Nat → WW} {m : Nat} (hm : m ≤ 4) (ha : ∀ p < m, (A p).length ≤ 27) (hb : ∀ p < m, (B p).length ≤ 27) : (catN A B m).length ≤ 4000 :=
  Nat.le_trans (catN_len ha hb) (Nat.le_trans (Nat.mul_le_mul_right _ hm) (by decide))
theorem t7_abc : ∀ t ∈ T7, t.cps.toList.length ≤ 3 ∧ ∀ c ∈ t.cps.toList, 97 ≤ c ∧ c ≤ 99 := by decide +kernel
noncomputable def R0 : Nat → WW := fun p => if p = 0 then [[]] else []
theorem row_zero (len : Nat) : [V.lst [V.str ""]] ++ (List.range len).map (fun _ => V.lst []) = lstL R0 (len + 1) := by
  unfold lstL
  rw [List.range_succ_eq_map, List.map_cons, List.map_map]; rfl
theorem words_rep {w : World} {d : Nat} {nm : Str} {b : N} {vs : List V} {len lo T : Nat} {hb : Int} {Q : R → Prop} (h1 : (nm == "chars") = false) (h2 : (nm == "empty") = false) (h3 : (nm == "never") = false) (h4 : (nm == "alt") = false) (h5 : (nm == "cat") = false)
    (hbn : Fn (GL w) 1 586 [.tup (.str nm :: b.tv :: vs), .int len] (fun r => r = .val (.tup [.int lo, .int hb]))) (hd : 1 ≤ d) (hl3 : len ≤ 3) (e2 : min hb ((lo : Int) + len) = T) (hT : T ≤ 43) (hwb : b.wf)
    (ih : ∀ p : Nat, p ≤ len → Fn (GL w) d 598 [b.tv, .int p] (WordsQ b p)) (fin : ∀ F, FoundOk b len lo T F → ∀ W, Canon W F → Q (.val (.lst (wsV W)))) : d__law_words.1 w d [.tup (.str nm :: b.tv :: vs), .int len] Q := by
  have hx : (((len : Int) + 1) - 0).toNat = len + 1 := by lia
  have hs := rng_small (m := len + 1) (x := (len : Int) + 1) (by lia) rfl
  refine Way.eqF h1 (Way.eqF h2 (Way.eqF h3 (Way.eqF h4 (Way.eqF h5 (CallP.of hbn hd ⟨hs, ?_⟩)))))
  rw [rng_ints hx]
  refine LoopC.tab (len + 1) (by lia) (Good b) (fun o => [none, o, none, some (.val (.tup (.str nm :: b.tv :: vs)))]) rfl (fun p hp o acc K X ha hK => CallP.ofQ (ih p (Nat.le_of_lt_succ hp)) (Nat.le_refl _) fun r ⟨W, e, g⟩ => by subst e; exact ⟨ha, hK W g _⟩) fun Bd hB o => ?_
  refine ⟨rng_small (m := len) (x := len) (by lia) rfl, ?_⟩
  rw [rng_ints (m := len) (by lia)]
  refine LoopC.maps (row := List.range len) (fun i : Nat => V.int i) (fun _ => V.lst []) (fun o => [none, o]) none rfl (by rw [List.length_range]; lia) (fun m _ o acc K X ha hK => ⟨ha, hK _⟩) fun o => ?_
  refine ⟨by rw [List.length_map, List.length_range]; exact (show 1 + len ≤ 100000 by lia), ?_⟩
  rw [row_zero]
  refine seqCut (fun ρ => ρ = [some (.val (.tup (.str nm :: b.tv :: vs))), some (.val (.int len)), some (.val (.str nm)), none, none, some (.val (.int lo)), some (.val (.int hb)), some (.val (.lst (lstL Bd (len + 1)))), some (.val (.lst (lstL R0 (len + 1)))), some (.val (.lst (wsV (if lo = 0 then R0 len else [])))), none, none, none, none, none, none, none, none]) ?_ ?_
  · rintro ρ rfl
    refine ⟨rng_small (m := T) (x := min hb ((lo : Int) + len)) (by lia) e2, ?_⟩
    rw [rng_ints (m := T) (x := min hb ((lo : Int) + len)) (by lia)]
    refine ⟨fun us ρ => ∃ (t : Nat) (Rt : Nat → WW) (F : WW) (o : Option Slot), t ≤ T ∧ us = (intsV T).drop t ∧ RowsOk b len t Rt ∧ FoundOk b len lo t F ∧ ρ = [some (.val (.tup (.str nm :: b.tv :: vs))), some (.val (.int len)), some (.val (.str nm)), none, none, some (.val (.int lo)), some (.val (.int hb)), some (.val (.lst (lstL Bd (len + 1)))), some (.val (.lst (lstL Rt (len + 1)))), some (.val (.lst (wsV F))), o, none, none, none, none, none, none, none],
      ⟨0, R0, _, none, Nat.zero_le _, rfl, rows_zero b len, found_zero hwb (rows_zero b len), rfl⟩, ?_, ?_⟩
    · rintro u us ρ ⟨t, Rt, F, o, htT, hu, hR, hF, rfl⟩
      obtain ⟨htT', rfl, rfl⟩ := ints_cons hu
      refine ⟨hs, ?_⟩
      rw [rng_ints hx]
      refine LoopC.tab (len + 1) (by lia) (fun p W => Canon W (catN (fun z => Rt (p - z)) Bd (p + 1))) (fun o => [none, o, none, none, none, some (.val (.lst (lstL Bd (len + 1)))), some (.val (.lst (lstL Rt (len + 1))))]) rfl (fun p hp o acc K X ha hK => ?_) fun R' hR' o => ?_
      · refine ⟨rng_small (m := p + 1) (x := (p : Int) + 1) (by lia) rfl, ?_⟩
        rw [rng_ints (m := p + 1) (x := (p : Int) + 1) (by lia)]
        have hpl : p ≤ len := Nat.le_of_lt_succ hp
        have hok : okW p (catN (fun z => Rt (p - z)) Bd (p + 1)) := okW_catN fun z hz => ⟨p - z, z, Nat.sub_add_cancel (Nat.le_of_lt_succ hz), hR.ok _ (Nat.le_trans (Nat.sub_le ..) hpl), (hB z (by lia)).ok⟩
        have hfew : (catN (fun z => Rt (p - z)) Bd (p + 1)).length ≤ 4000 := catN_few (by lia) (fun z hz => hR.few (p - z) (Nat.le_trans (Nat.sub_le ..) hpl)) (fun z hz => (hB z (by lia)).few (by lia))
        refine cat_run (A := fun z => Rt (p - z)) (B := Bd) (fun z hz u hu => ?_) (fun z hz u hu => ?_) hfew (fun z hz o2 o3 K k => ?_) (fun z hz o2 o3 K k => ?_) fun ρ => ?_
        · have := (hR.ok (p - z) (by lia) u hu).1; lia
        · have := ((hB z (by lia)).ok u hu).1; lia
        · exact lstL_item (p := p - z) (by lia) (by lia) (by lia) k
        · exact lstL_item (p := z) rfl (by lia) (by lia) k
        · exact texts_of (by lia) hfew hok fun W hC => ⟨ha, hK W hC _⟩
      · have hR1 : RowsOk b len (t + 1) R' := rows_succ hwb hl3 hR hB fun q hq => hR' q (Nat.lt_succ_of_le hq)
        refine Way.by (c := decide ((lo : Int) ≤ (t : Int) + 1)) (fun h => ?_) fun h => ?_
        · have h := of_decide_eq_true h
          have q1 := hF.few
          have q2 := hR1.few len (Nat.le_refl _)
          refine lstL_item (p := len) rfl (Nat.lt_succ_self _) (by lia) ⟨by rw [List.length_map, List.length_map]; lia, ?_⟩
          rw [← List.map_append]
          exact ⟨t + 1, R', F ++ R' len, _, htT', rfl, hR1, found_add hwb hR1 hF (by lia), rfl⟩
        · have h := of_decide_eq_false h
          exact ⟨t + 1, R', F, _, htT', rfl, hR1, found_skip hF (by lia), rfl⟩
    · rintro ρ ⟨t, Rt, F, o, htT, hu, hR, hF, rfl⟩
      obtain rfl := Nat.le_antisymm htT (ints_nil hu)
      have q1 := hF.few
      exact texts_of hl3 (by lia) hF.ok fun W hC => fin F hF W hC
  · intro Qm k
    refine Way.by (c := (lo : Int) == 0) (fun h => ?_) fun h => ?_
    · have h : lo = 0 := by have := eq_of_beq h; lia
      refine lstL_item (L := R0) (p := len) rfl (Nat.lt_succ_self _) (by lia) (.lst _ rfl ?_ (k _ ?_))
      · rw [List.length_map]; unfold R0; split <;> exact Nat.le_of_ble_eq_true rfl
      · rw [if_pos h]; rfl
    · have h : ¬ lo = 0 := by have := ne_of_beq_false h; lia
      refine k _ ?_
      rw [if_neg h]; rfl

end Mine

end
section
-- F17
open PySem PySem.W PySem.Calls PyProof.Rows
set_option Elab.async false
set_option linter.all false
set_option maxRecDepth 100000
set_option maxHeartbeats 4000000
set_option genInjectivity false
set_option genSizeOfSpec false
namespace Mine
theorem w_cat {w : World} {d len : Nat} {l r : N} (hd : ∀ p : Nat, p ≤ len → Fn (GL w) d 598 [l.tv, .int p] (WordsQ l p)) (hr : ∀ p : Nat, p ≤ len → Fn (GL w) d 598 [r.tv, .int p] (WordsQ r p)) (h3 : len ≤ 3) (hw : (N.cat l r).wf) : d__law_words.1 w d [(N.cat l r).tv, .int len] (WordsQ (.cat l r) len) := by
  have hx : (((len : Int) + 1) - 0).toNat = len + 1 := by lia
  have hs := rng_small (m := len + 1) (x := (len : Int) + 1) (by lia) rfl
  refine ⟨hs, ?_⟩
  rw [rng_ints hx]
  refine LoopC.tab (len + 1) (by lia) (Good l) (fun o => [none, o, none, some (.val (N.cat l r).tv)]) rfl (fun p hp o acc K X ha hK => CallP.ofQ (hd p (Nat.le_of_lt_succ hp)) (Nat.le_refl _) fun r ⟨W, e, g⟩ => by subst e; exact ⟨ha, hK W g _⟩) fun L hL o => ?_
  refine ⟨hs, ?_⟩
  rw [rng_ints hx]
  refine LoopC.tab (len + 1) (by lia) (Good r) (fun o => [none, o, none, some (.val (N.cat l r).tv)]) rfl (fun p hp o acc K X ha hK => CallP.ofQ (hr p (Nat.le_of_lt_succ hp)) (Nat.le_refl _) fun r ⟨W, e, g⟩ => by subst e; exact ⟨ha, hK W g _⟩) fun R hR o => ?_
  refine ⟨hs, ?_⟩
  rw [rng_ints hx]
  have hfew : (catN L (fun p => R (len - p)) (len + 1)).length ≤ 4000 := catN_few (Nat.succ_le_succ h3) (fun p hp => (hL p hp).few (by lia)) fun p hp => (hR (len - p) (by lia)).few (by lia)
  have hok : okW len (catN L (fun p => R (len - p)) (len + 1)) := okW_catN fun p hp => ⟨p, len - p, by lia, (hL p hp).ok, (hR (len - p) (by lia)).ok⟩
  refine cat_run (A := L) (B := fun p => R (len - p)) (fun z hz u hu => ?_) (fun z hz u hu => ?_) hfew (fun z hz o2 o3 K k => ?_) (fun z hz o2 o3 K k => ?_) fun ρ => ?_
  · have := ((hL z hz).ok u hu).1; lia
  · have := ((hR (len - z) (by lia)).ok u hu).1; lia
  · exact lstL_item (p := z) rfl hz (by lia) k
  · exact lstL_item (p := len - z) (by lia) (by lia) (by lia) k
  · exact texts_of h3 hfew hok fun W hC => ⟨W, rfl, good_cat hw hL hR hC⟩
theorem lang_chars {t : Str} {len : Nat} {W : WW} (hC : Canon W (t.cps.toList.map fun k => [k])) (ht : t ∈ T7) (h : len = 1) : Good (.chars t) len W := by
  subst h
  have hok : okW 1 (t.cps.toList.map fun k => [k]) := fun x hx => by
    obtain ⟨c, hc, rfl⟩ := List.mem_map.mp hx
    exact ⟨rfl, fun d hd => List.mem_singleton.mp hd ▸ (t7_abc t ht).2 c hc⟩
  refine ⟨hC.pw, fun x hx => hok x ((hC.mem x).mp hx), fun _ x => ?_⟩
  rw [hC.mem x, List.mem_map]
  exact ⟨fun ⟨c, hc, e⟩ => ⟨⟨c, hc, e.symm⟩, e ▸ rfl⟩, fun ⟨⟨c, hc, e⟩, _⟩ => ⟨c, hc, e.symm⟩⟩
theorem words_ok (w : World) : ∀ (k : Nat) (n : N), n.size ≤ k → k ≤ 1000 → n.wf → (∀ t ∈ n.leaves, t ∈ T7) → ∀ len : Nat, len ≤ 3 → Fn (GL w) (n.size + 2) 598 [n.tv, .int len] (WordsQ n len) := by
  intro k
  induction k with
  | zero => intro n hn; have := n.pos; lia
  | succ k ih =>
    intro n hn hk hw ht len h3
    refine d__law_words.2.fn rfl ?_
    have loop : ∀ (b : N) (vs : List V), n.kids = [b] → n.lohi.isSome = true → n.tv = .tup (.str n.nm :: b.tv :: vs) → (n.nm == "chars") = false ∧ (n.nm == "empty") = false ∧ (n.nm == "never") = false ∧ (n.nm == "alt") = false ∧ (n.nm == "cat") = false → n.size = b.size + 1 → b.wf → (∀ t ∈ b.leaves, t ∈ T7) → d__law_words.1 w (n.size + 1) [n.tv, .int len] (WordsQ n len) := by
      intro b vs hkid hl htv hnm hsz hwb hlb
      obtain ⟨lo, T, e1, e2, e3, e4, f1, f2⟩ := loop_facts n b hkid hl hw len h3
      have hbn := bounds_ok w n len hl
      rw [htv, e1] at hbn
      rw [htv]
      exact words_rep hnm.1 hnm.2.1 hnm.2.2.1 hnm.2.2.2.1 hnm.2.2.2.2 hbn (Nat.le_add_left ..) h3 e2 e4 hwb (fun p hp => (ih b (by lia) (by lia) hwb hlb p (Nat.le_trans hp h3)).mono (by lia) fun _ h => h) fun F hF W hC => ⟨W, rfl, good_loop hF f1 f2 hC⟩
    cases n with
    | chars t =>
      have h7 := t7_abc t (ht t (.head _))
      refine Way.by (c := (len : Int) == 1) (fun h => ?_) fun h => ?_
      · have h : len = 1 := by have := eq_of_beq h; lia
        refine .str t.cps.toList (congrArg (fun s => [V.str s]) (sOf_toList t).symm) (Nat.le_trans h7.1 (by decide)) ?_
        refine texts_of (len := 1) (by decide) (by rw [List.length_map]; lia) (fun x hx => ?_) fun W hC => ⟨W, rfl, lang_chars hC (ht t (.head _)) h⟩
        obtain ⟨c, hc, rfl⟩ := List.mem_map.mp hx
        exact ⟨rfl, fun d hd => List.mem_singleton.mp hd ▸ h7.2 c hc⟩
      · have h := ne_of_beq_false h
        exact ⟨[], rfl, good_nil fun _ x ⟨c, hc, e⟩ e2 => h (by rw [e] at e2; exact congrArg Int.ofNat e2.symm)⟩
    | empty =>
      refine Way.by (c := (len : Int) == 0) (fun h => ?_) fun h => ?_
      · have h : len = 0 := by have := eq_of_beq h; lia
        subst h
        refine ⟨[[]], rfl, List.pairwise_singleton .., fun x hx => ?_, fun _ x => ?_⟩
        · rw [List.mem_singleton.mp hx]; exact ⟨rfl, fun c hc => nomatch hc⟩
        · rw [List.mem_singleton]; exact ⟨fun e => ⟨e, by rw [e]; rfl⟩, fun e => e.1⟩
      · have h := ne_of_beq_false h
        exact ⟨[], rfl, good_nil fun _ x (e : x = []) e2 => h (by rw [e] at e2; exact congrArg Int.ofNat e2.symm)⟩
    | never => exact ⟨[], rfl, good_nil fun _ x e => e.elim⟩
    | alt l r =>
      have hs : l.size + r.size ≤ k := Nat.le_of_succ_le_succ hn
      refine CallP.ofQ (ih l (by lia) (by lia) hw.1 (fun t h => ht t (List.mem_append_left _ h)) len h3) (by simp only [N.size]; lia) fun r1 ⟨W1, e1, g1⟩ => ?_
      subst e1
      refine CallP.ofQ (ih r (by lia) (by lia) hw.2 (fun t h => ht t (List.mem_append_right _ h)) len h3) (by simp only [N.size]; lia) fun r2 ⟨W2, e2, g2⟩ => ?_
      subst e2
      have q1 := g1.few h3
      have q2 := g2.few h3
      refine ⟨by rw [List.length_map, List.length_map]; lia, ?_⟩
      rw [← List.map_append]
      exact texts_of h3 (by rw [List.length_append]; lia) (okW_app g1.ok g2.ok) fun W hC => ⟨W, rfl, good_alt g1 g2 hC⟩
    | cat l r =>
      have hs : l.size + r.size ≤ k := Nat.le_of_succ_le_succ hn
      exact w_cat (fun p hp => (ih l (by lia) (by lia) hw.1 (fun t h => ht t (List.mem_append_left _ h)) p (Nat.le_trans hp h3)).mono (by simp only [N.size]; lia) fun _ h => h)
        (fun p hp => (ih r (by lia) (by lia) hw.2 (fun t h => ht t (List.mem_append_right _ h)) p (Nat.le_trans hp h3)).mono (by simp only [N.size]; lia) fun _ h => h) h3 hw
    | star b => exact loop b _ rfl rfl rfl ⟨rfl, rfl, rfl, rfl, rfl⟩ rfl hw ht
    | plus b => exact loop b _ rfl rfl rfl ⟨rfl, rfl, rfl, rfl, rfl⟩ rfl hw ht
    | opt b => exact loop b _ rfl rfl rfl ⟨rfl, rfl, rfl, rfl, rfl⟩ rfl hw ht
    | rep b lo hi => exact loop b _ rfl rfl rfl ⟨rfl, rfl, rfl, rfl, rfl⟩ rfl hw.1 ht

end Mine

end
section
-- G3
open PySem PySem.W PySem.Calls PyProof.Rows
set_option Elab.async false
set_option linter.all false
set_option maxRecDepth 100000
set_option maxHeartbeats 4000000
set_option genInjectivity false
set_option genSizeOfSpec false
namespace Mine
/-- least_word is the first of the shortest words -/
noncomputable def Best (n : N) : Prop := match n.lword with
  | none => n.least = none
  | some x => n.least = some (x.length : Int) ∧ n.lang x ∧ ∀ y, n.lang y → y.length = x.length → x ≤ y
theorem Best.of_none {n : N} (h : Best n) (e : n.lword = none) : n.least = none := by unfold Best at h; rw [e] at h; exact h
theorem Best.of_some {n : N} (h : Best n) {x : List Nat} (e : n.lword = some x) : n.least = some (x.length : Int) ∧ n.lang x ∧ ∀ y, n.lang y → y.length = x.length → x ≤ y := by unfold Best at h; rw [e] at h; exact h
theorem t7_asc : ∀ t ∈ T7, ∀ c cs, t.cps.toList = c :: cs → ∀ d ∈ c :: cs, c ≤ d := by
  intro t ht c cs e d hd
  rw [← e] at hd
  simp only [T7, List.mem_cons, List.not_mem_nil, or_false] at ht
  rcases ht with rfl | rfl | rfl | rfl | rfl | rfl | rfl
  · cases (show ([97] : List Nat) = c :: cs from e); revert hd; revert d; decide +kernel
  · cases (show ([98] : List Nat) = c :: cs from e); revert hd; revert d; decide +kernel
  · cases (show ([99] : List Nat) = c :: cs from e); revert hd; revert d; decide +kernel
  · cases (show ([97, 98] : List Nat) = c :: cs from e); revert hd; revert d; decide +kernel
  · cases (show ([98, 99] : List Nat) = c :: cs from e); revert hd; revert d; decide +kernel
  · cases (show ([97, 98, 99] : List Nat) = c :: cs from e); revert hd; revert d; decide +kernel
  · cases (show ([] : List Nat) = c :: cs from e)
theorem rept_nat (m : Nat) (l : List Nat) : rept (m : Int) l = (List.replicate m l).flatten := by simp [rept]
theorem rept_succ (m : Nat) (l : List Nat) : rept ((m + 1 : Nat) : Int) l = rept (m : Int) l ++ l := by
  rw [rept_nat, rept_nat, List.replicate_succ']; simp
theorem pow_rept {L : List Nat → Prop} {a : List Nat} (h : L a) : ∀ m : Nat, Pow L m (rept m a)
  | 0 => rfl
  | m + 1 => ⟨rept m a, a, rept_succ m a, pow_rept h m, h⟩
theorem pow_min {L : List Nat → Prop} {a : List Nat} (h1 : ∀ y, L y → a.length ≤ y.length) (h2 : ∀ y, L y → y.length = a.length → a ≤ y) : ∀ (m : Nat) (y : List Nat), Pow L m y → y.length = (rept m a).length → rept m a ≤ y
  | 0, y, e, _ => by have : y = [] := e
                     subst this; exact List.le_refl _
  | m + 1, y, ⟨u, v, e, hu, hv⟩, hy => by
    subst e
    have q1 := h1 v hv
    have q2 := pow_len (k := (a.length : Int)) (fun y hy => by have := h1 y hy; lia) m u hu
    have q3 : (rept (m : Int) a).length = m * a.length := by rw [rept_len]; simp
    have q2' : m * a.length ≤ u.length := by rw [Nat.mul_comm]; exact_mod_cast q2
    rw [rept_succ] at hy ⊢
    rw [List.length_append, List.length_append] at hy
    exact append_le (by lia) (pow_min h1 h2 m u hu (by lia)) (h2 v hv (by lia))
theorem pow_one {L : List Nat → Prop} {y : List Nat} (h : Pow L 1 y) : L y := by
  obtain ⟨u, v, e, hu, hv⟩ := h
  have : u = [] := hu
  subst this; subst e; exact hv
theorem le_of_nil {y : List Nat} (h : y.length = 0) : ([] : List Nat) ≤ y := by
  have : y = [] := List.length_eq_zero_iff.mp h
  subst this; exact List.le_refl _
theorem best_ok : ∀ n : N, n.wf → (∀ t ∈ n.leaves, t ∈ T7) → Best n := by
  intro n
  induction n with
  | empty => intro _ _; exact ⟨rfl, rfl, fun y hy _ => le_of_nil (by rw [show y = [] from hy]; rfl)⟩
  | never => intro _ _; exact rfl
  | chars t =>
    intro _ ht
    have h7 := ht t (by simp [N.leaves])
    unfold Best
    simp only [N.lword, N.least]
    cases e : t.cps.toList with
    | nil => have : t.cps.size = 0 := by rw [← Array.length_toList, e]; rfl
             simp [this]
    | cons c cs =>
      have : ¬ t.cps.size = 0 := by rw [← Array.length_toList, e]; simp
      refine ⟨by simp [this], ⟨c, by rw [e]; simp, rfl⟩, ?_⟩
      rintro y ⟨d, hd, rfl⟩ _
      rw [e] at hd
      have := t7_asc t h7 c cs e d hd
      exact List.cons_le_cons_iff.mpr (by rcases Nat.lt_or_eq_of_le this with q | q
                                          · exact .inl q
                                          · exact .inr ⟨q, List.le_refl _⟩)
  | cat l r ih1 ih2 =>
    intro hw ht
    have b1 := ih1 hw.1 fun t q => ht t (by simp [N.leaves, q])
    have b2 := ih2 hw.2 fun t q => ht t (by simp [N.leaves, q])
    unfold Best
    simp only [N.lword, N.least]
    cases e1 : l.lword with
    | none => simp only [wcat]; rw [b1.of_none e1]; cases r.least <;> rfl
    | some a =>
      cases e2 : r.lword with
      | none => simp only [wcat]; rw [b2.of_none e2]; cases l.least <;> rfl
      | some b =>
        obtain ⟨p1, p2, p3⟩ := b1.of_some e1
        obtain ⟨q1, q2, q3⟩ := b2.of_some e2
        simp only [wcat]
        refine ⟨by rw [p1, q1]; simp [oadd], ⟨a, b, rfl, p2, q2⟩, ?_⟩
        rintro y ⟨u, v, rfl, hu, hv⟩ hy
        obtain ⟨ku, eu, lu⟩ := lang_least l hw.1 u hu
        obtain ⟨kv, ev, lv⟩ := lang_least r hw.2 v hv
        rw [p1] at eu; cases eu
        rw [q1] at ev; cases ev
        rw [List.length_append, List.length_append] at hy
        exact append_le (by lia) (p3 u hu (by lia)) (q3 v hv (by lia))
  | alt l r ih1 ih2 =>
    intro hw ht
    have b1 := ih1 hw.1 fun t q => ht t (by simp [N.leaves, q])
    have b2 := ih2 hw.2 fun t q => ht t (by simp [N.leaves, q])
    unfold Best
    simp only [N.lword, N.least]
    cases e1 : l.lword with
    | none =>
      have n1 := b1.of_none e1
      cases e2 : r.lword with
      | none => simp only [wmin]; rw [n1, b2.of_none e2]; rfl
      | some b =>
        obtain ⟨q1, q2, q3⟩ := b2.of_some e2
        simp only [wmin]
        refine ⟨by rw [n1, q1]; rfl, .inr q2, ?_⟩
        rintro y (hy | hy) hl
        · exact absurd hy (no_lang hw.1 n1 y)
        · exact q3 y hy hl
    | some a =>
      obtain ⟨p1, p2, p3⟩ := b1.of_some e1
      cases e2 : r.lword with
      | none =>
        have n2 := b2.of_none e2
        simp only [wmin]
        refine ⟨by rw [n2, p1]; rfl, .inl p2, ?_⟩
        rintro y (hy | hy) hl
        · exact p3 y hy hl
        · exact absurd hy (no_lang hw.2 n2 y)
      | some b =>
        obtain ⟨q1, q2, q3⟩ := b2.of_some e2
        have long1 : ∀ y, l.lang y → a.length ≤ y.length := fun y hy => by
          obtain ⟨k, e, q⟩ := lang_least l hw.1 y hy
          rw [p1] at e; cases e; lia
        have long2 : ∀ y, r.lang y → b.length ≤ y.length := fun y hy => by
          obtain ⟨k, e, q⟩ := lang_least r hw.2 y hy
          rw [q1] at e; cases e; lia
        simp only [wmin]
        by_cases hl : (b.length : Int) = (a.length : Int)
        · by_cases hb : b < a
          · rw [if_pos (show wlt b a = true by unfold wlt; rw [if_pos hl]; simpa using hb)]
            refine ⟨by rw [p1, q1]; simp only [omin]; congr 1; lia, .inr q2, ?_⟩
            rintro y (hy | hy) hl2
            · exact List.le_trans (List.le_of_lt hb) (p3 y hy (by lia))
            · exact q3 y hy hl2
          · rw [if_neg (show ¬ wlt b a = true by unfold wlt; rw [if_pos hl]; simpa using hb)]
            refine ⟨by rw [p1, q1]; simp only [omin]; congr 1; lia, .inl p2, ?_⟩
            rintro y (hy | hy) hl2
            · exact p3 y hy hl2
            · exact List.le_trans (List.not_lt.mp hb) (q3 y hy (by lia))
        · by_cases hb : (b.length : Int) < (a.length : Int)
          · rw [if_pos (show wlt b a = true by unfold wlt; rw [if_neg hl]; simpa using hb)]
            refine ⟨by rw [p1, q1]; simp only [omin]; congr 1; lia, .inr q2, ?_⟩
            rintro y (hy | hy) hl2
            · have := long1 y hy; lia
            · exact q3 y hy hl2
          · rw [if_neg (show ¬ wlt b a = true by unfold wlt; rw [if_neg hl]; simpa using hb)]
            refine ⟨by rw [p1, q1]; simp only [omin]; congr 1; lia, .inl p2, ?_⟩
            rintro y (hy | hy) hl2
            · exact p3 y hy hl2
            · have := long2 y hy; lia
  | star b _ => intro _ _; exact ⟨rfl, ⟨0, rfl⟩, fun y _ hl => le_of_nil hl⟩
  | opt b _ => intro _ _; exact ⟨rfl, ⟨0, by decide, rfl⟩, fun y _ hl => le_of_nil hl⟩
  | plus b ih =>
    intro hw ht
    have b1 := ih hw ht
    unfold Best
    simp only [N.lword, N.least]
    cases e1 : b.lword with
    | none => exact b1.of_none e1
    | some a =>
      obtain ⟨p1, p2, p3⟩ := b1.of_some e1
      refine ⟨p1, ⟨1, Nat.le_refl _, [], a, rfl, rfl, p2⟩, ?_⟩
      rintro y ⟨m, hm, hp⟩ hl
      exact p3 y (pow_one (reduce_pow (b := b) (lo := 1) hw hp hm hl fun kb e => by rw [p1] at e; cases e; lia)) hl
  | rep b lo hi ih =>
    intro hw ht
    obtain ⟨hwb, l0, l40, hh⟩ := hw
    have b1 := ih hwb ht
    obtain ⟨lo, rfl⟩ : ∃ l : Nat, lo = (l : Int) := ⟨lo.toNat, by lia⟩
    unfold Best
    simp only [N.lword, N.least]
    cases e1 : b.lword with
    | none =>
      have n1 := b1.of_none e1
      rw [n1]
      by_cases q : lo = 0
      · subst q
        refine ⟨rfl, ⟨0, by lia, fun h e => by have := hh h e; lia, rfl⟩, fun y _ hl => le_of_nil hl⟩
      · have : ¬ ((lo : Int) == 0) = true := by simpa using q
        simp only [this]
        rfl
    | some a =>
      obtain ⟨p1, p2, p3⟩ := b1.of_some e1
      have long1 : ∀ y, b.lang y → a.length ≤ y.length := fun y hy => by
        obtain ⟨k, e, q⟩ := lang_least b hwb y hy
        rw [p1] at e; cases e; lia
      have q3 : (rept (lo : Int) a).length = lo * a.length := by rw [rept_len]; simp
      refine ⟨?_, ⟨lo, Int.le_refl _, fun h e => (hh h e).1, pow_rept p2 lo⟩, ?_⟩
      · rw [p1, q3]; simp [Int.mul_comm]
      · rintro y ⟨m, hm, _, hp⟩ hl
        exact pow_min long1 p3 lo y (reduce_pow (lo := lo) hwb hp (by lia) hl fun kb e => by
          rw [p1] at e; cases e; rw [q3, Int.natCast_mul, Int.mul_comm]; exact Int.le_refl _) hl
/-! ### rows of nodes and their words -/
theorem N.row_ind {P : N → Prop} (h0 : P .empty) (h1 : P .never) (h2 : ∀ t, P (.chars t)) (h3 : ∀ l r, (∀ m ∈ spineC (.cat l r), P m) → P (.cat l r)) (h4 : ∀ l r, (∀ m ∈ spineA (.alt l r), P m) → P (.alt l r))
    (h5 : ∀ b, P b → P (.star b)) (h6 : ∀ b, P b → P (.plus b)) (h7 : ∀ b, P b → P (.opt b)) (h8 : ∀ b lo hi, P b → P (.rep b lo hi)) : ∀ n, P n := by
  have key : ∀ (k : Nat) (n : N), n.size ≤ k → P n := by
    intro k
    induction k with
    | zero => intro n hn; have := N.pos n; lia
    | succ k ih =>
      intro n hn
      cases n with
      | empty => exact h0
      | never => exact h1
      | chars t => exact h2 t
      | cat l r => exact h3 l r fun m hm => ih m (by have := (mem_spineC _ m hm).2 ⟨_, _, rfl⟩; lia)
      | alt l r => exact h4 l r fun m hm => ih m (by have := (mem_spineA _ m hm).2 ⟨_, _, rfl⟩; lia)
      | star b => exact h5 b (ih b (by simp only [N.size] at hn; lia))
      | plus b => exact h6 b (ih b (by simp only [N.size] at hn; lia))
      | opt b => exact h7 b (ih b (by simp only [N.size] at hn; lia))
      | rep b lo hi => exact h8 b lo hi (ih b (by simp only [N.size] at hn; lia))
  exact fun n => key n.size n (Nat.le_refl _)
noncomputable def langC : List N → List Nat → Prop
  | [], x => x = []
  | m :: ms, x => ∃ u v, x = u ++ v ∧ m.lang u ∧ langC ms v
theorem langC_append : ∀ (a b : List N) (x : List Nat), langC (a ++ b) x ↔ ∃ u v, x = u ++ v ∧ langC a u ∧ langC b v
  | [], b, x => by
    constructor
    · exact fun h => ⟨[], x, rfl, rfl, h⟩
    · rintro ⟨u, v, e, hu, hv⟩
      have : u = [] := hu
      subst this; subst e; exact hv
  | m :: a, b, x => by
    constructor
    · rintro ⟨u, v, rfl, hu, hv⟩
      obtain ⟨p, q, rfl, hp, hq⟩ := (langC_append a b v).mp hv
      exact ⟨u ++ p, q, by rw [List.append_assoc], ⟨u, p, rfl, hu, hp⟩, hq⟩
    · rintro ⟨_, v, rfl, ⟨u, p, rfl, hu, hp⟩, hv⟩
      exact ⟨u, p ++ v, by rw [List.append_assoc], hu, (langC_append a b _).mpr ⟨p, v, rfl, hp, hv⟩⟩
theorem langC_one (m : N) (x : List Nat) : langC [m] x ↔ m.lang x := by
  constructor
  · rintro ⟨u, v, e, hu, hv⟩
    have : v = [] := hv
    subst this; rw [List.append_nil] at e; subst e; exact hu
  · exact fun h => ⟨x, [], by simp, h, rfl⟩
theorem lang_C : ∀ (n : N) (x : List Nat), n.lang x ↔ langC (spineC n) x := by
  intro n
  have other : ∀ n : N, spineC n = [n] → ∀ x, n.lang x ↔ langC (spineC n) x := fun n e x => by rw [e, langC_one]
  induction n with
  | cat l r ih _ =>
    intro x
    rw [show spineC (.cat l r) = spineC l ++ [r] from rfl, langC_append]
    constructor
    · rintro ⟨u, v, e, hu, hv⟩; exact ⟨u, v, e, (ih u).mp hu, (langC_one r v).mpr hv⟩
    · rintro ⟨u, v, e, hu, hv⟩; exact ⟨u, v, e, (ih u).mpr hu, (langC_one r v).mp hv⟩
  | _ => exact other _ rfl
theorem lang_A : ∀ (n : N) (x : List Nat), n.lang x ↔ ∃ m ∈ spineA n, m.lang x := by
  intro n
  have other : ∀ n : N, spineA n = [n] → ∀ x, n.lang x ↔ ∃ m ∈ spineA n, m.lang x := fun n e x => by rw [e]; simp
  induction n with
  | alt l r ih _ =>
    intro x
    rw [show spineA (.alt l r) = spineA l ++ [r] from rfl]
    simp only [List.mem_append, List.mem_singleton, or_and_right, exists_or, exists_eq_left]
    rw [← ih]; rfl
  | _ => exact other _ rfl
theorem fold_cat : ∀ (ms : List N) (a : N) (x : List Nat), (ms.foldl N.cat a).lang x ↔ langC (a :: ms) x
  | [], a, x => (langC_one a x).symm
  | m :: ms, a, x => by
    rw [List.foldl_cons, fold_cat ms]
    constructor
    · rintro ⟨_, w, rfl, ⟨u, v, rfl, hu, hv⟩, hw⟩; exact ⟨u, v ++ w, by rw [List.append_assoc], hu, v, w, rfl, hv, hw⟩
    · rintro ⟨u, _, rfl, hu, v, w, rfl, hv, hw⟩; exact ⟨u ++ v, w, by rw [List.append_assoc], ⟨u, v, rfl, hu, hv⟩, hw⟩
theorem catAll_lang (ms : List N) (x : List Nat) : (catAll ms).lang x ↔ langC ms x := by
  cases ms with
  | nil => exact Iff.rfl
  | cons m ms => exact fold_cat ms m x
theorem fold_alt : ∀ (ms : List N) (a : N) (x : List Nat), (ms.foldl N.alt a).lang x ↔ ∃ m ∈ a :: ms, m.lang x
  | [], a, x => by simp
  | m :: ms, a, x => by
    rw [List.foldl_cons, fold_alt ms]
    simp only [List.mem_cons, or_and_right, exists_or, exists_eq_left]
    show (a.lang x ∨ m.lang x) ∨ _ ↔ _
    rw [or_assoc]
theorem altAll_lang (ms : List N) (x : List Nat) : (altAll ms).lang x ↔ ∃ m ∈ ms, m.lang x := by
  cases ms with
  | nil => simp [altAll, N.lang]
  | cons m ms => exact fold_alt ms m x
theorem langC_rev : ∀ (ms : List N), (∀ m ∈ ms, ∀ x, m.mir.lang x ↔ m.lang x.reverse) → ∀ x, langC (ms.map N.mir).reverse x ↔ langC ms x.reverse
  | [], _, x => by simp [langC]
  | m :: ms, h, x => by
    have ih := langC_rev ms fun y hy => h y (.tail _ hy)
    rw [List.map_cons, List.reverse_cons, langC_append]
    constructor
    · rintro ⟨u, v, rfl, hu, hv⟩
      exact ⟨v.reverse, u.reverse, by simp, (h m (.head _) v).mp ((langC_one _ v).mp hv), (ih u).mp hu⟩
    · rintro ⟨u, v, e, hu, hv⟩
      refine ⟨v.reverse, u.reverse, ?_, (ih _).mpr (by rw [List.reverse_reverse]; exact hv), (langC_one _ _).mpr ((h m (.head _) _).mpr (by rw [List.reverse_reverse]; exact hu))⟩
      rw [← List.reverse_append, ← e, List.reverse_reverse]
theorem pow_add {L : List Nat → Prop} (k : Nat) : ∀ (m : Nat) (x y : List Nat), Pow L k x → Pow L m y → Pow L (k + m) (x ++ y)
  | 0, x, y, hx, hy => by have : y = [] := hy
                          subst this; rw [List.append_nil]; exact hx
  | m + 1, x, y, hx, ⟨u, v, e, hu, hv⟩ => by
    subst e
    exact ⟨x ++ u, v, by rw [List.append_assoc], pow_add k m x u hx hu, hv⟩
theorem pow_rev {L M : List Nat → Prop} (h : ∀ x, L x → M x.reverse) : ∀ (m : Nat) (x : List Nat), Pow L m x → Pow M m x.reverse
  | 0, x, e => by have : x = [] := e
                  subst this; rfl
  | m + 1, x, ⟨u, v, e, hu, hv⟩ => by
    subst e
    rw [List.reverse_append, Nat.add_comm]
    exact pow_add 1 m _ _ ⟨[], v.reverse, rfl, rfl, h v hv⟩ (pow_rev h m u hu)
theorem pow_rev_iff {L M : List Nat → Prop} (h : ∀ x, L x ↔ M x.reverse) (m : Nat) (x : List Nat) : Pow L m x ↔ Pow M m x.reverse :=
  ⟨pow_rev (fun x hx => (h x).mp hx) m x, fun e => by
    have := pow_rev (L := M) (M := L) (fun y hy => (h _).mpr (by rw [List.reverse_reverse]; exact hy)) m _ e
    rwa [List.reverse_reverse] at this⟩
theorem mir_star (b : N) : (N.star b).mir = .star b.mir := rfl
theorem mir_plus (b : N) : (N.plus b).mir = .plus b.mir := rfl
theorem mir_opt (b : N) : (N.opt b).mir = .opt b.mir := rfl
theorem mir_rep (b : N) (lo : Int) (hi : Option Int) : (N.rep b lo hi).mir = .rep b.mir lo hi := rfl
/-- the words of the mirrored node are the turned words -/
theorem mir_lang : ∀ (n : N) (x : List Nat), n.mir.lang x ↔ n.lang x.reverse := by
  refine N.row_ind ?_ ?_ ?_ ?_ ?_ ?_ ?_ ?_ ?_
  · intro x; show x = [] ↔ x.reverse = []; simp
  · intro x; exact Iff.rfl
  · intro t x
    show (∃ c, c ∈ t.cps.toList ∧ x = [c]) ↔ ∃ c, c ∈ t.cps.toList ∧ x.reverse = [c]
    constructor
    · rintro ⟨c, h, rfl⟩; exact ⟨c, h, rfl⟩
    · rintro ⟨c, h, e⟩; exact ⟨c, h, by have := congrArg List.reverse e; simpa using this⟩
  · intro l r ih x
    rw [mir_cat, catAll_lang, langC_rev _ ih, ← lang_C]
  · intro l r ih x
    rw [mir_alt, altAll_lang, lang_A]
    constructor
    · rintro ⟨_, hm', hx⟩
      obtain ⟨m, hm, rfl⟩ := List.mem_map.mp hm'
      exact ⟨m, hm, (ih m hm x).mp hx⟩
    · rintro ⟨m, hm, hx⟩
      exact ⟨_, List.mem_map_of_mem hm, (ih m hm x).mpr hx⟩
  · intro b ih x; rw [mir_star]; exact exists_congr fun m => pow_rev_iff ih m x
  · intro b ih x; rw [mir_plus]; exact exists_congr fun m => and_congr Iff.rfl (pow_rev_iff ih m x)
  · intro b ih x; rw [mir_opt]; exact exists_congr fun m => and_congr Iff.rfl (pow_rev_iff ih m x)
  · intro b lo hi ih x; rw [mir_rep]; exact exists_congr fun m => and_congr Iff.rfl (and_congr Iff.rfl (pow_rev_iff ih m x))

end Mine

end
section
-- G4
open PySem PySem.W PySem.Calls PyProof.Rows
set_option Elab.async false
set_option linter.all false
set_option maxRecDepth 100000
set_option maxHeartbeats 4000000
set_option genInjectivity false
set_option genSizeOfSpec false
namespace Mine
theorem leaves_C : ∀ n : N, ∀ m ∈ spineC n, ∀ t ∈ m.leaves, t ∈ n.leaves := by
  intro n
  induction n with
  | cat l r ih _ => exact fun m hm t q => (List.mem_append.mp hm).elim (fun hm => List.mem_append_left _ (ih m hm t q)) fun hm => List.mem_append_right _ (List.mem_singleton.mp hm ▸ q)
  | _ => exact fun m hm t q => List.mem_singleton.mp hm ▸ q
theorem leaves_A : ∀ n : N, ∀ m ∈ spineA n, ∀ t ∈ m.leaves, t ∈ n.leaves := by
  intro n
  induction n with
  | alt l r ih _ => exact fun m hm t q => (List.mem_append.mp hm).elim (fun hm => List.mem_append_left _ (ih m hm t q)) fun hm => List.mem_append_right _ (List.mem_singleton.mp hm ▸ q)
  | _ => exact fun m hm t q => List.mem_singleton.mp hm ▸ q
theorem wlen_A : ∀ n : N, ∀ m ∈ spineA n, m.wlen ≤ n.wlen := by
  intro n
  induction n with
  | alt l r ih _ => exact fun m hm => (List.mem_append.mp hm).elim (fun hm => Nat.le_trans (ih m hm) (Nat.le_max_left ..)) fun hm => List.mem_singleton.mp hm ▸ Nat.le_max_right ..
  | _ => exact fun m hm => List.mem_singleton.mp hm ▸ Nat.le_refl _
/-! ### what mirroring keeps -/
theorem wf_catAll : ∀ ms : List N, (∀ m ∈ ms, m.wf) → (catAll ms).wf := by
  have key : ∀ (ms : List N) (a : N), a.wf → (∀ m ∈ ms, m.wf) → (ms.foldl N.cat a).wf := by
    intro ms
    induction ms with
    | nil => intro a h _; exact h
    | cons m ms ih => intro a h hm; exact ih _ ⟨h, hm m (.head _)⟩ fun x hx => hm x (.tail _ hx)
  intro ms h
  cases ms with
  | nil => trivial
  | cons m ms => exact key ms m (h m (.head _)) fun x hx => h x (.tail _ hx)
theorem wf_altAll : ∀ ms : List N, (∀ m ∈ ms, m.wf) → (altAll ms).wf := by
  have key : ∀ (ms : List N) (a : N), a.wf → (∀ m ∈ ms, m.wf) → (ms.foldl N.alt a).wf := by
    intro ms
    induction ms with
    | nil => intro a h _; exact h
    | cons m ms ih => intro a h hm; exact ih _ ⟨h, hm m (.head _)⟩ fun x hx => hm x (.tail _ hx)
  intro ms h
  cases ms with
  | nil => trivial
  | cons m ms => exact key ms m (h m (.head _)) fun x hx => h x (.tail _ hx)
theorem mir_wf : ∀ n : N, n.wf → n.mir.wf := by
  refine N.row_ind ?_ ?_ ?_ ?_ ?_ ?_ ?_ ?_ ?_
  · exact id
  · exact id
  · exact fun t => id
  · intro l r ih hw
    rw [mir_cat]
    refine wf_catAll _ fun x hx => ?_
    obtain ⟨m, hm, rfl⟩ := List.mem_map.mp (List.mem_reverse.mp hx)
    exact ih m hm (wf_C _ hw m hm)
  · intro l r ih hw
    rw [mir_alt]
    refine wf_altAll _ fun x hx => ?_
    obtain ⟨m, hm, rfl⟩ := List.mem_map.mp hx
    exact ih m hm (wf_A _ hw m hm)
  · exact fun b ih => ih
  · exact fun b ih => ih
  · exact fun b ih => ih
  · exact fun b lo hi ih hw => ⟨ih hw.1, hw.2⟩
theorem leaves_catAll : ∀ (ms : List N), ∀ t ∈ (catAll ms).leaves, ∃ m ∈ ms, t ∈ m.leaves := by
  have key : ∀ (ms : List N) (a : N), ∀ t ∈ (ms.foldl N.cat a).leaves, t ∈ a.leaves ∨ ∃ m ∈ ms, t ∈ m.leaves := by
    intro ms
    induction ms with
    | nil => intro a t h; exact .inl h
    | cons m ms ih =>
      intro a t h
      rcases ih _ t h with h | ⟨x, hx, h⟩
      · rcases List.mem_append.mp h with h | h
        · exact .inl h
        · exact .inr ⟨m, .head _, h⟩
      · exact .inr ⟨x, .tail _ hx, h⟩
  intro ms t h
  cases ms with
  | nil => cases h
  | cons m ms => rcases key ms m t h with h | ⟨x, hx, h⟩
                 · exact ⟨m, .head _, h⟩
                 · exact ⟨x, .tail _ hx, h⟩
theorem leaves_altAll : ∀ (ms : List N), ∀ t ∈ (altAll ms).leaves, ∃ m ∈ ms, t ∈ m.leaves := by
  have key : ∀ (ms : List N) (a : N), ∀ t ∈ (ms.foldl N.alt a).leaves, t ∈ a.leaves ∨ ∃ m ∈ ms, t ∈ m.leaves := by
    intro ms
    induction ms with
    | nil => intro a t h; exact .inl h
    | cons m ms ih =>
      intro a t h
      rcases ih _ t h with h | ⟨x, hx, h⟩
      · rcases List.mem_append.mp h with h | h
        · exact .inl h
        · exact .inr ⟨m, .head _, h⟩
      · exact .inr ⟨x, .tail _ hx, h⟩
  intro ms t h
  cases ms with
  | nil => cases h
  | cons m ms => rcases key ms m t h with h | ⟨x, hx, h⟩
                 · exact ⟨m, .head _, h⟩
                 · exact ⟨x, .tail _ hx, h⟩
theorem mir_leaves : ∀ n : N, ∀ t ∈ n.mir.leaves, t ∈ n.leaves := by
  refine N.row_ind ?_ ?_ ?_ ?_ ?_ ?_ ?_ ?_ ?_
  · exact fun _ => id
  · exact fun _ => id
  · exact fun t _ => id
  · intro l r ih t h
    rw [mir_cat] at h
    obtain ⟨x, hx, h⟩ := leaves_catAll _ t h
    obtain ⟨m, hm, rfl⟩ := List.mem_map.mp (List.mem_reverse.mp hx)
    exact leaves_C _ m hm t (ih m hm t h)
  · intro l r ih t h
    rw [mir_alt] at h
    obtain ⟨x, hx, h⟩ := leaves_altAll _ t h
    obtain ⟨m, hm, rfl⟩ := List.mem_map.mp hx
    exact leaves_A _ m hm t (ih m hm t h)
  · exact fun b ih => ih
  · exact fun b ih => ih
  · exact fun b ih => ih
  · exact fun b lo hi ih => ih
/-- numbers of a row: the sum over its parts -/
theorem size_fold (f : N → N → N) (hf : ∀ a b, (f a b).size = a.size + b.size + 1) : ∀ (ms : List N) (a : N), (ms.foldl f a).size = a.size + (ms.map fun m => m.size + 1).sum
  | [], a => by simp
  | m :: ms, a => by rw [List.foldl_cons, size_fold f hf ms, hf]; simp; lia
theorem size_catAll (ms : List N) (h : ms ≠ []) : (catAll ms).size + 1 = (ms.map fun m => m.size + 1).sum := by
  cases ms with
  | nil => exact absurd rfl h
  | cons m ms => rw [show catAll (m :: ms) = ms.foldl N.cat m from rfl, size_fold _ (fun _ _ => rfl)]; simp; lia
theorem size_altAll (ms : List N) (h : ms ≠ []) : (altAll ms).size + 1 = (ms.map fun m => m.size + 1).sum := by
  cases ms with
  | nil => exact absurd rfl h
  | cons m ms => rw [show altAll (m :: ms) = ms.foldl N.alt m from rfl, size_fold _ (fun _ _ => rfl)]; simp; lia
theorem catAll_spine : ∀ n : N, catAll (spineC n) = n := by
  have fold : ∀ (ms : List N) (r : N), ms ≠ [] → catAll (ms ++ [r]) = .cat (catAll ms) r := by
    intro ms r h
    cases ms with
    | nil => exact absurd rfl h
    | cons m ms => simp [catAll]
  intro n
  induction n with
  | cat l r ih _ =>
    rw [show spineC (.cat l r) = spineC l ++ [r] from rfl, fold _ _ (by cases l <;> simp [spineC]), ih]
  | _ => rfl
theorem altAll_spine : ∀ n : N, altAll (spineA n) = n := by
  have fold : ∀ (ms : List N) (r : N), ms ≠ [] → altAll (ms ++ [r]) = .alt (altAll ms) r := by
    intro ms r h
    cases ms with
    | nil => exact absurd rfl h
    | cons m ms => simp [altAll]
  intro n
  induction n with
  | alt l r ih _ =>
    rw [show spineA (.alt l r) = spineA l ++ [r] from rfl, fold _ _ (by cases l <;> simp [spineA]), ih]
  | _ => rfl
theorem spineC_ne (n : N) : spineC n ≠ [] := by cases n <;> simp [spineC]
theorem spineA_ne (n : N) : spineA n ≠ [] := by cases n <;> simp [spineA]
theorem mir_size : ∀ n : N, n.mir.size = n.size := by
  refine N.row_ind ?_ ?_ ?_ ?_ ?_ ?_ ?_ ?_ ?_
  · rfl
  · rfl
  · exact fun t => rfl
  · intro l r ih
    have h1 := size_catAll ((spineC (.cat l r)).map N.mir).reverse (by simpa using spineC_ne _)
    have h2 := size_catAll (spineC (.cat l r)) (spineC_ne _)
    rw [← mir_cat, List.map_reverse, List.sum_reverse_nat, List.map_map] at h1
    rw [catAll_spine] at h2
    rw [List.map_congr_left (g := fun m : N => m.size + 1) (fun m hm => by simp [ih m hm])] at h1
    lia
  · intro l r ih
    have h1 := size_altAll ((spineA (.alt l r)).map N.mir) (by simpa using spineA_ne _)
    have h2 := size_altAll (spineA (.alt l r)) (spineA_ne _)
    rw [← mir_alt, List.map_map] at h1
    rw [altAll_spine] at h2
    rw [List.map_congr_left (g := fun m : N => m.size + 1) (fun m hm => by simp [ih m hm])] at h1
    lia
  · intro b ih; rw [mir_star]; simp only [N.size, ih]
  · intro b ih; rw [mir_plus]; simp only [N.size, ih]
  · intro b ih; rw [mir_opt]; simp only [N.size, ih]
  · intro b lo hi ih; rw [mir_rep]; simp only [N.size, ih]
theorem wlen_fold : ∀ (ms : List N) (a : N), (ms.foldl N.cat a).wlen = a.wlen + (ms.map N.wlen).sum
  | [], a => by simp
  | m :: ms, a => by rw [List.foldl_cons, wlen_fold ms]; simp [N.wlen]; lia
theorem wlen_catAll (ms : List N) : (catAll ms).wlen = (ms.map N.wlen).sum := by
  cases ms with
  | nil => rfl
  | cons m ms => rw [show catAll (m :: ms) = ms.foldl N.cat m from rfl, wlen_fold]; simp
theorem wlen_altAll (ms : List N) (k : Nat) (h : ∀ m ∈ ms, m.wlen ≤ k) : (altAll ms).wlen ≤ k := by
  have key : ∀ (ms : List N) (a : N), a.wlen ≤ k → (∀ m ∈ ms, m.wlen ≤ k) → (ms.foldl N.alt a).wlen ≤ k := by
    intro ms
    induction ms with
    | nil => intro a h _; exact h
    | cons m ms ih => intro a h hm; exact ih _ (by have := hm m (.head _); simp only [N.wlen]; lia) fun x hx => hm x (.tail _ hx)
  cases ms with
  | nil => exact Nat.zero_le _
  | cons m ms => exact key ms m (h m (.head _)) fun x hx => h x (.tail _ hx)
theorem sum_le {α : Type} (f g : α → Nat) : ∀ (l : List α), (∀ a ∈ l, f a ≤ g a) → (l.map f).sum ≤ (l.map g).sum
  | [], _ => Nat.le_refl _
  | a :: l, h => by
    have := sum_le f g l fun x hx => h x (.tail _ hx)
    have := h a (.head _)
    simp only [List.map_cons, List.sum_cons]; lia
theorem mir_wlen : ∀ n : N, n.mir.wlen ≤ n.wlen := by
  refine N.row_ind ?_ ?_ ?_ ?_ ?_ ?_ ?_ ?_ ?_
  · exact Nat.le_refl _
  · exact Nat.le_refl _
  · exact fun t => Nat.le_refl _
  · intro l r ih
    have h2 := wlen_catAll (spineC (.cat l r))
    rw [catAll_spine] at h2
    rw [mir_cat, wlen_catAll, List.map_reverse, List.sum_reverse_nat, List.map_map, h2]
    exact sum_le _ _ _ ih
  · intro l r ih
    rw [mir_alt]
    refine wlen_altAll _ _ fun x hx => ?_
    obtain ⟨m, hm, rfl⟩ := List.mem_map.mp hx
    exact Nat.le_trans (ih m hm) (wlen_A _ m hm)
  · intro b ih; exact Nat.le_refl _
  · intro b ih; exact ih
  · intro b ih; exact Nat.le_refl _
  · intro b lo hi ih
    rw [mir_rep]
    have := Nat.mul_le_mul_left lo.toNat ih
    simp only [N.wlen]; lia
/-! ### the longest words -/
theorem catM_pp {p q : Int} (h : ¬ p < 0) (k : ¬ q < 0) : catM (some p) (some q) = some (p + q) := by simp [catM, h, k]
theorem catM_n1 {p : Int} (q : Option Int) (h : p < 0) : catM (some p) q = some (-1) := by cases q <;> simp [catM, h]
theorem catM_n2 (p : Option Int) {q : Int} (h : q < 0) : catM p (some q) = some (-1) := by cases p <;> simp [catM, h]
theorem catM_i1 {p : Int} (h : ¬ p < 0) : catM (some p) none = none := by simp [catM, h]
theorem catM_i2 {p : Int} (h : ¬ p < 0) : catM none (some p) = none := by simp [catM, h]
theorem catM_rc (a x y : Option Int) : catM (catM a x) y = catM (catM a y) x := by
  have m1 : ∀ o, catM (some (-1)) o = some (-1) := fun o => catM_n1 o (by decide)
  have sg : ∀ o : Option Int, o = none ∨ (∃ p, o = some p ∧ p < 0) ∨ ∃ p, o = some p ∧ ¬ p < 0 := by
    intro o
    cases o with
    | none => exact .inl rfl
    | some p => by_cases h : p < 0
                · exact .inr (.inl ⟨p, rfl, h⟩)
                · exact .inr (.inr ⟨p, rfl, h⟩)
  have nn : catM none none = none := rfl
  rcases sg x with rfl | ⟨q, rfl, hq⟩ | ⟨q, rfl, hq⟩
  · rcases sg y with rfl | ⟨r, rfl, hr⟩ | ⟨r, rfl, hr⟩
    · rfl
    · rw [catM_n2 _ hr, catM_n2 _ hr, m1]
    · rcases sg a with rfl | ⟨p, rfl, hp⟩ | ⟨p, rfl, hp⟩
      · rw [nn, catM_i2 hr, nn]
      · rw [catM_n1 _ hp, catM_n1 _ hp, m1, m1]
      · rw [catM_i1 hp, catM_i2 hr, catM_pp hp hr, catM_i1 (by lia)]
  · rw [catM_n2 _ hq, catM_n2 _ hq, m1]
  · rcases sg y with rfl | ⟨r, rfl, hr⟩ | ⟨r, rfl, hr⟩
    · rcases sg a with rfl | ⟨p, rfl, hp⟩ | ⟨p, rfl, hp⟩
      · rw [nn, catM_i2 hq, nn]
      · rw [catM_n1 _ hp, catM_n1 _ hp, m1, m1]
      · rw [catM_i1 hp, catM_i2 hq, catM_pp hp hq, catM_i1 (by lia)]
    · rw [catM_n2 _ hr, catM_n2 _ hr, m1]
    · rcases sg a with rfl | ⟨p, rfl, hp⟩ | ⟨p, rfl, hp⟩
      · rw [catM_i2 hq, catM_i2 hr, catM_i2 hq]
      · rw [catM_n1 _ hp, catM_n1 _ hp, m1, m1]
      · rw [catM_pp hp hq, catM_pp hp hr, catM_pp (by lia) hr, catM_pp (by lia) hq]; congr 1; lia
theorem catL_fold : ∀ (ms : List N) (a : Option Int), catL a ms = ms.foldl (fun a m => catM a m.most) a
  | [], _ => rfl
  | m :: ms, a => catL_fold ms _
theorem catL_perm {xs ys : List N} (h : xs.Perm ys) (a : Option Int) : catL a xs = catL a ys := by
  rw [catL_fold, catL_fold]
  exact h.foldl_eq' (fun x _ y _ z => catM_rc _ _ _) a
theorem catL_map : ∀ (ms : List N) (f : N → N) (a : Option Int), (∀ m ∈ ms, (f m).most = m.most) → catL a (ms.map f) = catL a ms
  | [], _, _, _ => rfl
  | m :: ms, f, a, h => by
    simp only [List.map_cons, catL]
    rw [h m (.head _), catL_map ms f _ fun x hx => h x (.tail _ hx)]
theorem maxL_map : ∀ (ms : List N) (f : N → N) (a : Option Int), (∀ m ∈ ms, (f m).most = m.most) → maxL a (ms.map f) = maxL a ms
  | [], _, _, _ => rfl
  | m :: ms, f, a, h => by
    simp only [List.map_cons, maxL]
    rw [h m (.head _), maxL_map ms f _ fun x hx => h x (.tail _ hx)]
theorem most_fold_cat : ∀ (ms : List N) (a : N), (ms.foldl N.cat a).most = catL a.most ms
  | [], _ => rfl
  | m :: ms, a => by rw [List.foldl_cons, most_fold_cat ms]; rfl
theorem most_fold_alt : ∀ (ms : List N) (a : N), (ms.foldl N.alt a).most = maxL a.most ms
  | [], _ => rfl
  | m :: ms, a => by rw [List.foldl_cons, most_fold_alt ms]; rfl
theorem catM_zero (m : N) (w : m.wf) : catM (some 0) m.most = m.most := by
  have := most_norm m w
  cases e : m.most with
  | none => simp [catM]
  | some k => have := this k e; simp only [catM]; split <;> congr 1 <;> lia
theorem maxM_neg (m : N) (w : m.wf) : maxM (some (-1)) m.most = m.most := by
  have := most_norm m w
  cases e : m.most with
  | none => simp [maxM]
  | some k => have := this k e; simp only [maxM]; congr 1; lia
theorem most_catAll (ms : List N) (h : ∀ m ∈ ms, m.wf) : (catAll ms).most = catL (some 0) ms := by
  cases ms with
  | nil => rfl
  | cons m ms => rw [show catAll (m :: ms) = ms.foldl N.cat m from rfl, most_fold_cat]; simp only [catL]; rw [catM_zero m (h m (.head _))]
theorem most_altAll (ms : List N) (h : ∀ m ∈ ms, m.wf) : (altAll ms).most = maxL (some (-1)) ms := by
  cases ms with
  | nil => rfl
  | cons m ms => rw [show altAll (m :: ms) = ms.foldl N.alt m from rfl, most_fold_alt]; simp only [maxL]; rw [maxM_neg m (h m (.head _))]
theorem mir_most : ∀ n : N, n.wf → n.mir.most = n.most := by
  refine N.row_ind ?_ ?_ ?_ ?_ ?_ ?_ ?_ ?_ ?_
  · exact fun _ => rfl
  · exact fun _ => rfl
  · exact fun t _ => rfl
  · intro l r ih hw
    have hr := wf_C _ hw
    rw [mir_cat, most_catAll, catL_perm (List.reverse_perm _), catL_map _ _ _ fun m hm => ih m hm (hr m hm), catL_C _ hw]
    intro x hx
    obtain ⟨m, hm, rfl⟩ := List.mem_map.mp (List.mem_reverse.mp hx)
    exact mir_wf m (hr m hm)
  · intro l r ih hw
    have hr := wf_A _ hw
    rw [mir_alt, most_altAll, maxL_map _ _ _ fun m hm => ih m hm (hr m hm), maxL_A _ hw]
    intro x hx
    obtain ⟨m, hm, rfl⟩ := List.mem_map.mp hx
    exact mir_wf m (hr m hm)
  · intro b ih hw; rw [mir_star]; simp only [N.most, ih hw]
  · intro b ih hw; rw [mir_plus]; simp only [N.most, ih hw]
  · intro b ih hw; rw [mir_opt]; simp only [N.most, ih hw]
  · intro b lo hi ih hw; rw [mir_rep]; simp only [N.most, ih hw.1]
/-! ### the shortest words -/
theorem least_iff (n : N) (h : Best n) (hw : n.wf) (k : Int) : n.least = some k ↔ (∃ x, n.lang x ∧ (x.length : Int) = k) ∧ ∀ x, n.lang x → k ≤ x.length := by
  cases e : n.lword with
  | none =>
    have e' := h.of_none e
    rw [e']
    constructor
    · intro q; cases q
    · rintro ⟨⟨x, hx, _⟩, _⟩; exact absurd hx (no_lang hw e' x)
  | some x =>
    obtain ⟨h1, h2, h3⟩ := h.of_some e
    rw [h1]
    constructor
    · intro q; cases q
      exact ⟨⟨x, h2, rfl⟩, fun y hy => by obtain ⟨k, e, q⟩ := lang_least n hw y hy; rw [h1] at e; cases e; exact q⟩
    · rintro ⟨⟨y, hy, e2⟩, h4⟩
      have := h4 x h2
      obtain ⟨k', e3, q⟩ := lang_least n hw y hy
      rw [h1] at e3; cases e3
      congr 1; lia
theorem mir_least (n : N) (hw : n.wf) (ht : ∀ t ∈ n.leaves, t ∈ T7) : n.mir.least = n.least := by
  have b1 := best_ok n hw ht
  have b2 := best_ok n.mir (mir_wf n hw) fun t q => ht t (mir_leaves n t q)
  have key : ∀ k, n.mir.least = some k ↔ n.least = some k := by
    intro k
    rw [least_iff _ b2 (mir_wf n hw), least_iff _ b1 hw]
    constructor
    · rintro ⟨⟨x, hx, e⟩, h⟩
      exact ⟨⟨x.reverse, (mir_lang n x).mp hx, by simpa using e⟩, fun y hy => by
        have := h y.reverse ((mir_lang n _).mpr (by rw [List.reverse_reverse]; exact hy))
        simpa using this⟩
    · rintro ⟨⟨x, hx, e⟩, h⟩
      exact ⟨⟨x.reverse, (mir_lang n _).mpr (by rw [List.reverse_reverse]; exact hx), by simpa using e⟩, fun y hy => by
        have := h y.reverse ((mir_lang n y).mp hy)
        simpa using this⟩
  cases e : n.least with
  | some k => exact (key k).mpr e
  | none =>
    cases e2 : n.mir.least with
    | none => rfl
    | some k => rw [(key k).mp e2] at e; cases e
theorem canE_iff : ∀ n : N, n.wf → n.canE = decide (n.least = some 0) := by
  intro n hw
  have h1 := canE_least n hw
  have h2 : n.least = some 0 → n.canE = true := by
    clear h1
    induction n with
    | empty => intro _; rfl
    | never => intro h; cases h
    | chars t => intro h; simp only [N.least] at h; split at h <;> cases h
    | cat l r ih1 ih2 =>
      intro h
      simp only [N.least] at h
      cases e1 : l.least with
      | none => rw [e1] at h; cases h
      | some a =>
        cases e2 : r.least with
        | none => rw [e1, e2] at h; cases h
        | some b =>
          rw [e1, e2] at h
          have h' : a + b = 0 := by simpa [oadd] using h
          have := least_nn l hw.1 a e1; have := least_nn r hw.2 b e2
          have ha : a = 0 := by lia
          have hb : b = 0 := by lia
          subst ha; subst hb
          simp only [N.canE, ih1 hw.1 e1, ih2 hw.2 e2]; rfl
    | alt l r ih1 ih2 =>
      intro h
      simp only [N.least] at h
      simp only [N.canE, Bool.or_eq_true]
      cases e1 : l.least with
      | none => rw [e1] at h; exact .inr (ih2 hw.2 (by simpa [omin] using h))
      | some a =>
        cases e2 : r.least with
        | none => rw [e1, e2] at h; exact .inl (ih1 hw.1 (by rw [e1]; simpa [omin] using h))
        | some b =>
          rw [e1, e2] at h
          have h' : min a b = 0 := by simpa [omin] using h
          by_cases q : a = 0
          · exact .inl (ih1 hw.1 (by rw [e1, q]))
          · exact .inr (ih2 hw.2 (by rw [e2]; congr 1; lia))
    | star b _ => intro _; rfl
    | opt b _ => intro _; rfl
    | plus b ih => exact ih hw
    | rep b lo hi ih =>
      intro h
      simp only [N.least] at h
      simp only [N.canE, Bool.or_eq_true]
      cases e1 : b.least with
      | none => rw [e1] at h; left; by_cases q : (lo == 0) = true
                · exact q
                · simp only [q] at h; cases h
      | some a =>
        rw [e1] at h
        have h' : a * lo = 0 := by simpa using h
        rcases Int.mul_eq_zero.mp h' with q | q
        · exact .inr (ih hw.1 (by rw [e1, q]))
        · left; simpa using q
  by_cases q : n.least = some 0
  · rw [h2 q]; simp [q]
  · cases e : n.canE with
    | true => exact absurd (h1 e) q
    | false => simp [q]

end Mine

end
section
-- G5
open PySem PySem.W PySem.Calls PyProof.Rows
set_option Elab.async false
set_option linter.all false
set_option maxRecDepth 100000
set_option maxHeartbeats 4000000
set_option genInjectivity false
set_option genSizeOfSpec false
namespace Mine
/-! ### mirrored again -/
noncomputable def N.isCat : N → Bool
  | .cat .. => true
  | _ => false
noncomputable def N.isAlt : N → Bool
  | .alt .. => true
  | _ => false
theorem spineC_one {n : N} (h : n.isCat = false) : spineC n = [n] := by cases n <;> first | rfl | cases h
theorem spineA_one {n : N} (h : n.isAlt = false) : spineA n = [n] := by cases n <;> first | rfl | cases h
theorem spineC_fold : ∀ (ms : List N) (a : N), spineC (ms.foldl N.cat a) = spineC a ++ ms
  | [], a => by simp
  | m :: ms, a => by rw [List.foldl_cons, spineC_fold ms]; simp [spineC]
theorem spineA_fold : ∀ (ms : List N) (a : N), spineA (ms.foldl N.alt a) = spineA a ++ ms
  | [], a => by simp
  | m :: ms, a => by rw [List.foldl_cons, spineA_fold ms]; simp [spineA]
theorem spineC_head : ∀ n : N, ∃ m ms, spineC n = m :: ms ∧ m.isCat = false := by
  intro n
  induction n with
  | cat l r ih _ => obtain ⟨m, ms, h, q⟩ := ih; exact ⟨m, ms ++ [r], by simp [spineC, h], q⟩
  | _ => exact ⟨_, [], rfl, rfl⟩
theorem spineA_head : ∀ n : N, ∃ m ms, spineA n = m :: ms ∧ m.isAlt = false := by
  intro n
  induction n with
  | alt l r ih _ => obtain ⟨m, ms, h, q⟩ := ih; exact ⟨m, ms ++ [r], by simp [spineA, h], q⟩
  | _ => exact ⟨_, [], rfl, rfl⟩
/-- the rows end in no row of their own -/
inductive Gd : N → Prop where
  | empty : Gd .empty
  | never : Gd .never
  | chars (t : Str) : Gd (.chars t)
  | cat (l r : N) : (∀ m ∈ spineC (.cat l r), Gd m) → r.isCat = false → Gd (.cat l r)
  | alt (l r : N) : (∀ m ∈ spineA (.alt l r), Gd m) → Gd (.alt l r)
  | star (b : N) : Gd b → Gd (.star b)
  | plus (b : N) : Gd b → Gd (.plus b)
  | opt (b : N) : Gd b → Gd (.opt b)
  | rep (b : N) (lo : Int) (hi : Option Int) : Gd b → Gd (.rep b lo hi)
theorem Gd.rowC {n : N} (h : Gd n) : ∀ m ∈ spineC n, Gd m := by
  cases h with
  | cat l r h _ => exact h
  | _ => intro m hm; simp only [spineC, List.mem_singleton] at hm; subst hm; constructor <;> assumption
theorem Gd.rowA {n : N} (h : Gd n) : ∀ m ∈ spineA n, Gd m := by
  cases h with
  | alt l r h => exact h
  | _ => intro m hm; simp only [spineA, List.mem_singleton] at hm; subst hm; constructor <;> assumption
theorem fold_cat_last (ms : List N) (a r : N) : (ms ++ [r]).foldl N.cat a = .cat (ms.foldl N.cat a) r := by simp
theorem fold_alt_last (ms : List N) (a r : N) : (ms ++ [r]).foldl N.alt a = .alt (ms.foldl N.alt a) r := by simp
theorem catAll_last (ms : List N) (r : N) (h : ms ≠ []) : catAll (ms ++ [r]) = .cat (catAll ms) r := by
  cases ms with
  | nil => exact absurd rfl h
  | cons m ms => exact fold_cat_last ms m r
theorem altAll_last (ms : List N) (r : N) (h : ms ≠ []) : altAll (ms ++ [r]) = .alt (altAll ms) r := by
  cases ms with
  | nil => exact absurd rfl h
  | cons m ms => exact fold_alt_last ms m r
/-- a row of two or more is a cat, and what is no cat stays none -/
theorem rowC_two (l r : N) : ∃ m ms z, spineC (.cat l r) = m :: ms ++ [z] ∧ z = r ∧ m.isCat = false := by
  obtain ⟨m, ms, h, q⟩ := spineC_head l
  exact ⟨m, ms, r, by simp [spineC, h], rfl, q⟩
theorem rowA_two (l r : N) : ∃ m ms z, spineA (.alt l r) = m :: ms ++ [z] ∧ z = r ∧ m.isAlt = false := by
  obtain ⟨m, ms, h, q⟩ := spineA_head l
  exact ⟨m, ms, r, by simp [spineA, h], rfl, q⟩
theorem mir_isCat (n : N) : n.mir.isCat = n.isCat := by
  cases n with
  | cat l r =>
    obtain ⟨m, ms, z, h, _, _⟩ := rowC_two l r
    rw [mir_cat, h]
    rw [List.cons_append, List.map_cons, List.reverse_cons, catAll_last _ _ (by simp)]; rfl
  | alt l r =>
    obtain ⟨m, ms, z, h, _, _⟩ := rowA_two l r
    rw [mir_alt, h, List.map_append, List.map_singleton, altAll_last _ _ (by simp)]; rfl
  | _ => rfl
theorem mir_isAlt (n : N) : n.mir.isAlt = n.isAlt := by
  cases n with
  | cat l r =>
    obtain ⟨m, ms, z, h, _, _⟩ := rowC_two l r
    rw [mir_cat, h]
    rw [List.cons_append, List.map_cons, List.reverse_cons, catAll_last _ _ (by simp)]; rfl
  | alt l r =>
    obtain ⟨m, ms, z, h, _, _⟩ := rowA_two l r
    rw [mir_alt, h, List.map_append, List.map_singleton, altAll_last _ _ (by simp)]; rfl
  | _ => rfl
theorem spineC_catAll (m : N) (ms : List N) : spineC (catAll (m :: ms)) = spineC m ++ ms := spineC_fold ms m
theorem spineA_altAll (m : N) (ms : List N) : spineA (altAll (m :: ms)) = spineA m ++ ms := spineA_fold ms m
/-- a mirrored node's rows end well -/
theorem mir_gd : ∀ n : N, Gd n.mir := by
  refine N.row_ind ?_ ?_ ?_ ?_ ?_ ?_ ?_ ?_ ?_
  · exact .empty
  · exact .never
  · exact .chars
  · intro l r ih
    obtain ⟨m, ms, z, h, _, hm⟩ := rowC_two l r
    have e : (N.cat l r).mir = (catAll ((ms ++ [z]).map N.mir).reverse).cat m.mir := by
      rw [mir_cat, h, List.cons_append, List.map_cons, List.reverse_cons, catAll_last _ _ (by simp)]
    have e2 : spineC (N.cat l r).mir = spineC z.mir ++ ((m :: ms).map N.mir).reverse := by
      rw [mir_cat, h]
      rw [List.map_append, List.map_singleton, List.reverse_append, List.reverse_singleton, List.singleton_append, spineC_catAll]
    have good : ∀ x ∈ spineC (N.cat l r).mir, Gd x := by
      intro x hx
      rw [e2, List.mem_append] at hx
      rcases hx with hx | hx
      · exact (ih z (by rw [h]; simp)).rowC x hx
      · obtain ⟨y, hy, rfl⟩ := List.mem_map.mp (List.mem_reverse.mp hx)
        exact ih y (by rw [h]; exact List.mem_append_left _ hy)
    rw [e] at good ⊢
    exact .cat _ _ good (by rw [mir_isCat]; exact hm)
  · intro l r ih
    obtain ⟨m, ms, z, h, _, hm⟩ := rowA_two l r
    have e : (N.alt l r).mir = (altAll ((m :: ms).map N.mir)).alt z.mir := by
      rw [mir_alt, h, List.map_append, List.map_singleton, altAll_last _ _ (by simp)]
    have e2 : spineA (N.alt l r).mir = (spineA (.alt l r)).map N.mir := by
      rw [mir_alt, h, List.cons_append, List.map_cons, spineA_altAll, spineA_one (by rw [mir_isAlt]; exact hm)]; rfl
    have good : ∀ x ∈ spineA (N.alt l r).mir, Gd x := by
      intro x hx
      rw [e2] at hx
      obtain ⟨y, hy, rfl⟩ := List.mem_map.mp hx
      exact ih y hy
    rw [e] at good ⊢
    exact .alt _ _ good
  · exact fun b ih => .star _ ih
  · exact fun b ih => .plus _ ih
  · exact fun b ih => .opt _ ih
  · exact fun b lo hi ih => .rep _ _ _ ih
theorem mir_mir {n : N} (h : Gd n) : n.mir.mir = n := by
  induction h with
  | empty => rfl
  | never => rfl
  | chars t => rfl
  | cat l r hr hz ih =>
    obtain ⟨m, ms, z, h, hzr, hm⟩ := rowC_two l r
    have e2 : spineC (N.cat l r).mir = ((spineC (N.cat l r)).map N.mir).reverse := by
      rw [mir_cat, h]
      rw [List.map_append, List.map_singleton, List.reverse_append, List.reverse_singleton, List.singleton_append, spineC_catAll, spineC_one (by rw [mir_isCat, hzr]; exact hz)]; rfl
    have hc : (N.cat l r).mir.isCat = true := mir_isCat _
    cases e3 : (N.cat l r).mir with
    | cat l2 r2 =>
      rw [mir_cat, ← e3, e2, List.map_reverse, List.reverse_reverse, List.map_map]
      rw [List.map_congr_left (f := N.mir ∘ N.mir) (g := id) (fun x hx => ih x hx), List.map_id, catAll_spine]
    | _ => rw [e3] at hc; cases hc
  | alt l r hr ih =>
    obtain ⟨m, ms, z, h, hzr, hm⟩ := rowA_two l r
    have e2 : spineA (N.alt l r).mir = (spineA (.alt l r)).map N.mir := by
      rw [mir_alt, h, List.cons_append, List.map_cons, spineA_altAll, spineA_one (by rw [mir_isAlt]; exact hm)]; rfl
    have hc : (N.alt l r).mir.isAlt = true := mir_isAlt _
    cases e3 : (N.alt l r).mir with
    | alt l2 r2 =>
      rw [mir_alt, ← e3, e2, List.map_map]
      rw [List.map_congr_left (f := N.mir ∘ N.mir) (g := id) (fun x hx => ih x hx), List.map_id, altAll_spine]
    | _ => rw [e3] at hc; cases hc
  | star b _ ih => rw [mir_star, mir_star, ih]
  | plus b _ ih => rw [mir_plus, mir_plus, ih]
  | opt b _ ih => rw [mir_opt, mir_opt, ih]
  | rep b lo hi _ ih => rw [mir_rep, mir_rep, ih]
theorem mir3 (n : N) : n.mir.mir.mir = n.mir := mir_mir (mir_gd n)
/-! ### the drawn nodes -/
theorem drawn_wf : ∀ (n : N) (d k : Nat), n.drawn d k → n.wf := by
  intro n
  induction n with
  | cat l r h1 h2 => intro d k h; exact ⟨h1 _ _ h.2.1, h2 _ _ h.2.2⟩
  | alt l r h1 h2 => intro d k h; exact ⟨h1 _ _ h.2.1, h2 _ _ h.2.2⟩
  | star b ih => intro d k h; exact ih _ _ h.2.2
  | plus b ih => intro d k h; exact ih _ _ h.2.2
  | opt b ih => intro d k h; exact ih _ _ h.2.2
  | rep b lo hi ih => intro d k h; exact ⟨ih _ _ h.2.2.1, h.2.2.2.1, by have := h.2.2.2.2.1; lia, h.2.2.2.2.2⟩
  | _ => intro _ _ _; trivial
theorem drawn_leaves : ∀ (n : N) (d k : Nat), n.drawn d k → ∀ t ∈ n.leaves, t ∈ T7 := by
  intro n
  induction n with
  | cat l r h1 h2 => intro d k h t ht; rcases List.mem_append.mp ht with q | q
                     · exact h1 _ _ h.2.1 t q
                     · exact h2 _ _ h.2.2 t q
  | alt l r h1 h2 => intro d k h t ht; rcases List.mem_append.mp ht with q | q
                     · exact h1 _ _ h.2.1 t q
                     · exact h2 _ _ h.2.2 t q
  | star b ih => intro d k h; exact ih _ _ h.2.2
  | plus b ih => intro d k h; exact ih _ _ h.2.2
  | opt b ih => intro d k h; exact ih _ _ h.2.2
  | rep b lo hi ih => intro d k h; exact ih _ _ h.2.2.1
  | chars s => intro d k h t ht; simp only [N.leaves, List.mem_singleton] at ht; subst ht; exact h
  | _ => intro _ _ _ t ht; cases ht
noncomputable def szB : Nat → Nat
  | 0 => 1
  | d + 1 => 2 * szB d + 1
theorem szB_pos : ∀ d, 1 ≤ szB d
  | 0 => Nat.le_refl _
  | d + 1 => by simp only [szB]; lia
theorem drawn_size : ∀ (n : N) (d k : Nat), n.drawn d k → n.size ≤ szB d := by
  intro n
  induction n with
  | cat l r h1 h2 =>
    intro d k h
    obtain ⟨d, rfl⟩ : ∃ e, d = e + 1 := ⟨d - 1, by have := h.1; lia⟩
    have := h1 _ _ h.2.1; have := h2 _ _ h.2.2
    simp only [N.size, szB, Nat.add_sub_cancel] at *; lia
  | alt l r h1 h2 =>
    intro d k h
    obtain ⟨d, rfl⟩ : ∃ e, d = e + 1 := ⟨d - 1, by have := h.1; lia⟩
    have := h1 _ _ h.2.1; have := h2 _ _ h.2.2
    simp only [N.size, szB, Nat.add_sub_cancel] at *; lia
  | star b ih =>
    intro d k h
    obtain ⟨d, rfl⟩ : ∃ e, d = e + 1 := ⟨d - 1, by have := h.1; lia⟩
    have := ih _ _ h.2.2
    simp only [N.size, szB, Nat.add_sub_cancel] at *; lia
  | plus b ih =>
    intro d k h
    obtain ⟨d, rfl⟩ : ∃ e, d = e + 1 := ⟨d - 1, by have := h.1; lia⟩
    have := ih _ _ h.2.2
    simp only [N.size, szB, Nat.add_sub_cancel] at *; lia
  | opt b ih =>
    intro d k h
    obtain ⟨d, rfl⟩ : ∃ e, d = e + 1 := ⟨d - 1, by have := h.1; lia⟩
    have := ih _ _ h.2.2
    simp only [N.size, szB, Nat.add_sub_cancel] at *; lia
  | rep b lo hi ih =>
    intro d k h
    obtain ⟨d, rfl⟩ : ∃ e, d = e + 1 := ⟨d - 1, by have := h.1; lia⟩
    have := ih _ _ h.2.2.1
    simp only [N.size, szB, Nat.add_sub_cancel] at *; lia
  | _ => intro d k _; exact szB_pos d
noncomputable def wlB : Nat → Nat
  | 0 => 1
  | d + 1 => 3 * wlB d
theorem wlB_pos : ∀ d, 1 ≤ wlB d
  | 0 => Nat.le_refl _
  | d + 1 => by have := wlB_pos d; simp only [wlB]; lia
theorem drawn_wlen : ∀ (n : N) (d k : Nat), n.drawn d k → n.wlen ≤ wlB d := by
  intro n
  induction n with
  | cat l r h1 h2 =>
    intro d k h
    obtain ⟨d, rfl⟩ : ∃ e, d = e + 1 := ⟨d - 1, by have := h.1; lia⟩
    have := h1 _ _ h.2.1; have := h2 _ _ h.2.2
    simp only [N.wlen, wlB, Nat.add_sub_cancel] at *; lia
  | alt l r h1 h2 =>
    intro d k h
    obtain ⟨d, rfl⟩ : ∃ e, d = e + 1 := ⟨d - 1, by have := h.1; lia⟩
    have := h1 _ _ h.2.1; have := h2 _ _ h.2.2
    simp only [N.wlen, wlB, Nat.add_sub_cancel] at *; lia
  | plus b ih =>
    intro d k h
    obtain ⟨d, rfl⟩ : ∃ e, d = e + 1 := ⟨d - 1, by have := h.1; lia⟩
    have := ih _ _ h.2.2
    simp only [N.wlen, wlB, Nat.add_sub_cancel] at *; lia
  | rep b lo hi ih =>
    intro d k h
    obtain ⟨d, rfl⟩ : ∃ e, d = e + 1 := ⟨d - 1, by have := h.1; lia⟩
    have h1 := ih _ _ h.2.2.1
    have h2 : lo.toNat * b.wlen ≤ 3 * b.wlen := Nat.mul_le_mul_right _ (by have := h.2.2.2.2.1; lia)
    simp only [N.wlen, wlB, Nat.add_sub_cancel] at *; lia
  | chars t => intro d k _; exact wlB_pos d
  | _ => intro d k _; exact Nat.zero_le _

end Mine

end
section
-- G6
open PySem PySem.W PySem.Calls PyProof.Rows
set_option Elab.async false
set_option linter.all false
set_option maxRecDepth 100000
set_option maxHeartbeats 4000000
set_option genInjectivity false
set_option genSizeOfSpec false
namespace Mine
/-! ### the law's own lengths -/
theorem t7_size : ∀ t ∈ T7, (t = "" ↔ (t.cps.size == 0) = true) := by
  intro t ht
  simp only [T7, List.mem_cons, List.not_mem_nil, or_false] at ht
  rcases ht with rfl | rfl | rfl | rfl | rfl | rfl | rfl <;> decide +kernel
theorem ends_least (R : Int) : ∀ n : N, (∀ t ∈ n.leaves, t ∈ T7) → n.least = (n.ends R).map (·.1) := by
  intro n
  induction n with
  | empty => intro _; rfl
  | never => intro _; rfl
  | chars t =>
    intro ht
    have := t7_size t (ht t (by simp [N.leaves]))
    simp only [N.least, N.ends]
    by_cases q : t = ""
    · rw [if_pos q, if_pos (this.mp q)]; rfl
    · rw [if_neg q, if_neg (fun h => q (this.mpr h))]; rfl
  | cat l r h1 h2 =>
    intro ht
    simp only [N.least, N.ends, h1 (fun t q => ht t (by simp [N.leaves, q])), h2 (fun t q => ht t (by simp [N.leaves, q]))]
    cases l.ends R <;> cases r.ends R <;> rfl
  | alt l r h1 h2 =>
    intro ht
    simp only [N.least, N.ends, h1 (fun t q => ht t (by simp [N.leaves, q])), h2 (fun t q => ht t (by simp [N.leaves, q]))]
    cases l.ends R <;> cases r.ends R <;> rfl
  | star b ih => intro ht; simp only [N.least, N.ends]; cases b.ends R <;> simp
  | opt b ih => intro ht; simp only [N.least, N.ends]; cases b.ends R <;> simp
  | plus b ih => intro ht; simp only [N.least, N.ends, ih ht]; cases b.ends R <;> simp
  | rep b lo hi ih =>
    intro ht
    simp only [N.least, N.ends, ih ht]
    cases b.ends R with
    | none => by_cases q : lo = 0 <;> simp [q]
    | some a => rfl
/-- what the upper end is -/
noncomputable def TopOk (n : N) (R B : Int) : Prop := match n.most with
  | none => ∃ a b c, n.ends R = some (a, b) ∧ n.ends (R + 1) = some (a, c) ∧ R ≤ b ∧ b < c
  | some k => (k < 0 → n.ends R = none ∧ n.ends (R + 1) = none) ∧ (0 ≤ k → k ≤ B ∧ ∃ a, n.ends R = some (a, k) ∧ n.ends (R + 1) = some (a, k))
noncomputable def tpB : Nat → Int
  | 0 => 1
  | d + 1 => 40 * tpB d
theorem tpB_pos : ∀ d, 1 ≤ tpB d
  | 0 => Int.le_refl _
  | d + 1 => by have := tpB_pos d; simp only [tpB]; lia
theorem TopOk.mono {n : N} {R B C : Int} (h : TopOk n R B) (q : B ≤ C) : TopOk n R C := by
  unfold TopOk at *
  cases e : n.most with
  | none => rw [e] at h; exact h
  | some k => rw [e] at h; exact ⟨h.1, fun h0 => ⟨Int.le_trans (h.2 h0).1 q, (h.2 h0).2⟩⟩
theorem TopOk.none {n : N} {R B : Int} (h : TopOk n R B) (e : n.most = none) : ∃ a b c, n.ends R = some (a, b) ∧ n.ends (R + 1) = some (a, c) ∧ R ≤ b ∧ b < c := by unfold TopOk at h; rw [e] at h; exact h
theorem TopOk.some {n : N} {R B k : Int} (h : TopOk n R B) (e : n.most = some k) : (k < 0 → n.ends R = .none ∧ n.ends (R + 1) = .none) ∧ (0 ≤ k → k ≤ B ∧ ∃ a, n.ends R = .some (a, k) ∧ n.ends (R + 1) = .some (a, k)) := by unfold TopOk at h; rw [e] at h; exact h
theorem TopOk.three {n : N} {R B : Int} (hw : n.wf) (h : TopOk n R B) : (n.most = .none ∧ ∃ a b c, n.ends R = .some (a, b) ∧ n.ends (R + 1) = .some (a, c) ∧ R ≤ b ∧ b < c) ∨ (n.most = .some (-1) ∧ n.ends R = .none ∧ n.ends (R + 1) = .none) ∨
    (∃ k a, n.most = .some k ∧ 0 ≤ k ∧ k ≤ B ∧ n.ends R = .some (a, k) ∧ n.ends (R + 1) = .some (a, k)) := by
  cases e : n.most with
  | none => exact .inl ⟨rfl, h.none e⟩
  | some k =>
    have := most_norm n hw k e
    by_cases q : k < 0
    · have : k = -1 := by lia
      subst this
      exact .inr (.inl ⟨rfl, (h.some e).1 q⟩)
    · obtain ⟨h1, a, h2, h3⟩ := (h.some e).2 (by lia)
      exact .inr (.inr ⟨k, a, rfl, by lia, h1, h2, h3⟩)
theorem topOk_none {n : N} {R B : Int} (e : n.most = .none) {a b c : Int} (h1 : n.ends R = .some (a, b)) (h2 : n.ends (R + 1) = .some (a, c)) (h3 : R ≤ b) (h4 : b < c) : TopOk n R B := by
  unfold TopOk; rw [e]; exact ⟨a, b, c, h1, h2, h3, h4⟩
theorem topOk_neg {n : N} {R B : Int} (e : n.most = .some (-1)) (h1 : n.ends R = .none) (h2 : n.ends (R + 1) = .none) : TopOk n R B := by
  unfold TopOk; rw [e]; exact ⟨fun _ => ⟨h1, h2⟩, fun h => absurd h (by decide)⟩
theorem topOk_some {n : N} {R B k a : Int} (e : n.most = .some k) (h0 : 0 ≤ k) (hB : k ≤ B) (h1 : n.ends R = .some (a, k)) (h2 : n.ends (R + 1) = .some (a, k)) : TopOk n R B := by
  unfold TopOk; rw [e]; exact ⟨fun h => absurd h (by lia), fun _ => ⟨hB, a, h1, h2⟩⟩
theorem mul_up {R b t s c : Int} (h1 : R ≤ b) (h2 : b < c) (h3 : 1 ≤ t) (h4 : t ≤ s) (h0 : 0 ≤ R) : R ≤ b * t ∧ b * t < c * s := by
  have a1 : b * 1 ≤ b * t := Int.mul_le_mul_of_nonneg_left h3 (by lia)
  have a2 : b * t < c * t := Int.mul_lt_mul_of_pos_right h2 (by lia)
  have a3 : c * t ≤ c * s := Int.mul_le_mul_of_nonneg_left h4 (by lia)
  lia
theorem top_loop (n b : N) (lo : Int) (hi : Option Int) (R B : Int) (hwb : b.wf) (hR : 1 ≤ R) (h0 : 0 ≤ lo) (hh : ∀ h, hi = .some h → lo ≤ h ∧ h ≤ 40) (hm : n.most = loopM lo hi b.most)
    (he : ∀ S : Int, n.ends S = match b.ends S with
      | .none => if lo = 0 then .some (0, 0) else .none
      | .some a => .some (a.1 * lo, a.2 * hiAt hi (lo + S))) (hb : TopOk b R B) (hB : 1 ≤ B) : TopOk n R (40 * B) := by
  have none_case : ∀ S, b.ends S = .none → n.ends S = if lo = 0 then .some (0, 0) else .none := fun S e => by rw [he S, e]
  have some_case : ∀ S a, b.ends S = .some a → n.ends S = .some (a.1 * lo, a.2 * hiAt hi (lo + S)) := fun S a e => by rw [he S, e]
  rcases hb.three hwb with ⟨e, a, p, q, e1, e2, h3, h4⟩ | ⟨e, e1, e2⟩ | ⟨k, a, e, k0, kB, e1, e2⟩
  · rw [e] at hm
    have n1 := some_case _ _ e1
    have n2 := some_case _ _ e2
    cases hi with
    | none =>
      obtain ⟨u1, u2⟩ := mul_up (t := lo + R) (s := lo + (R + 1)) h3 h4 (by lia) (by lia) (by lia)
      exact topOk_none hm n1 n2 u1 u2
    | some h =>
      by_cases z : h = 0
      · subst z
        refine topOk_some (k := 0) (a := a * lo) (by rw [hm]; rfl) (Int.le_refl _) (by lia) (by rw [n1]; simp [hiAt]) (by rw [n2]; simp [hiAt])
      · obtain ⟨u1, u2⟩ := mul_up (t := h) (s := h) h3 h4 (by have := hh h rfl; lia) (by lia) (by lia)
        exact topOk_none (by rw [hm]; simp [loopM, z]) n1 n2 u1 u2
  · rw [e] at hm
    have n1 := none_case _ e1
    have n2 := none_case _ e2
    by_cases z : lo = 0
    · rw [if_pos z] at n1 n2
      exact topOk_some (k := 0) (a := 0) (by rw [hm]; unfold loopM; split <;> simp [z]) (Int.le_refl _) (by lia) n1 n2
    · rw [if_neg z] at n1 n2
      refine topOk_neg (by rw [hm]; unfold loopM; rw [if_neg]
                           · simp [z]
                           · intro h; have := hh 0 h; lia) n1 n2
  · rw [e] at hm
    have n1 := some_case _ _ e1
    have n2 := some_case _ _ e2
    by_cases zk : k = 0
    · subst zk
      exact topOk_some (k := 0) (a := a * lo) (by rw [hm]; unfold loopM; split <;> simp) (Int.le_refl _) (by lia) (by rw [n1]; simp) (by rw [n2]; simp)
    · cases hi with
      | none =>
        obtain ⟨u1, u2⟩ : R ≤ k * (lo + R) ∧ k * (lo + R) < k * (lo + (R + 1)) := by
          have a1 : 1 * (lo + R) ≤ k * (lo + R) := Int.mul_le_mul_of_nonneg_right (by lia) (by lia)
          have a2 : k * (lo + R) < k * (lo + (R + 1)) := Int.mul_lt_mul_of_pos_left (by lia) (by lia)
          lia
        exact topOk_none (by rw [hm]; unfold loopM; rw [if_neg (by simp)]; simp only; rw [if_neg (by lia), if_neg zk]) n1 n2 u1 u2
      | some h =>
        have hb := hh h rfl
        by_cases z : h = 0
        · subst z
          exact topOk_some (k := 0) (a := a * lo) (by rw [hm]; rfl) (Int.le_refl _) (by lia) (by rw [n1]; simp [hiAt]) (by rw [n2]; simp [hiAt])
        · refine topOk_some (k := k * h) (a := a * lo) (by rw [hm]; unfold loopM; rw [if_neg (by simpa using z)]; simp only; rw [if_neg (by lia), if_neg zk]) (Int.mul_nonneg k0 (by lia)) ?_ n1 n2
          have a1 : k * h ≤ k * 40 := Int.mul_le_mul_of_nonneg_left hb.2 k0
          lia
theorem ends_top (R : Int) (hR : 1 ≤ R) : ∀ (n : N) (d k : Nat), n.drawn d k → tpB d ≤ R → TopOk n R (tpB d) := by
  intro n
  induction n with
  | empty => intro d k _ hd; exact topOk_some (k := 0) rfl (Int.le_refl _) (by have := tpB_pos d; lia) rfl rfl
  | never => intro d k _ hd; exact topOk_neg rfl rfl rfl
  | chars t =>
    intro d k ht hd
    have := t7_size t ht
    by_cases q : t = ""
    · refine topOk_neg ?_ ?_ ?_
      · simp only [N.most]; rw [if_pos (this.mp q)]
      · simp only [N.ends]; rw [if_pos q]
      · simp only [N.ends]; rw [if_pos q]
    · refine topOk_some (k := 1) (a := 1) ?_ (by decide) (tpB_pos d) ?_ ?_
      · simp only [N.most]; rw [if_neg (fun h => q (this.mpr h))]
      · simp only [N.ends]; rw [if_neg q]
      · simp only [N.ends]; rw [if_neg q]
  | cat l r h1 h2 =>
    intro d k h hd
    obtain ⟨d, rfl⟩ : ∃ e, d = e + 1 := ⟨d - 1, by have := h.1; lia⟩
    have hp := tpB_pos d
    simp only [tpB] at hd
    have t1 := (h1 _ _ h.2.1 (by rw [Nat.add_sub_cancel]; lia)).three (drawn_wf _ _ _ h.2.1)
    have t2 := (h2 _ _ h.2.2 (by rw [Nat.add_sub_cancel]; lia)).three (drawn_wf _ _ _ h.2.2)
    rw [Nat.add_sub_cancel] at t1 t2
    rcases t1 with ⟨e, a, p, q, e1, e2, h3, h4⟩ | ⟨e, e1, e2⟩ | ⟨k, a, e, k0, kB, e1, e2⟩
    · rcases t2 with ⟨f, a', p', q', f1, f2, g3, g4⟩ | ⟨f, f1, f2⟩ | ⟨k', a', f, k0', kB', f1, f2⟩
      · refine topOk_none (a := a + a') (b := p + p') (c := q + q') ?_ ?_ ?_ (by lia) (by lia)
        · simp only [N.most, e, f]; rfl
        · simp only [N.ends, e1, f1]
        · simp only [N.ends, e2, f2]
      · refine topOk_neg ?_ ?_ ?_
        · simp only [N.most, e, f]; rfl
        · simp only [N.ends, e1, f1]
        · simp only [N.ends, e2, f2]
      · refine topOk_none (a := a + a') (b := p + k') (c := q + k') ?_ ?_ ?_ (by lia) (by lia)
        · simp only [N.most, e, f]; exact catM_i2 (by lia)
        · simp only [N.ends, e1, f1]
        · simp only [N.ends, e2, f2]
    · refine topOk_neg ?_ ?_ ?_
      · simp only [N.most, e]; exact catM_n1 _ (by decide)
      · simp only [N.ends, e1]
      · simp only [N.ends, e2]
    · rcases t2 with ⟨f, a', p', q', f1, f2, g3, g4⟩ | ⟨f, f1, f2⟩ | ⟨k', a', f, k0', kB', f1, f2⟩
      · refine topOk_none (a := a + a') (b := k + p') (c := k + q') ?_ ?_ ?_ (by lia) (by lia)
        · simp only [N.most, e, f]; exact catM_i1 (by lia)
        · simp only [N.ends, e1, f1]
        · simp only [N.ends, e2, f2]
      · refine topOk_neg ?_ ?_ ?_
        · simp only [N.most, e, f]; exact catM_n2 _ (by decide)
        · simp only [N.ends, e1, f1]
        · simp only [N.ends, e2, f2]
      · refine topOk_some (k := k + k') (a := a + a') ?_ (by lia) (by simp only [tpB]; lia) ?_ ?_
        · simp only [N.most, e, f]; exact catM_pp (by lia) (by lia)
        · simp only [N.ends, e1, f1]
        · simp only [N.ends, e2, f2]
  | alt l r h1 h2 =>
    intro d k h hd
    obtain ⟨d, rfl⟩ : ∃ e, d = e + 1 := ⟨d - 1, by have := h.1; lia⟩
    have hp := tpB_pos d
    simp only [tpB] at hd
    have t1 := (h1 _ _ h.2.1 (by rw [Nat.add_sub_cancel]; lia)).three (drawn_wf _ _ _ h.2.1)
    have t2 := (h2 _ _ h.2.2 (by rw [Nat.add_sub_cancel]; lia)).three (drawn_wf _ _ _ h.2.2)
    rw [Nat.add_sub_cancel] at t1 t2
    rcases t1 with ⟨e, a, p, q, e1, e2, h3, h4⟩ | ⟨e, e1, e2⟩ | ⟨k, a, e, k0, kB, e1, e2⟩
    · rcases t2 with ⟨f, a', p', q', f1, f2, g3, g4⟩ | ⟨f, f1, f2⟩ | ⟨k', a', f, k0', kB', f1, f2⟩
      · refine topOk_none (a := min a a') (b := max p p') (c := max q q') ?_ ?_ ?_ (by lia) (by lia)
        · simp only [N.most, e, f]; rfl
        · simp only [N.ends, e1, f1]
        · simp only [N.ends, e2, f2]
      · refine topOk_none (a := a) (b := p) (c := q) ?_ ?_ ?_ (by lia) (by lia)
        · simp only [N.most, e, f]; rfl
        · simp only [N.ends, e1, f1]
        · simp only [N.ends, e2, f2]
      · refine topOk_none (a := min a a') (b := max p k') (c := max q k') ?_ ?_ ?_ (by lia) (by lia)
        · simp only [N.most, e, f]; rfl
        · simp only [N.ends, e1, f1]
        · simp only [N.ends, e2, f2]
    · rcases t2 with ⟨f, a', p', q', f1, f2, g3, g4⟩ | ⟨f, f1, f2⟩ | ⟨k', a', f, k0', kB', f1, f2⟩
      · refine topOk_none (a := a') (b := p') (c := q') ?_ ?_ ?_ (by lia) (by lia)
        · simp only [N.most, e, f]; rfl
        · simp only [N.ends, e1, f1]
        · simp only [N.ends, e2, f2]
      · refine topOk_neg ?_ ?_ ?_
        · simp only [N.most, e, f]; rfl
        · simp only [N.ends, e1, f1]
        · simp only [N.ends, e2, f2]
      · refine topOk_some (k := k') (a := a') ?_ (by lia) (by simp only [tpB]; lia) ?_ ?_
        · simp only [N.most, e, f, maxM]; congr 1; lia
        · simp only [N.ends, e1, f1]
        · simp only [N.ends, e2, f2]
    · rcases t2 with ⟨f, a', p', q', f1, f2, g3, g4⟩ | ⟨f, f1, f2⟩ | ⟨k', a', f, k0', kB', f1, f2⟩
      · refine topOk_none (a := min a a') (b := max k p') (c := max k q') ?_ ?_ ?_ (by lia) (by lia)
        · simp only [N.most, e, f]; rfl
        · simp only [N.ends, e1, f1]
        · simp only [N.ends, e2, f2]
      · refine topOk_some (k := k) (a := a) ?_ (by lia) (by simp only [tpB]; lia) ?_ ?_
        · simp only [N.most, e, f, maxM]; congr 1; lia
        · simp only [N.ends, e1, f1]
        · simp only [N.ends, e2, f2]
      · refine topOk_some (k := max k k') (a := min a a') ?_ (by lia) (by simp only [tpB]; lia) ?_ ?_
        · simp only [N.most, e, f, maxM]
        · simp only [N.ends, e1, f1]
        · simp only [N.ends, e2, f2]
  | star b ih =>
    intro d k h hd
    obtain ⟨d, rfl⟩ : ∃ e, d = e + 1 := ⟨d - 1, by have := h.1; lia⟩
    have hp := tpB_pos d
    simp only [tpB] at hd
    have t := ih _ _ h.2.2 (by rw [Nat.add_sub_cancel]; lia)
    rw [Nat.add_sub_cancel] at t
    refine top_loop (.star b) b 0 none R (tpB d) (drawn_wf _ _ _ h.2.2) hR (Int.le_refl _) (fun _ e => nomatch e) rfl ?_ t hp
    intro S
    simp only [N.ends]
    cases b.ends S <;> simp [hiAt]
  | plus b ih =>
    intro d k h hd
    obtain ⟨d, rfl⟩ : ∃ e, d = e + 1 := ⟨d - 1, by have := h.1; lia⟩
    have hp := tpB_pos d
    simp only [tpB] at hd
    have t := ih _ _ h.2.2 (by rw [Nat.add_sub_cancel]; lia)
    rw [Nat.add_sub_cancel] at t
    refine top_loop (.plus b) b 1 none R (tpB d) (drawn_wf _ _ _ h.2.2) hR (by decide) (fun _ e => nomatch e) rfl ?_ t hp
    intro S
    simp only [N.ends]
    cases b.ends S <;> simp [hiAt]
  | opt b ih =>
    intro d k h hd
    obtain ⟨d, rfl⟩ : ∃ e, d = e + 1 := ⟨d - 1, by have := h.1; lia⟩
    have hp := tpB_pos d
    simp only [tpB] at hd
    have t := ih _ _ h.2.2 (by rw [Nat.add_sub_cancel]; lia)
    rw [Nat.add_sub_cancel] at t
    refine top_loop (.opt b) b 0 (some 1) R (tpB d) (drawn_wf _ _ _ h.2.2) hR (Int.le_refl _) (fun h e => by cases e; decide) rfl ?_ t hp
    intro S
    simp only [N.ends]
    cases b.ends S <;> simp [hiAt]
  | rep b lo hi ih =>
    intro d k h hd
    obtain ⟨d, rfl⟩ : ∃ e, d = e + 1 := ⟨d - 1, by have := h.1; lia⟩
    have hp := tpB_pos d
    simp only [tpB] at hd
    obtain ⟨_, _, hb, l0, _, hh⟩ := h
    have t := ih _ _ hb (by rw [Nat.add_sub_cancel]; lia)
    rw [Nat.add_sub_cancel] at t
    exact top_loop (.rep b lo hi) b lo hi R (tpB d) (drawn_wf _ _ _ hb) hR l0 hh rfl (fun S => rfl) t hp
/-- the law's most -/
theorem ends_most (n : N) (hn : n.drawn 3 2) : n.most = match n.ends 1000000, n.ends 1000001 with
    | some d, some f => if f.2 = d.2 then some d.2 else none
    | _, _ => some (-1) := by
  have t := (ends_top 1000000 (by decide) n 3 2 hn (by decide)).three (drawn_wf _ _ _ hn)
  rw [show (1000000 : Int) + 1 = 1000001 from rfl] at t
  rcases t with ⟨e, a, p, q, e1, e2, h3, h4⟩ | ⟨e, e1, e2⟩ | ⟨k, a, e, k0, kB, e1, e2⟩
  · rw [e, e1, e2]; simp only; rw [if_neg (by lia)]
  · rw [e, e1, e2]
  · rw [e, e1, e2]; simp
theorem ends_some (n : N) (hn : n.drawn 3 2) : (n.ends 1000000).isSome = (n.ends 1000001).isSome := by
  have h1 := ends_least 1000000 n (drawn_leaves _ _ _ hn)
  have h2 := ends_least 1000001 n (drawn_leaves _ _ _ hn)
  rw [h1] at h2
  have := congrArg Option.isSome h2
  simpa using this
theorem codes_t7 : ∀ t ∈ T7, codesOf t = t.cps.toList.map fun c : Nat => V.int (c : Int) := by
  intro t ht
  simp only [T7, List.mem_cons, List.not_mem_nil, or_false] at ht
  rcases ht with rfl | rfl | rfl | rfl | rfl | rfl | rfl <;> rfl
/-! ### the words of the law -/
theorem good_head {n : N} {x : List Nat} {W : WW} (hb : Best n) (e : n.lword = some x) (g : Good n x.length W) : ∃ W', W = x :: W' := by
  obtain ⟨h1, h2, h3⟩ := hb.of_some e
  have hm := g.mem (fun k ek => by rw [h1] at ek; cases ek; exact Int.le_refl _)
  have hx := (hm x).mpr ⟨h2, rfl⟩
  cases W with
  | nil => cases hx
  | cons y W =>
    have hy := (hm y).mp (.head _)
    rcases List.mem_cons.mp hx with q | q
    · exact ⟨W, by rw [q]⟩
    · have := (List.pairwise_cons.mp g.pw).1 x q
      exact absurd this (List.not_lt.mpr (h3 y hy.1 hy.2))
/-- the least of the turned words -/
theorem turned_head {n : N} {x z : List Nat} {W : WW} (hb : Best n) (e : n.lword = some x) (hm : Best n.mir) (ez : n.mir.lword = some z) (hl : n.mir.least = n.least) (g : Good n x.length W) :
    z ∈ W.map List.reverse ∧ ∀ y ∈ W.map List.reverse, z ≤ y := by
  obtain ⟨h1, h2, h3⟩ := hb.of_some e
  obtain ⟨q1, q2, q3⟩ := hm.of_some ez
  have hlen : z.length = x.length := by rw [q1, h1] at hl; have := Option.some.inj hl; lia
  have hmem := g.mem (fun k ek => by rw [h1] at ek; cases ek; exact Int.le_refl _)
  refine ⟨List.mem_map.mpr ⟨z.reverse, (hmem _).mpr ⟨(mir_lang n z).mp q2, by simpa using hlen⟩, by simp⟩, ?_⟩
  intro y hy
  obtain ⟨u, hu, rfl⟩ := List.mem_map.mp hy
  obtain ⟨l1, l2⟩ := (hmem u).mp hu
  exact q3 _ ((mir_lang n _).mpr (by rw [List.reverse_reverse]; exact l1)) (by rw [List.length_reverse]; lia)
/-- the node mirrored twice has the same words, and so the same least word -/
theorem back_lword (n : N) (hw : n.wf) (ht : ∀ t ∈ n.leaves, t ∈ T7) : n.mir.mir.lword = n.lword := by
  have w1 := mir_wf n hw
  have t1 : ∀ t ∈ n.mir.leaves, t ∈ T7 := fun t q => ht t (mir_leaves n t q)
  have w2 := mir_wf _ w1
  have t2 : ∀ t ∈ n.mir.mir.leaves, t ∈ T7 := fun t q => t1 t (mir_leaves _ t q)
  have b := best_ok n hw ht
  have b2 := best_ok _ w2 t2
  have hl : n.mir.mir.least = n.least := by rw [mir_least _ w1 t1, mir_least _ hw ht]
  have hlang : ∀ x, n.mir.mir.lang x ↔ n.lang x := fun x => by rw [mir_lang, mir_lang, List.reverse_reverse]
  cases e : n.lword with
  | none =>
    have n0 := b.of_none e
    cases e2 : n.mir.mir.lword with
    | none => rfl
    | some x => have := (b2.of_some e2).1; rw [hl, n0] at this; cases this
  | some x =>
    obtain ⟨h1, h2, h3⟩ := b.of_some e
    cases e2 : n.mir.mir.lword with
    | none => have := b2.of_none e2; rw [hl, h1] at this; cases this
    | some y =>
      obtain ⟨q1, q2, q3⟩ := b2.of_some e2
      have hlen : y.length = x.length := by rw [hl, h1] at q1; have := Option.some.inj q1; lia
      congr 1
      exact List.le_antisymm (q3 x ((hlang x).mpr h2) hlen.symm) (h3 y ((hlang y).mp q2) hlen)

end Mine

end
section
-- G7
open PySem PySem.W PySem.Calls PyProof.Rows
set_option Elab.async false
set_option linter.all false
set_option maxRecDepth 100000
set_option maxHeartbeats 4000000
set_option genInjectivity false
set_option genSizeOfSpec false
namespace Mine
theorem ustep_mem (acc : List Str) (t x : Str) : x ∈ ustep acc t ↔ x ∈ acc ∨ x = t := by
  unfold ustep
  by_cases h : t ∈ acc
  · rw [if_pos h]; exact ⟨.inl, fun q => q.elim id fun q => q ▸ h⟩
  · rw [if_neg h, List.mem_append, List.mem_singleton]
theorem mem_ustep (l : List Str) : ∀ (acc : List Str) (x : Str), x ∈ l.foldl ustep acc ↔ x ∈ acc ∨ x ∈ l := by
  induction l with
  | nil => exact fun acc x => ⟨.inl, fun h => h.elim id fun h => (List.not_mem_nil h).elim⟩
  | cons t l ih =>
    intro acc x
    rw [List.foldl_cons, ih, ustep_mem, List.mem_cons, or_assoc]
theorem mem_uniq (l : List Str) (x : Str) : x ∈ uniq l ↔ x ∈ l := (mem_ustep l [] x).trans ⟨fun h => h.elim (fun h => (List.not_mem_nil h).elim) id, .inr⟩
theorem uniq_snoc (l : List Str) (t : Str) : uniq (l ++ [t]) = if t ∈ l then uniq l else uniq l ++ [t] := by
  have e : uniq (l ++ [t]) = ustep (uniq l) t := List.foldl_append
  rw [e, ustep]
  by_cases h : t ∈ l
  · rw [if_pos h, if_pos ((mem_uniq l t).mpr h)]
  · rw [if_neg h, if_neg fun q => h ((mem_uniq l t).mp q)]
theorem uniq_len (l : List Str) : (uniq l).length ≤ l.length := by
  have key : ∀ (l : List Str) (acc : List Str), (l.foldl ustep acc).length ≤ acc.length + l.length := by
    intro l
    induction l with
    | nil => exact fun acc => Nat.le_refl _
    | cons t l ih =>
      intro acc
      have h : (ustep acc t).length ≤ acc.length + 1 := by
        unfold ustep
        split
        · exact Nat.le_succ _
        · exact Nat.le_of_eq List.length_append
      exact Nat.le_trans (ih _) (Nat.le_trans (Nat.add_le_add_right h _) (Nat.le_of_eq (Nat.add_right_comm ..)))
  exact Nat.le_trans (key l []) (Nat.le_of_eq (Nat.zero_add _))
theorem Dat.mono {m n : Nat} {v : V} (h : Dat m v) (e : m ≤ n) : Dat n v := ⟨h.ok, Nat.le_trans h.dep e⟩
structure DatL (n : Nat) (vs : List V) : Prop where
  ok : isDs vs = true
  dep : PyData.depthAll (pds vs) ≤ n
theorem DatL.nil {n : Nat} : DatL n [] := ⟨rfl, Nat.zero_le _⟩
theorem DatL.cons {n : Nat} {v : V} {vs : List V} (h : Dat n v) (hs : DatL n vs) : DatL n (v :: vs) := ⟨Bool.and_eq_true_iff.mpr ⟨h.ok, hs.ok⟩, Nat.max_le.mpr ⟨h.dep, hs.dep⟩⟩
theorem Dat.tup {n : Nat} {vs : List V} (h : DatL n vs) : Dat (n + 1) (.tup vs) := ⟨h.ok, Nat.succ_le_succ h.dep⟩
theorem Dat.lst {n : Nat} {vs : List V} (h : DatL n vs) : Dat (n + 1) (.lst vs) := ⟨h.ok, Nat.succ_le_succ h.dep⟩
theorem DatL.map {α : Type} {n : Nat} {f : α → V} {l : List α} (h : ∀ a ∈ l, Dat n (f a)) : DatL n (l.map f) := by
  induction l with
  | nil => exact .nil
  | cons a l ih => exact .cons (h a (.head _)) (ih fun b hb => h b (.tail _ hb))
theorem t7_same : ∀ s ∈ T7, ∀ t ∈ T7, same (.str s) (.str t) = decide (s = t) := by decide +kernel
theorem t7_strOk : ∀ t ∈ T7, PyData.strOk t = true := by decide +kernel
theorem datS {n : Nat} {x : Str} (h : PyData.strOk x = true) : Dat n (.str x) := ⟨h, Nat.zero_le _⟩
theorem strs_any (l : List Str) (t : Str) (hl : ∀ x ∈ l, x ∈ T7) (ht : t ∈ T7) : ((l.map V.str).any fun u => same u (.str t)) = decide (t ∈ l) := any_same t7_same l t hl ht
theorem t7_ascii : ∀ t ∈ T7, t.cps.all (· < 128) = true := by decide +kernel
theorem codes_dat (us : List Str) (h : ∀ t ∈ us, t ∈ T7) : Dat 64 (.lst (us.map fun t => V.lst (codesOf t))) :=
  (Dat.lst (.map fun t ht => codes_t7 t (h t ht) ▸ Dat.lst (n := 0) (.map fun _ _ => ⟨rfl, Nat.le_refl _⟩))).mono (by decide)
theorem told_dat : ∀ n : N, Dat (n.size + 3) n.told := by
  intro n
  induction n with
  | empty => exact .tup (.cons (datS (by decide +kernel)) .nil)
  | never => exact .tup (.cons (datS (by decide +kernel)) .nil)
  | chars t => exact .tup (.cons (datS (by decide +kernel)) (.cons ((spanV_dat2 t).mono (Nat.le_add_left ..)) .nil))
  | cat l r h1 h2 => exact .tup (.cons (datS (by decide +kernel)) (.cons (h1.mono (by simp only [N.size]; lia)) (.cons (h2.mono (by simp only [N.size]; lia)) .nil)))
  | alt l r h1 h2 => exact .tup (.cons (datS (by decide +kernel)) (.cons (h1.mono (by simp only [N.size]; lia)) (.cons (h2.mono (by simp only [N.size]; lia)) .nil)))
  | star b ih => exact .tup (.cons (datS (by decide +kernel)) (.cons ih .nil))
  | plus b ih => exact .tup (.cons (datS (by decide +kernel)) (.cons ih .nil))
  | opt b ih => exact .tup (.cons (datS (by decide +kernel)) (.cons ih .nil))
  | rep b lo hi ih => exact .tup (.cons (datS (by decide +kernel)) (.cons ih (.cons ⟨rfl, Nat.zero_le _⟩ (.cons ⟨(hi_dat hi).ok, by cases hi <;> exact Nat.zero_le _⟩ .nil))))
theorem en_nil {k : Nat} {us : List V} (h : ([] : List V) = en k us) : us = [] := by
  cases us with
  | nil => rfl
  | cons _ _ => cases h

end Mine

end
section
-- F18
open PySem PySem.W PySem.Calls PyProof.Rows
set_option Elab.async false
set_option linter.all false
set_option maxRecDepth 100000
set_option maxHeartbeats 4000000
set_option genInjectivity false
set_option genSizeOfSpec false
namespace Mine
theorem CallP.ofV {w : World} {d d' : Nat} {a : Addr} {vs : List V} {Q : V → Prop} {v : V} (h : Fn (GL w) d' a vs (fun x => x = .val v)) (hd : d' ≤ d) (q : Q v) : CallP w d a vs (RVal Q) := ⟨h.mono hd fun _ e => e ▸ q⟩
theorem CallP.ofL {w : World} {d d' : Nat} {a : Addr} {vs : List V} {Q : List V → Prop} {us : List V} (h : Fn (GL w) d' a vs (fun x => x = .fresh us)) (hd : d' ≤ d) (q : Q us) : CallP w d a vs (RFresh Q) := ⟨h.mono hd fun _ e => e ▸ q⟩
theorem CallP.ofLV {w : World} {d d' : Nat} {a : Addr} {vs : List V} {Q : V → Prop} {us : List V} (h : Fn (GL w) d' a vs (fun x => x = .fresh us)) (hd : d' ≤ d) (q : Q (.lst us)) : CallP w d a vs (RVal Q) := ⟨h.mono hd fun _ e => e ▸ q⟩
theorem Meth.ofV {g : Gl} {d d' : Nat} {a : Str} {v u : V} {Q : V → Prop} (h : Meth g d' a (fun x => x = .val u) v) (hd : d' ≤ d) (q : Q u) : Meth g d a (RVal Q) v := h.of hd q
theorem atEnv {D D2 : DS} {w : World} {d : Nat} {ρ : Env'} {Qn : Env' → Prop} {Qr : R → Env' → Prop} (ρ' : Env') (e : ρ = ρ') (h : sSeq D D2 w d ρ' Qn Qr) : sSeq D D2 w d ρ Qn Qr := e ▸ h
theorem tPair_of {i j : Nat} {u v : V} {ρ : Env'} {Q : Env' → Prop} (h : Q ((ρ.set i (some (.val u))).set j (some (.val v)))) : tPair i j (.tup [u, v]) ρ Q := h
theorem enum_once {w : World} {d : Nat} {t : TgF} {T : DB} {G : DG} {Q : List V → Env' → Prop} {ρ : Env'} (ts : List Str) (h7 : ∀ t ∈ ts, t ∈ T7) (hl : ts.length ≤ 1000) (E : Option Slot → Option Slot → Env') (h0 : ρ = E none none)
    (step : ∀ (k : Nat) (x : Str), k < ts.length → x ∈ T7 → ∀ o1 o2 acc (K : List V → Env' → Prop), acc.length < 100000 → (x ∉ ts.take k → ∀ o1 o2, K (acc ++ [.str x]) (E o1 o2)) → (x ∈ ts.take k → ∀ o1 o2, K acc (E o1 o2)) →
      t (.tup [.int k, .str x]) (E o1 o2) fun ρ₂ => T w d ρ₂ fun ok ρ₃ => Way ok (G w d ρ₃ acc K) (K acc ρ₃))
    (fin : ∀ o1 o2, Q ((uniq ts).map V.str) (E o1 o2)) : LoopC (turnF w d t T G) Q [] (en 0 (ts.map V.str)) ρ := by
  refine ⟨fun acc us ρ => ∃ (k : Nat) (o1 o2 : Option Slot), us = en k ((ts.drop k).map V.str) ∧ acc = (uniq (ts.take k)).map V.str ∧ ρ = E o1 o2, ⟨0, none, none, rfl, rfl, h0⟩, ?_, ?_⟩
  · rintro acc u us ρ ⟨k, o1, o2, hu, rfl, rfl⟩
    cases hd : ts.drop k with
    | nil => rw [hd] at hu; cases hu
    | cons x rest =>
      rw [hd] at hu
      cases hu
      have hx : ts[k]? = some x := by rw [← List.head?_drop, hd]; rfl
      have hrest : ts.drop (k + 1) = rest := by rw [← List.tail_drop, hd]; rfl
      have hk := (List.getElem?_eq_some_iff.mp hx).1
      have htake : ts.take (k + 1) = ts.take k ++ [x] := by rw [List.take_succ, hx]; rfl
      have hlen : ((uniq (ts.take k)).map V.str).length < 100000 := by
        rw [List.length_map]
        have := Nat.le_trans (uniq_len (ts.take k)) (List.length_take_le' ..)
        lia
      refine step k x hk (h7 x (List.mem_of_getElem? hx)) o1 o2 _ (fun a ρ => ∃ (j : Nat) (o1 o2 : Option Slot), en (k + 1) (rest.map V.str) = en j ((ts.drop j).map V.str) ∧ a = (uniq (ts.take j)).map V.str ∧ ρ = E o1 o2) hlen (fun hn o1 o2 => ⟨k + 1, o1, o2, by rw [hrest], ?_, rfl⟩) fun hn o1 o2 => ⟨k + 1, o1, o2, by rw [hrest], ?_, rfl⟩
      · rw [htake, uniq_snoc, if_neg hn, List.map_append]; rfl
      · rw [htake, uniq_snoc, if_pos hn]
  · rintro acc ρ ⟨k, o1, o2, hu, rfl, rfl⟩
    have hk : ts.drop k = [] := List.map_eq_nil_iff.mp (en_nil hu)
    rw [List.take_of_length_le (List.drop_eq_nil_iff.mp hk)]
    exact fin o1 o2
theorem sort_head {z : List Nat} {W W2 : WW} (hp : W2.Perm W) (hs : W2.Pairwise (· ≤ ·)) (hz : z ∈ W) (hm : ∀ y ∈ W, z ≤ y) : ∃ W3, W2 = z :: W3 := by
  have h := hp.mem_iff.mpr hz
  cases W2 with
  | nil => cases h
  | cons y W3 =>
    rcases List.mem_cons.mp h with q | q
    · exact ⟨W3, by rw [q]⟩
    · exact ⟨W3, by rw [List.le_antisymm ((List.pairwise_cons.mp hs).1 z q) (hm y (hp.mem_iff.mp (.head _)))]⟩
theorem law_den (w : World) (l : List Int) (hl : l.length ≤ 90000) : d_law.1 w 59 [.lst (l.map V.int)] (fun r => r = .val (.bool true)) := by
  refine CallP.ofL (pen_ok w l hl) (by decide) ?_
  refine LendP.of (tree_ok w (l.take 48) (List.length_take_le ..) 3 2 0 0 (by decide) (by decide)) (by decide) ?_
  rintro v vs' ⟨n, sp, rs, rfl, hn, rfl, _, _⟩
  have hwf := drawn_wf _ _ _ hn
  have hlv := drawn_leaves _ _ _ hn
  have hsz : n.size ≤ 15 := drawn_size _ _ _ hn
  have hwl : n.wlen ≤ 27 := drawn_wlen _ _ _ hn
  have mwf := mir_wf n hwf
  have mlv : ∀ t ∈ n.mir.leaves, t ∈ T7 := fun t q => hlv t (mir_leaves n t q)
  have ms := mir_size n
  have msz : n.mir.size ≤ 15 := ms.symm ▸ hsz
  have mms : n.mir.mir.size = n.size := (mir_size _).trans ms
  have mmsz : n.mir.mir.size ≤ 15 := mms.symm ▸ hsz
  have mwl : n.mir.wlen ≤ 27 := Nat.le_trans (mir_wlen n) hwl
  have ok1 : LwOk n := ⟨hwf, Nat.le_trans hwl (by decide), hlv⟩
  have ok2 : LwOk n.mir := ⟨mwf, Nat.le_trans mwl (by decide), mlv⟩
  have ok3 : LwOk n.mir.mir := ⟨mir_wf _ mwf, Nat.le_trans (mir_wlen _) ok2.len, fun t q => mlv t (mir_leaves _ t q)⟩
  have s59 : ∀ {k c : Nat}, k ≤ 15 → c ≤ 44 → k + c ≤ 59 := fun h h2 => Nat.add_le_add h h2
  have s1000 : ∀ {k : Nat}, k ≤ 15 → k ≤ 1000 := fun h => Nat.le_trans h (by decide)
  refine CallP.ofV (node_ok w (of_ok w) 1000 n (s1000 hsz) (Nat.le_refl _) hwf hlv) (s59 hsz (by decide)) ?_
  refine (told_ok w 1000 n (s1000 hsz) (Nat.le_refl _)).ofV (s59 hsz (by decide)) ?_
  refine ⟨⟨by decide, by decide +kernel⟩, CallP.ofV (ends_ok w 1000000 (by decide) 1000 n (s1000 hsz) (Nat.le_refl _) hwf) (s59 hsz (by decide)) ?_⟩
  refine ⟨⟨by decide, by decide +kernel⟩, CallP.ofV (ends_ok w 1000001 (by decide) 1000 n (s1000 hsz) (Nat.le_refl _) hwf) (s59 hsz (by decide)) ?_⟩
  refine CallP.ofV (mir_ok w 1000 n (s1000 hsz) (Nat.le_refl _) hwf) (s59 hsz (by decide)) ?_
  refine atEnv [some (.val (.lst (l.map V.int))), some (.own (penV (l.take 48) sp rs)), some (.val (n.tv)), some (.val (n.v)), some (.val (n.told)), some (.val (prV (n.ends 1000000))), some (.val (prV (n.ends 1000001))), some (.val (n.mir.v)), none, none, none, none, none, none, none, none, none, none, none, none, none, none, none, none, none, none, none] rfl ?_
  refine CallP.ofV (lengths_ok w n (Nat.le_trans hsz (by decide)) hwf _ _ (ends_some n hn) (ends_least 1000000 n hlv) (ends_most n hn) (canE_iff n hwf)) (by lia) ?_
  refine CallP.ofV (lengths_ok w n.mir (Nat.le_trans msz (by decide)) mwf _ _ (ends_some n hn) ((mir_least n hwf hlv).trans (ends_least 1000000 n hlv)) ((mir_most n hwf).trans (ends_most n hn)) (canE_iff _ mwf)) (by lia) ?_
  refine CallP.ofV (leaves_ok w 1000 n (s1000 hsz) (Nat.le_refl _)) (s59 hsz (by decide)) (tPair_of ?_)
  refine atEnv [some (.val (.lst (l.map V.int))), some (.own (penV (l.take 48) sp rs)), some (.val (n.tv)), some (.val (n.v)), some (.val (n.told)), some (.val (prV (n.ends 1000000))), some (.val (prV (n.ends 1000001))), some (.val (n.mir.v)), some (.val (.lst (n.leaves.map V.str))), some (.val (.int n.size)), none, none, none, none, none, none, none, none, none, none, none, none, none, none, none, none, none] rfl ?_
  have hll : n.leaves.length ≤ 15 := Nat.le_trans (leaves_len n) hsz
  have hu7 : ∀ t ∈ uniq n.leaves, t ∈ T7 := fun t q => hlv t ((mem_uniq _ t).mp q)
  have hul : (uniq n.leaves).length ≤ 1000 := s1000 (Nat.le_trans (uniq_len n.leaves) hll)
  refine enum_once n.leaves hlv (s1000 hll) (fun o1 o2 => [none, o1, o2, some (.val (.lst (n.leaves.map V.str)))]) rfl (fun k x hk hx o1 o2 acc K ha hK hK2 => ?_) fun o1 o2 => ?_
  · have hsub : ∀ y ∈ n.leaves.take k, y ∈ T7 := fun y hy => hlv y (List.mem_of_mem_take hy)
    refine ⟨_, none, some (k : Int), rfl, by rw [List.length_map]; lia, rfl, rfl, ?_⟩
    rw [pick_to _ _ (Int.natCast_nonneg k), Int.toNat_natCast, ← List.map_take]
    refine ⟨_, rfl, datS (t7_strOk x hx), (DatL.map (n := 0) fun y hy => datS (t7_strOk y (hsub y hy))).ok, ?_⟩
    rw [strs_any _ x hsub hx]
    refine Way.by (c := !decide (x ∈ n.leaves.take k)) (fun h => ?_) fun h => ?_
    · exact ⟨ha, hK (by simpa using h) _ _⟩
    · exact hK2 (by simpa using h) _ _
  refine atEnv [some (.val (.lst (l.map V.int))), some (.own (penV (l.take 48) sp rs)), some (.val (n.tv)), some (.val (n.v)), some (.val (n.told)), some (.val (prV (n.ends 1000000))), some (.val (prV (n.ends 1000001))), some (.val (n.mir.v)), some (.val (.lst (n.leaves.map V.str))), some (.val (.int n.size)), some (.own ((uniq n.leaves).map V.str)), none, none, none, none, none, none, none, none, none, none, none, none, none, none, none, none] rfl ?_
  refine CallP.ofLV (charsets_ok w n (s1000 hsz) hlv) (by decide) ?_
  refine LoopC.maps csV (fun t => V.lst (codesOf t)) (fun o => [none, o]) none rfl hul (fun x hx o acc K X ha hK => (m_codes w x (hu7 x hx)).of (by decide) ⟨ha, hK _⟩) fun o => ?_
  refine LoopC.maps V.str (fun t => V.lst (codesOf t)) (fun o => [none, o]) none rfl hul (fun x hx o acc K X ha hK => ?_) fun o => ?_
  · refine ⟨t7_ascii x (hu7 x hx), ?_⟩
    refine LoopC.maps (fun c : Nat => V.str ⟨#[c]⟩) (fun c : Nat => V.int c) (fun o => [none, o, none]) none rfl (Nat.le_trans (t7_abc x (hu7 x hx)).1 (by decide)) (fun c _ o acc K X ha hK => ⟨c, rfl, ha, hK _⟩) fun o => ?_
    rw [← codes_t7 x (hu7 x hx)]
    exact ⟨ha, hK _⟩
  refine ⟨codes_dat _ hu7, codes_dat _ hu7, Way.eqF (by rw [same_refl _ (codes_dat _ hu7).ok]; rfl) ?_⟩
  refine CallP.ofV (count_ok w n (s1000 hsz)) (by decide) ?_
  refine Way.eqF (by simp) ?_
  refine CallP.ofV (count_ok w n.mir (s1000 msz)) (by decide) ?_
  refine Way.eqF (by simp [ms]) ?_
  refine CallP.ofV (mir_ok w 1000 n.mir (s1000 msz) (Nat.le_refl _) mwf) (s59 msz (by decide)) ?_
  refine atEnv [some (.val (.lst (l.map V.int))), some (.own (penV (l.take 48) sp rs)), some (.val (n.tv)), some (.val (n.v)), some (.val (n.told)), some (.val (prV (n.ends 1000000))), some (.val (prV (n.ends 1000001))), some (.val (n.mir.v)), some (.val (.lst (n.leaves.map V.str))), some (.val (.int n.size)), some (.val (.lst ((uniq n.leaves).map V.str))), some (.val (n.mir.mir.v)), none, none, none, none, none, none, none, none, none, none, none, none, none, none, none] rfl ?_
  refine CallP.ofV (mir_ok w 1000 n.mir.mir (s1000 mmsz) (Nat.le_refl _) ok3.wf) (s59 mmsz (by decide)) ?_
  rw [mir3]
  have tm := told_ok w 1000 n.mir (s1000 msz) (Nat.le_refl _)
  refine tm.ofV (s59 msz (by decide)) (tm.ofV (s59 msz (by decide)) ?_)
  have dm : Dat 64 n.mir.told := (told_dat n.mir).mono (by lia)
  have dn : Dat 64 n.told := (told_dat n).mono (by lia)
  refine ⟨dm, dm, Way.eqF (by rw [same_refl _ dm.ok]; rfl) ?_⟩
  refine CallP.ofV (count_ok w n.mir.mir (s1000 mmsz)) (by decide) ?_
  refine Way.eqF (by simp [mms]) ?_
  refine (told_ok w 1000 n (s1000 hsz) (Nat.le_refl _)).ofV (s59 hsz (by decide)) ?_
  refine ⟨dn, dn, Way.eqF (by rw [same_refl _ dn.ok]; rfl) ?_⟩
  have hle := ends_least 1000000 n hlv
  have hbn := best_ok n hwf hlv
  have hbm := best_ok n.mir mwf mlv
  have hml := mir_least n hwf hlv
  have lw1 := lword_ok w 1000 n (s1000 hsz) (Nat.le_refl _) ok1
  have lw2 := lword_ok w 1000 n.mir (s1000 msz) (Nat.le_refl _) ok2
  cases he : n.ends 1000000 with
  | none =>
    rw [he] at hle
    have hle : n.least = none := hle
    have hln : n.lword = none := by
      cases q : n.lword with
      | none => rfl
      | some x => have := (hbn.of_some q).1; rw [hle] at this; cases this
    have hlm : n.mir.lword = none := by
      cases q : n.mir.lword with
      | none => rfl
      | some x => have := (hbm.of_some q).1; rw [hml, hle] at this; cases this
    rw [hln] at lw1
    rw [hlm] at lw2
    exact CallP.ofV lw1 (s59 hsz (by decide)) ⟨rfl, CallP.ofV lw2 (s59 msz (by decide)) rfl⟩
  | some p =>
    rw [he] at hle
    have hle : n.least = some p.1 := hle
    obtain ⟨x, hx⟩ : ∃ x, n.lword = some x := by
      cases q : n.lword with
      | none => have := hbn.of_none q; rw [hle] at this; cases this
      | some x => exact ⟨x, rfl⟩
    obtain ⟨z, hz⟩ : ∃ z, n.mir.lword = some z := by
      cases q : n.mir.lword with
      | none => have := hbm.of_none q; rw [hml, hle] at this; cases this
      | some x => exact ⟨x, rfl⟩
    have hxl : p.1 = (x.length : Int) := by have := (hbn.of_some hx).1; rw [hle] at this; exact Option.some.inj this
    have hzl : p.1 = (z.length : Int) := by have := (hbm.of_some hz).1; rw [hml, hle] at this; exact Option.some.inj this
    have hx27 := lword_len n x hx
    have hz27 := lword_len n.mir z hz
    rw [hx] at lw1
    rw [hz] at lw2
    refine Way.by (c := decide (p.1 > 3)) (fun h => ?_) fun h => ?_
    · refine CallP.ofV lw1 (s59 hsz (by decide)) ⟨by rw [sOf_len]; lia, by rw [sOf_len, ← hxl]; exact congrArg V.bool (beq_self_eq_true p.1), ?_⟩
      refine CallP.ofV lw2 (s59 msz (by decide)) ⟨by rw [sOf_len]; lia, ?_⟩
      rw [sOf_len, ← hzl]
      exact congrArg (fun c => R.val (.bool c)) (beq_self_eq_true p.1)
    · have h := of_decide_eq_false h
      have hw := words_ok w 1000 n (s1000 hsz) (Nat.le_refl _) hwf hlv x.length (by lia)
      rw [← hxl] at hw
      refine CallP.ofQ hw (s59 hsz (by decide)) fun r ⟨W, e, hW⟩ => ?_
      subst e
      obtain ⟨W', rfl⟩ := good_head hbn hx hW
      have hfew := hW.few (by lia)
      obtain ⟨hzm, hzmin⟩ := turned_head hbn hx hbm hz hml hW
      refine CallP.ofV lw1 (s59 hsz (by decide)) ⟨congrArg V.bool (beq_self_eq_true (sOf x)), ?_⟩
      refine CallP.ofV lw2 (s59 msz (by decide)) ?_
      refine LoopC.maps (row := x :: W') strV (fun u => strV u.reverse) (fun o => [none, o]) none rfl (by lia) (fun y hy o acc K X ha hK => ⟨y, rfl, by have := (hW.ok y hy).1; lia, rfl, ha, hK _⟩) fun o => ?_
      rw [show (x :: W').map (fun u => strV u.reverse) = wsV ((x :: W').map List.reverse) from (List.map_map (f := List.reverse) (g := strV) (l := x :: W')).symm]
      refine .txt ((x :: W').map List.reverse) rfl (by rw [List.length_map]; lia) fun W2 hp hs => ?_
      obtain ⟨W3, rfl⟩ := sort_head hp hs hzm hzmin
      refine ⟨congrArg V.bool (beq_self_eq_true (sOf z)), ?_⟩
      have lw3 := lword_ok w 1000 n.mir.mir (s1000 mmsz) (Nat.le_refl _) ok3
      rw [back_lword n hwf hlv, hx] at lw3
      exact CallP.ofV lw3 (s59 mmsz (by decide)) (congrArg (fun c => R.val (.bool c)) (beq_self_eq_true (sOf x)))

end Mine

end
section
-- F19
open PySem PySem.W PySem.Calls PyProof.Rows
set_option Elab.async false
set_option linter.all false
set_option maxRecDepth 100000
set_option maxHeartbeats 4000000
set_option genInjectivity false
set_option genSizeOfSpec false
namespace Mine
noncomputable def fnPart (o : Option Obj) : Option (List Stmt × Scope) := match o with
  | some o => match o.data with
    | .func fd => match fd.body with
      | .stmts b => some (b, fd.scope)
      | _ => none
    | _ => none
  | none => none
theorem FnOk.part {g : Gl} {a : Addr} {fd : FuncData} {n : Nat} {body : List Stmt} (F : FnOk g a fd n body) : fnPart (g.K.lookup a) = some (body, fd.scope) := by
  obtain ⟨oc, od, osl, e⟩ := F.obj
  rw [e, fnPart]
  show (match fd.body with | .stmts b => some (b, fd.scope) | _ => none) = _
  rw [F.body]
theorem noList (P : Params) : ((KK P).all fun p => !(p.2.cls == .type "list")) = true := by kernel_rfl
theorem look_mem {a : Addr} {o : Obj} (K : List (Addr × Obj)) : K.lookup a = some o → (a, o) ∈ K := by
  induction K with
  | nil => intro h; cases h
  | cons p K ih =>
    intro h
    obtain ⟨b, q⟩ := p
    rw [List.lookup_cons] at h
    cases e : a == b with
    | true =>
      rw [e] at h
      have e : a = b := eq_of_beq e
      rw [e, ← Option.some.inj h]
      exact List.mem_cons_self
    | false => rw [e] at h; exact List.mem_cons_of_mem _ (ih h)
theorem ints_reps {H : HF} : ∀ {ns : List Int} {vs : List Value}, IntsAre vs ns → Reps H vs (ns.map V.int) := fun {ns} => by
  induction ns with
  | nil => intro vs r; cases r; exact .nil
  | cons n ns ih => intro vs r; cases r with
    | cons _ t r => exact .cons .int (ih r)
noncomputable def lawNames : Names := f_law.ns
theorem law_names {w : World} {body : List Stmt} {scope : Scope} (h : fnPart ((KK w.params).lookup 617) = some (body, scope)) : scope.names = lawNames := by
  have e := (f_law.ok w).part.symm.trans h
  rw [← (Prod.mk.inj (Option.some.inj e)).2]
  exact f_law.en
theorem law_go {w : World} {s₁ : Shared} {l : Addr} {vs : List Value} {ns : List Int} {h₁ : Heap} {tk : Nat} {name : Str} {fa : Addr} {cd : Value} {body : List Stmt} {scope : Scope} {mg mb : Str → Option Value} {wo : Obj}
    (hLaw : fnPart ((KK w.params).lookup 617) = some (body, scope)) (hl : s₁.heap.get? l = some { cls := .type "list", data := .seq vs.toArray }) (hI : IntsAre vs ns) (h63 : ns.length ≤ 90000)
    (KX : (KK w.params).In s₁.heap) (hmg : s₁.heap.Ns mainGlobals mg) (hmb : s₁.heap.Ns builtinsNs mb) (hmb2 : ∀ x : Str, x ≠ "__name__" → mb x = bootBuiltins x) (hlim : s₁.heap.NoLimit) (hg : s₁.gens = #[])
    (F : Fr s₁.heap s₁.heap.objs.size h₁ fun x => if x = "script" then some (.ref l) else none) (N0 : News s₁.heap s₁.heap.objs.size h₁ [(s₁.heap.objs.size + 1, wo)]) (hwo : wo.data = .cell none)
    {Q : Flow → Shared → Prop} {E : Value → Shared → Prop} (hQ : ∀ s', (∀ b o, s₁.heap.get? b = some o → s'.heap.get? b = some o) → s'.os = s₁.os → s'.gens = #[] → Q (.ret (.bool true)) s') :
    wpAny (model PySem.Challenge.pw_pq0574_01 w) (callerA.deeper (envOfC name scope s₁.heap.objs.size fa cd)) (execs body (envOfC name scope s₁.heap.objs.size fa cd)) Q E { s₁ with heap := h₁, toks := tk } := by
  have hnames := law_names hLaw
  obtain ⟨fd, body', nn, D, ok, en, h, e⟩ := d_law.2
  have FO := ok w
  have hp := FO.part.symm.trans hLaw
  obtain ⟨rfl, hs⟩ := Prod.mk.inj (Option.some.inj hp)
  subst hs
  have q := law_den w ns h63
  rw [e] at q
  have hnn : nn = lawNames := en.symm.trans hnames
  subst hnn
  clear e hp hLaw
  have hnone : ∀ a, s₁.heap.objs.size ≤ a → s₁.heap.get? a = none := fun a ha => by
    cases q : s₁.heap.get? a with
    | none => rfl
    | some o => exact absurd (Heap.lt_size q) (Nat.not_lt.mpr ha)
  let env := envOfC name fd.scope s₁.heap.objs.size fa cd
  let G : HF := fun a => if a = l then none else s₁.heap.get? a
  let H : HF := fun a => if a = l then s₁.heap.get? l else none
  let cx : Cx := { prog := PySem.Challenge.pw_pq0574_01, w := w, K := KK w.params, A := callerA.deeper env, env := env, names := lawNames, F := G, d := 60, wr := true, g := #[], os := s₁.os }
  have hG : ∀ a o, G a = some o → a ≠ l ∧ s₁.heap.get? a = some o := fun a o e => by
    have e : (if a = l then none else s₁.heap.get? a) = some o := e
    split at e
    · cases e
    · rename_i q; exact ⟨q, e⟩
  have hGi : ∀ a o, a ≠ l → s₁.heap.get? a = some o → G a = some o := fun a o q e => (if_neg q).trans e
  have hH : ∀ a o, H a = some o → a = l ∧ s₁.heap.get? a = some o := fun a o e => by
    have e : (if a = l then s₁.heap.get? l else none) = some o := e
    split at e
    · rename_i q; exact ⟨q, q ▸ e⟩
    · cases e
  have hHl : H l = some { cls := .type "list", data := .seq vs.toArray } := (if_pos rfl).trans hl
  have nsL : ∀ a m, s₁.heap.Ns a m → a ≠ l := fun a m ⟨o, es, ep, h1, h2, _⟩ q => by
    rw [q, hl] at h1; cases h1; cases h2
  have hnd : (lawNames.map (·.1)).Nodup := hnames ▸ FO.nodup
  have hlk : ∀ x k, (x, k) ∈ lawNames → env.kindOf x = some k := fun x k hm => by
    show fd.scope.names.lookup x = some k
    rw [hnames]; exact lookup_of_nodup hnd hm
  have hcells : env.cells = [(("sets" : Str), s₁.heap.objs.size + 1)] := by
    show cellsFrom (s₁.heap.objs.size + 1) fd.scope.names [] = _
    rw [hnames]; rfl
  have hlc : ∀ x c, env.cells.lookup x = some c → x = "sets" ∧ c = s₁.heap.objs.size + 1 := fun x c e => by
    rw [hcells, List.lookup_cons] at e
    cases q : x == ("sets" : Str) with
    | true => rw [q] at e; cases e; exact ⟨eq_of_beq q, rfl⟩
    | false => rw [q] at e; cases e
  have hset : env.cells.lookup ("sets" : Str) = some (s₁.heap.objs.size + 1) := by rw [hcells, List.lookup_cons]; simp
  have hall : ∀ x k, (x, k) ∈ lawNames → (k == .local || k == .cell || k == .globalImplicit) = true ∧ (x == ("__debug__" : Str)) = false := fun x k hm => by
    have := List.all_eq_true.mp (Bool.and_eq_true_iff.mp (hnames ▸ FO.names)).1 _ hm
    have := Bool.and_eq_true_iff.mp this
    exact ⟨this.1, by simpa using this.2⟩
  have hcell : ∀ x, (x, NameKind.cell) ∈ lawNames → x = "sets" := fun x hm => by
    have : (lawNames.all fun p => !(p.2 == .cell) || p.1 == ("sets" : Str)) = true := by decide +kernel
    exact eq_of_beq (List.all_eq_true.mp this _ hm)
  have ok : cx.Ok := by
    refine ⟨rfl, (by show 1 + claimMargin + 1 + 4 * 60 + 4 < recursionLimit; decide), (by show 4 + 3 + 12 * 60 + 140 < cLine; decide), FO.kind, rfl, rfl, fun h hh => ?_, fun x hm => hlk x _ hm, fun x hm => ⟨hlk x _ hm, _, hcell x hm ▸ hset⟩, (fun x hm => nomatch (hall x _ hm).1), fun x hm => hlk x _ hm, fun x c hc => ?_, hnd, fun x k hm => (hall x k hm).2, (fun x a e => nomatch e), (fun x _ h => nomatch h)⟩
    · have keep : ∀ a o, a ≠ l → s₁.heap.get? a = some o → h.get? a = some o := fun a o q e => hh a o (hGi a o q e)
      refine ⟨fun a o e => keep a o (fun q => ?_) (KX a o e), ⟨mg, hmg.at' fun o e => keep _ o (nsL _ _ hmg) e, fun x v e => ?_⟩, ⟨mb, hmb.at' fun o e => keep _ o (nsL _ _ hmb) e, hmb2⟩, ?_⟩
      · have h1 := KX a o e
        rw [q, hl] at h1
        have := List.all_eq_true.mp (noList w.params) _ (look_mem _ e)
        cases h1
        have this : (!(Value.type "list" == Value.type "list")) = true := this
        revert this; decide
      · cases v with
        | none => exact mg_none_of KX hmg e
        | some v => exact mg_of KX hmg e
      · obtain ⟨mc, h1, h2⟩ := hlim
        exact ⟨mc, h1.at' fun o e => keep _ o (nsL _ _ h1) e, h2⟩
    · obtain ⟨rfl, _⟩ := hlc x c hc
      rw [show cx.env.kindOf "sets" = some .cell from hlk "sets" .cell (List.mem_of_getElem? (i := 8) rfl)]
      exact fun e => nomatch e
  have nov : ∀ {j : Nat} {sl : Slot}, (initEnv lawNames [.lst (ns.map V.int)])[j]? = some (some sl) → j = 0 ∧ sl = .val (.lst (ns.map V.int)) := fun {j sl} e => by
    obtain ⟨v, e1, e2⟩ := init_at _ _ _ e
    cases j with
    | zero => cases e2; exact ⟨rfl, e1⟩
    | succ j => cases e2
  have inv : Inv cx H (initEnv lawNames [.lst (ns.map V.int)]) (fun x => if x = "script" then some (.ref l) else none) { s₁ with heap := h₁, toks := tk } := by
    refine ⟨hg, (fun x a e => nomatch e), rfl, fun a o e => F.keep a o (hG a o e).2, fun a o e => F.keep a o (hH a o e).2, fun a o e => if_neg (hG a o e).1, ⟨_, F.ns, fun x _ => rfl⟩, fun x c e => ?_, fun x y c h1 h2 => ((hlc x c h1).1).trans (hlc y c h2).1.symm, ⟨?_, ?_⟩, fun x c e => ⟨?_, fun _ => ?_⟩, init_len .., fun i x k sl h1 h2 => ?_, fun i j a h1 h2 => ?_⟩
    · obtain ⟨rfl, rfl⟩ := hlc x c e
      exact ⟨wo, (N0 _ (.head _)).1, hwo⟩
    · cases q : G s₁.heap.objs.size with
      | none => exact q
      | some o => have := (hG _ o q).2; rw [hnone _ (Nat.le_refl _)] at this; cases this
    · cases q : H s₁.heap.objs.size with
      | none => exact q
      | some o => have := (hH _ o q).2; rw [hnone _ (Nat.le_refl _)] at this; cases this
    · obtain ⟨rfl, rfl⟩ := hlc x c e
      cases q : H (s₁.heap.objs.size + 1) with
      | none => rfl
      | some o => have := (hH _ o q).2; rw [hnone _ (Nat.le_succ _)] at this; cases this
    · obtain ⟨rfl, rfl⟩ := hlc x c e
      cases q : G (s₁.heap.objs.size + 1) with
      | none => exact q
      | some o => have := (hG _ o q).2; rw [hnone _ (Nat.le_succ _)] at this; cases this
    · obtain ⟨rfl, rfl⟩ := nov h2
      have h1 : some (("script" : Str), NameKind.local) = some (x, k) := h1
      cases h1
      exact ⟨_, if_pos rfl, .lst hHl (ints_reps hI)⟩
    · obtain ⟨y, k, us, h1, h2, h3⟩ := h1
      exact nomatch (nov h2).2
  have fin : ∀ {s' : Shared} H' ρ' vr', H.le H' → Inv cx H' ρ' vr' s' → Q (.ret (.bool true)) s' := fun {s'} H' ρ' vr' hle j => hQ s' (fun b o e => by
    by_cases q : b = l
    · subst q
      rw [hl] at e
      cases e
      exact j.keepH _ _ (hle _ _ hHl)
    · exact j.keepF b o (hGi b o q e)) j.os j.gens
  exact wpAny_mono (h ⟨⟨ok, rfl, rfl, rfl, (by show 59 ≤ 60; decide)⟩, rfl, rfl, (fun x j hx => nomatch (hall x _ (List.mem_of_getElem? hx)).1)⟩ q H _ _ Q inv (fun _ _ _ _ _ _ e => nomatch e) fun x s' r H' ρ' vr' hle j rr e => by
    subst e
    exact (show Rep H' x (.bool true) from rr).onBool (fin H' ρ' vr' hle j)) (fun _ _ h => h) fun _ _ e => e.elim

end Mine

end
section
-- HT3
open PySem PySem.W PySem.Calls PyProof.Rows
set_option linter.all false
namespace Mine
theorem list_of_well {P : Params} {h : Heap} {l : Addr} {vs : List Value} {xs : List PyData} (hL : h.IsList l vs.toArray) (hw : Well P h (.ref l) (ofPy (.list xs))) : h.get? l = some { cls := .type "list", data := .seq vs.toArray } := by
  obtain ⟨o, ho, hc, n, hd⟩ := hL
  rw [ofPy] at hw
  cases hw with
  | list hget _ =>
    rw [ho] at hget
    cases hget
    have hd := hd
    cases hd
    exact ho
theorem hd0.tw10046214379172474726 : True := trivial
theorem hd0.tw10051225828250784925 : True := trivial
theorem hd0.tw10069731379804114837 : True := trivial
theorem hd0.tw10084470103006088933 : True := trivial
theorem hd0.tw10085328584745137873 : True := trivial
theorem hd0.tw10115802244907238825 : True := trivial
theorem hd0.tw10121685255857489051 : True := trivial
theorem hd0.tw10131604004383188290 : True := trivial
theorem hd0.tw10152017227990887 : True := trivial
theorem hd0.tw10166313427839102320 : True := trivial
theorem hd0.tw10171905155036859849 : True := trivial
theorem hd0.tw10176971302787931466 : True := trivial
theorem hd0.tw10211360609913916499 : True := trivial
theorem hd0.tw10260036693505685281 : True := trivial
theorem hd0.tw10282353163112612276 : True := trivial
theorem hd0.tw10295704408819858588 : True := trivial
theorem hd0.tw10297934492154968163 : True := trivial
theorem hd0.tw10299701338536963064 : True := trivial
theorem hd0.tw10314495095132462600 : True := trivial
theorem hd0.tw1033846637145908505 : True := trivial
theorem hd0.tw10402865154986503972 : True := trivial
theorem hd0.tw10472887827112669461 : True := trivial
theorem hd0.tw10480709929324776058 : True := trivial
theorem hd0.tw10498964822654063026 : True := trivial
theorem hd0.tw10542246809792872130 : True := trivial
theorem hd0.tw10702419455615826468 : True := trivial
theorem hd0.tw10736319592168794464 : True := trivial
theorem hd0.tw10739609710312397788 : True := trivial
theorem hd0.tw10759000945844983178 : True := trivial
theorem hd0.tw10765925126889504240 : True := trivial
theorem hd0.tw10780423286290277794 : True := trivial
theorem hd0.tw1078058097833363317 : True := trivial
theorem hd0.tw10783142842391291914 : True := trivial
theorem hd0.tw10801899952454011618 : True := trivial
theorem hd0.tw10810385065285312349 : True := trivial
theorem hd0.tw10833352333336119249 : True := trivial
theorem hd0.tw10834066803405267298 : True := trivial
theorem hd0.tw1087435185961119440 : True := trivial
theorem hd0.tw10893015288667660014 : True := trivial
theorem hd0.tw10909967093416965196 : True := trivial
theorem hd0.tw10950015098503667 : True := trivial
theorem hd0.tw10992540420993761691 : True := trivial
theorem hd0.tw10999217049103145239 : True := trivial
theorem hd0.tw11017282251955597146 : True := trivial
theorem hd0.tw1104153614263761704 : True := trivial
theorem hd0.tw11049174899164315458 : True := trivial
theorem hd0.tw11055183035642229788 : True := trivial
theorem hd0.tw11064160589316715639 : True := trivial
theorem hd0.tw11115630303567131559 : True := trivial
theorem hd0.tw11119462899506271795 : True := trivial
theorem hd0.tw11138249019705727585 : True := trivial
theorem hd0.tw11185450218303098929 : True := trivial
theorem hd0.tw11209417819914858648 : True := trivial
theorem hd0.tw11235671498635311869 : True := trivial
theorem hd0.tw11237116216057311745 : True := trivial
theorem hd0.tw11239748424757995403 : True := trivial
theorem hd0.tw11249123509674406191 : True := trivial
theorem hd0.tw11264621231335647038 : True := trivial
theorem hd0.tw11296317026604976579 : True := trivial
theorem hd0.tw11329978527411681000 : True := trivial
theorem hd0.tw11342738394816991558 : True := trivial
theorem hd0.tw113680085351987624 : True := trivial
theorem hd0.tw11417663463214105954 : True := trivial
theorem hd0.tw1144143789490447932 : True := trivial
theorem hd0.tw11464049996061684425 : True := trivial
theorem hd0.tw11510660921149772417 : True := trivial
theorem hd0.tw11532703464391966607 : True := trivial
theorem hd0.tw11573459230172034977 : True := trivial
theorem hd0.tw11580911146225420957 : True := trivial
theorem hd0.tw11590068575368498478 : True := trivial
theorem hd0.tw11614672710775262937 : True := trivial
theorem hd0.tw11618779779337073695 : True := trivial
theorem hd0.tw11623040055089417287 : True := trivial
theorem hd0.tw11713894155979806921 : True := trivial
theorem hd0.tw1174218808468287412 : True := trivial
theorem hd0.tw11758758586359927915 : True := trivial
theorem hd0.tw11759931035086368862 : True := trivial
theorem hd0.tw1176053044683504432 : True := trivial
theorem hd0.tw11772256920040780592 : True := trivial
theorem hd0.tw11797003534878959301 : True := trivial
theorem hd0.tw11856145978303915523 : True := trivial
theorem hd0.tw1189054894648436682 : True := trivial
theorem hd0.tw11905857966463721479 : True := trivial
theorem hd0.tw11913967624340912265 : True := trivial
theorem hd0.tw1191622958437496830 : True := trivial
theorem hd0.tw11948003583001340954 : True := trivial
theorem hd0.tw12003068471920674386 : True := trivial
theorem hd0.tw12014350970595483805 : True := trivial
theorem hd0.tw12056577157831287533 : True := trivial
theorem hd0.tw1206084808893199565 : True := trivial
theorem hd0.tw12075269703002163213 : True := trivial
theorem hd0.tw12075429309070946594 : True := trivial
theorem hd0.tw12118671535382520970 : True := trivial
theorem hd0.tw12151319272224551882 : True := trivial
theorem hd0.tw12158446373679332284 : True := trivial
theorem hd0.tw12205544625469342409 : True := trivial
theorem hd0.tw12205703568204840568 : True := trivial
theorem hd0.tw12221645744011716122 : True := trivial
theorem hd0.tw122436498391896827 : True := trivial
theorem hd0.tw12244509886447296242 : True := trivial
theorem hd0.tw12267492742709321793 : True := trivial
theorem hd0.tw12274314036958901727 : True := trivial
theorem hd0.tw12276868589851284407 : True := trivial
theorem hd0.tw12281760368372384568 : True := trivial
theorem hd0.tw12291059427910704922 : True := trivial
theorem hd0.tw12297212177519175542 : True := trivial
theorem hd0.tw12319278043188072571 : True := trivial
theorem hd0.tw12322794258418571040 : True := trivial
theorem hd0.tw12323965438945104229 : True := trivial
theorem hd0.tw12341762187451597905 : True := trivial
theorem hd0.tw12407471169438301300 : True := trivial
theorem hd0.tw12408544009092005060 : True := trivial
theorem hd0.tw12413647210551461848 : True := trivial
theorem hd0.tw12445168859298407736 : True := trivial
theorem hd0.tw12457655390460550545 : True := trivial
theorem hd0.tw12482913051474129847 : True := trivial
theorem hd0.tw12489974410676362506 : True := trivial
theorem hd0.tw12530935914870690474 : True := trivial
theorem hd0.tw12531005905967446356 : True := trivial
theorem hd0.tw12584882590044025211 : True := trivial
theorem hd0.tw12603814732637365840 : True := trivial
theorem hd0.tw12607126878928665686 : True := trivial
theorem hd0.tw12607805650522343386 : True := trivial
theorem hd0.tw12664211946483082244 : True := trivial
theorem hd0.tw12665113834384165610 : True := trivial
theorem hd0.tw12665424717540478268 : True := trivial
theorem hd0.tw12675668120839034084 : True := trivial
theorem hd0.tw12753557443971426460 : True := trivial
theorem hd0.tw12760839115024893943 : True := trivial
theorem hd0.tw12776546938699652369 : True := trivial
theorem hd0.tw12777931453158178941 : True := trivial
theorem hd0.tw1277909223561221377 : True := trivial
theorem hd0.tw12782592981888142045 : True := trivial
theorem hd0.tw12782906062734576069 : True := trivial
theorem hd0.tw12784123285358203314 : True := trivial
theorem hd0.tw12805207464963118493 : True := trivial
theorem hd0.tw12846747447118687680 : True := trivial
theorem hd0.tw12921619473888229003 : True := trivial
theorem hd0.tw12933303735471307315 : True := trivial
theorem hd0.tw12933712334415985070 : True := trivial
theorem hd0.tw12949994812025541312 : True := trivial
theorem hd0.tw12969228407885304244 : True := trivial
theorem hd0.tw13008693350213662659 : True := trivial
theorem hd0.tw1301209152814809411 : True := trivial
theorem hd0.tw13012256603424907846 : True := trivial
theorem hd0.tw13105775301183761922 : True := trivial
theorem hd0.tw13130983519766148356 : True := trivial
theorem hd0.tw13155985672576599351 : True := trivial
theorem hd0.tw13198788859858803882 : True := trivial
theorem hd0.tw13253873054810628565 : True := trivial
theorem hd0.tw13291091997398420451 : True := trivial
theorem hd0.tw13296426974056623676 : True := trivial
theorem hd0.tw13311228807310263559 : True := trivial
theorem hd0.tw13314375886522361641 : True := trivial
theorem hd0.tw13333579491729134397 : True := trivial
theorem hd0.tw13339917588295992316 : True := trivial
theorem hd0.tw13386569130190815585 : True := trivial
theorem hd0.tw13395809117436121618 : True := trivial
theorem hd0.tw13396925332426190305 : True := trivial
theorem hd0.tw13398391709312642032 : True := trivial
theorem hd0.tw13399666736263258950 : True := trivial
theorem hd0.tw13407135678810255579 : True := trivial
theorem hd0.tw13409153724132065759 : True := trivial
theorem hd0.tw1344525240475726329 : True := trivial
theorem hd0.tw13451678851320754741 : True := trivial
theorem hd0.tw1347409029562170106 : True := trivial
theorem hd0.tw13486330257028493506 : True := trivial
theorem hd0.tw13487184783045432306 : True := trivial
theorem hd0.tw13507686799319203751 : True := trivial
theorem hd0.tw13528136040738991083 : True := trivial
theorem hd0.tw13540748790817394469 : True := trivial
theorem hd0.tw13545224959385804456 : True := trivial
theorem hd0.tw13555123127346715575 : True := trivial
theorem hd0.tw13568120283695954765 : True := trivial
theorem hd0.tw1359104647744391194 : True := trivial
theorem hd0.tw13662678775740407664 : True := trivial
theorem hd0.tw13674825878566736871 : True := trivial
theorem hd0.tw13681048869030573423 : True := trivial
theorem hd0.tw13742105315037027404 : True := trivial
theorem hd0.tw13774004877433310113 : True := trivial
theorem hd0.tw13778493272816522149 : True := trivial
theorem hd0.tw13800483763300068865 : True := trivial
theorem hd0.tw13826388099692679067 : True := trivial
theorem hd0.tw13860332498241106628 : True := trivial
theorem hd0.tw13893897624538738667 : True := trivial
theorem hd0.tw13906137355324554554 : True := trivial
theorem hd0.tw13932984963572511754 : True := trivial
theorem hd0.tw13969635912206726010 : True := trivial
theorem hd0.tw13990672569431220391 : True := trivial
theorem hd0.tw14019422052369805898 : True := trivial
theorem hd0.tw1405133032699174042 : True := trivial
theorem hd0.tw14069131116232622754 : True := trivial
theorem hd0.tw1408586941499263977 : True := trivial
theorem hd0.tw14139502865228493775 : True := trivial
theorem hd0.tw1417947228256288561 : True := trivial
theorem hd0.tw14210159926740337751 : True := trivial
theorem hd0.tw14219380631129882139 : True := trivial
theorem hd0.tw14254699458681805449 : True := trivial
theorem hd0.tw14266310162678413827 : True := trivial
theorem hd0.tw14317292564540358215 : True := trivial
theorem hd0.tw14331177511243548136 : True := trivial
theorem hd0.tw14332817513447026307 : True := trivial
theorem hd0.tw14364967241312749879 : True := trivial
theorem hd0.tw14392666273103455515 : True := trivial
theorem hd0.tw14397348241044380734 : True := trivial
theorem hd0.tw14469414521783600489 : True := trivial
theorem hd0.tw14494657868452557277 : True := trivial
theorem hd0.tw14502001302391087502 : True := trivial
theorem hd0.tw1450596053491749582 : True := trivial
theorem hd0.tw14508254801004028759 : True := trivial
theorem hd0.tw14530719843544073062 : True := trivial
theorem hd0.tw14531314831857924074 : True := trivial
theorem hd0.tw14547275812638254195 : True := trivial
theorem hd0.tw14581190615617361256 : True := trivial
theorem hd0.tw14595221640817416183 : True := trivial
theorem hd0.tw14602483098564173615 : True := trivial
theorem hd0.tw14603430072732904927 : True := trivial
theorem hd0.tw14667944589569409166 : True := trivial
theorem hd0.tw14693713190999327560 : True := trivial
theorem hd0.tw14694669036159307144 : True := trivial
theorem hd0.tw14707159364453948219 : True := trivial
theorem hd0.tw14708056100453182282 : True := trivial
theorem hd0.tw14736164837976249918 : True := trivial
theorem hd0.tw14751195016474515691 : True := trivial
theorem hd0.tw14778368771875113021 : True := trivial
theorem hd0.tw14784936291350405178 : True := trivial
theorem hd0.tw14800764121473040398 : True := trivial
theorem hd0.tw14859510367324771804 : True := trivial
theorem hd0.tw14861641958691549802 : True := trivial
theorem hd0.tw14876873880408228765 : True := trivial
theorem hd0.tw14885392324379421255 : True := trivial
theorem hd0.tw14891386369280825845 : True := trivial
theorem hd0.tw14905831658627392255 : True := trivial
theorem hd0.tw14943190808241422403 : True := trivial
theorem hd0.tw15005460686244068168 : True := trivial
theorem hd0.tw1500556042865797202 : True := trivial
theorem hd0.tw15032659220678666378 : True := trivial
theorem hd0.tw15040551183118583470 : True := trivial
theorem hd0.tw15065970058547688577 : True := trivial
theorem hd0.tw1512869562912987329 : True := trivial
theorem hd0.tw1514256528096401698 : True := trivial
theorem hd0.tw15200775214083542848 : True := trivial
theorem hd0.tw15231096910501823895 : True := trivial
theorem hd0.tw15233396900245208191 : True := trivial
theorem hd0.tw1538813021119263245 : True := trivial
theorem hd0.tw15389241651499710389 : True := trivial
theorem hd0.tw15392901522555353865 : True := trivial
theorem hd0.tw15429971745270200749 : True := trivial
theorem hd0.tw15432619435547704047 : True := trivial
theorem hd0.tw15478791486184338690 : True := trivial
theorem hd0.tw15490979449997167053 : True := trivial
theorem hd0.tw15549164469732841750 : True := trivial
theorem hd0.tw15553139450688975919 : True := trivial
theorem hd0.tw15558302549524438974 : True := trivial
theorem hd0.tw15598781321256940172 : True := trivial
theorem hd0.tw15617416376691679683 : True := trivial
theorem hd0.tw15621366761432239028 : True := trivial
theorem hd0.tw15629198639221518246 : True := trivial
theorem hd0.tw15631703557454890568 : True := trivial
theorem hd0.tw15651294698572667320 : True := trivial
theorem hd0.tw1565584834502881264 : True := trivial
theorem hd0.tw15662963303021941862 : True := trivial
theorem hd0.tw1566675678902604740 : True := trivial
theorem hd0.tw15675528710725479212 : True := trivial
theorem hd0.tw15726108546692610502 : True := trivial
theorem hd0.tw15728283652489511788 : True := trivial
theorem hd0.tw15764005096722370900 : True := trivial
theorem hd0.tw15783581761236437582 : True := trivial
theorem hd0.tw15883065056585263411 : True := trivial
theorem hd0.tw15897564236780334493 : True := trivial
theorem hd0.tw15921446404595158815 : True := trivial
theorem hd0.tw15960652031959596643 : True := trivial
theorem hd0.tw16034952089515472046 : True := trivial
theorem hd0.tw16057218211864961754 : True := trivial
theorem hd0.tw16108287189683485180 : True := trivial
theorem hd0.tw16112012934339231772 : True := trivial
theorem hd0.tw16112030641436606340 : True := trivial
theorem hd0.tw16136509226700455639 : True := trivial
theorem hd0.tw16148604249999490175 : True := trivial
theorem hd0.tw16227330568274277125 : True := trivial
theorem hd0.tw16255563409837272293 : True := trivial
theorem hd0.tw16271690622389391696 : True := trivial
theorem hd0.tw16305315067834280204 : True := trivial
theorem hd0.tw16353760942946646146 : True := trivial
theorem hd0.tw16389596510190857529 : True := trivial
theorem hd0.tw16426948963021806353 : True := trivial
theorem hd0.tw16463593755247147200 : True := trivial
theorem hd0.tw16518725849791831052 : True := trivial
theorem hd0.tw16577491470658047865 : True := trivial
theorem hd0.tw1658824891121474949 : True := trivial
theorem hd0.tw16594580601805772844 : True := trivial
theorem hd0.tw1659871116806467821 : True := trivial
theorem hd0.tw16611413978080045876 : True := trivial
theorem hd0.tw16662378271934689912 : True := trivial
theorem hd0.tw16664977806865809019 : True := trivial
theorem hd0.tw1666546761208262739 : True := trivial
theorem hd0.tw16683429243250885502 : True := trivial
theorem hd0.tw16690107442442495926 : True := trivial
theorem hd0.tw16703394668816812204 : True := trivial
theorem hd0.tw1673108226327096836 : True := trivial
theorem hd0.tw16748173589141266553 : True := trivial
theorem hd0.tw16763015023445361833 : True := trivial
theorem hd0.tw16788234594190417584 : True := trivial
theorem hd0.tw16799398214865156367 : True := trivial
theorem hd0.tw16844770772499615110 : True := trivial
theorem hd0.tw16866877141584463672 : True := trivial
theorem hd0.tw16871336801076393977 : True := trivial
theorem hd0.tw16882206679108747679 : True := trivial
theorem hd0.tw1690223966290365743 : True := trivial
theorem hd0.tw16912591420726631485 : True := trivial
theorem hd0.tw16945641315097055003 : True := trivial
theorem hd0.tw16946435295296715926 : True := trivial
theorem hd0.tw16983820468018708842 : True := trivial
theorem hd0.tw1700567991170962110 : True := trivial
theorem hd0.tw17018938808108061734 : True := trivial
theorem hd0.tw17029817810433668922 : True := trivial
theorem hd0.tw17043531303389682065 : True := trivial
theorem hd0.tw17058962927632970581 : True := trivial
theorem hd0.tw17111967392191881361 : True := trivial
theorem hd0.tw17132104802792603634 : True := trivial
theorem hd0.tw17150494515759998069 : True := trivial
theorem hd0.tw17154914396850454422 : True := trivial
theorem hd0.tw17161414228395185700 : True := trivial
theorem hd0.tw17165560880091878914 : True := trivial
theorem hd0.tw17259225582567307977 : True := trivial
theorem hd0.tw17297856964557519182 : True := trivial
theorem hd0.tw17298106245098144651 : True := trivial
theorem hd0.tw17310554660023955137 : True := trivial
theorem hd0.tw17327177587765197472 : True := trivial
theorem hd0.tw17443584081481348451 : True := trivial
theorem hd0.tw17444978098136114977 : True := trivial
theorem hd0.tw17517931720181830703 : True := trivial
theorem hd0.tw17557899024913747603 : True := trivial
theorem hd0.tw17635323563970671914 : True := trivial
theorem hd0.tw17636036072376682784 : True := trivial
theorem hd0.tw17651327042114731174 : True := trivial
theorem hd0.tw17690893716680240463 : True := trivial
theorem hd0.tw17702789791935442930 : True := trivial
theorem hd0.tw17705790862779081903 : True := trivial
theorem hd0.tw17749686616707534322 : True := trivial
theorem hd0.tw17751538270359655562 : True := trivial
theorem hd0.tw17763732069537761205 : True := trivial
theorem hd0.tw17781076316100833504 : True := trivial
theorem hd0.tw1779554380871787090 : True := trivial
theorem hd0.tw17819310920826306093 : True := trivial
theorem hd0.tw17823266487745473820 : True := trivial
theorem hd0.tw17827044479204264032 : True := trivial
theorem hd0.tw17828249871568911703 : True := trivial
theorem hd0.tw17910583106863524117 : True := trivial
theorem hd0.tw17965875459906211518 : True := trivial
theorem hd0.tw17974293710500619716 : True := trivial
theorem hd0.tw17996456997027125405 : True := trivial
theorem hd0.tw17998732546299578792 : True := trivial
theorem hd0.tw179991387133551241 : True := trivial
theorem hd0.tw18078784917974338621 : True := trivial
theorem hd0.tw18098247460298835536 : True := trivial
theorem hd0.tw18112031189588308069 : True := trivial
theorem hd0.tw18128571658164433924 : True := trivial
theorem hd0.tw18132021507681513943 : True := trivial
theorem hd0.tw18135268618719461282 : True := trivial
theorem hd0.tw18143976691941029074 : True := trivial
theorem hd0.tw18146432252387701884 : True := trivial
theorem hd0.tw18186319125245921542 : True := trivial
theorem hd0.tw1821098575492082715 : True := trivial
theorem hd0.tw1824040809486260883 : True := trivial
theorem hd0.tw18253309430737647335 : True := trivial
theorem hd0.tw1825929278167054478 : True := trivial
theorem hd0.tw1830908064365640755 : True := trivial
theorem hd0.tw18310740603297040469 : True := trivial
theorem hd0.tw18344095453417198420 : True := trivial
theorem hd0.tw18353199073579788961 : True := trivial
theorem hd0.tw18404732335237923469 : True := trivial
theorem hd0.tw18416291653570748741 : True := trivial
theorem hd0.tw18429324449565333914 : True := trivial
theorem hd0.tw1862731975049639359 : True := trivial
theorem hd0.tw1881863556942964538 : True := trivial
theorem hd0.tw189931430836679332 : True := trivial
theorem hd0.tw1903914753097239244 : True := trivial
theorem hd0.tw1904828551985836751 : True := trivial
theorem hd0.tw1914565142353105173 : True := trivial
theorem hd0.tw1943803618969230435 : True := trivial
theorem hd0.tw1958745321591857818 : True := trivial
theorem hd0.tw1963438426913184167 : True := trivial
theorem hd0.tw1963946255483287312 : True := trivial
theorem hd0.tw2008372144067494435 : True := trivial
theorem hd0.tw201601121702685456 : True := trivial
theorem hd0.tw2025992563494124259 : True := trivial
theorem hd0.tw2080979622161356455 : True := trivial
theorem hd0.tw208745692366851961 : True := trivial
theorem hd0.tw2089478843488583011 : True := trivial
theorem hd0.tw2093440984422149139 : True := trivial
theorem hd0.tw2128425038151221735 : True := trivial
theorem hd0.tw2202114373748815983 : True := trivial
theorem hd0.tw2219251433370212802 : True := trivial
theorem hd0.tw2276499456352293219 : True := trivial
theorem hd0.tw2302055443720114960 : True := trivial
theorem hd0.tw2329996539569397640 : True := trivial
theorem hd0.tw2338661219346607142 : True := trivial
theorem hd0.tw2350088028635606421 : True := trivial
theorem hd0.tw2395880578221408459 : True := trivial
theorem hd0.tw241197298611353260 : True := trivial
theorem hd0.tw2431039718480141022 : True := trivial
theorem hd0.tw243666046294145252 : True := trivial
theorem hd0.tw2489025533102696113 : True := trivial
theorem hd0.tw2510589942101626497 : True := trivial
theorem hd0.tw2510654449352665463 : True := trivial
theorem hd0.tw2514418997314332413 : True := trivial
theorem hd0.tw2560645528216939667 : True := trivial
theorem hd0.tw2630645244069355918 : True := trivial
theorem hd0.tw2715553291875944595 : True := trivial
theorem hd0.tw2784943137000400733 : True := trivial
theorem hd0.tw2808911380250203912 : True := trivial
theorem hd0.tw2827288076518157466 : True := trivial
theorem hd0.tw2834553128231939821 : True := trivial
theorem hd0.tw2846630024949705071 : True := trivial
theorem hd0.tw2860899101727606338 : True := trivial
theorem hd0.tw2863537065255238847 : True := trivial
theorem hd0.tw2872236389525822384 : True := trivial
theorem hd0.tw2919583234286436895 : True := trivial
theorem hd0.tw295419916050123564 : True := trivial
theorem hd0.tw3024064083601115836 : True := trivial
theorem hd0.tw3033483415405381561 : True := trivial
theorem hd0.tw309277354587492579 : True := trivial
theorem hd0.tw3093808528041796494 : True := trivial
theorem hd0.tw3122099125937794099 : True := trivial
theorem hd0.tw3149825195295114616 : True := trivial
theorem hd0.tw3153493263474777528 : True := trivial
theorem hd0.tw3170042050522049602 : True := trivial
theorem hd0.tw3178646243906574223 : True := trivial
theorem hd0.tw3179202085876152303 : True := trivial
theorem hd0.tw3186221082092428893 : True := trivial
theorem hd0.tw3203689360760453423 : True := trivial
theorem hd0.tw3233326631691786436 : True := trivial
theorem hd0.tw3278175577387793967 : True := trivial
theorem hd0.tw3280791499721090808 : True := trivial
theorem hd0.tw3317334220728377626 : True := trivial
theorem hd0.tw3333271112219793377 : True := trivial
theorem hd0.tw3352384854717104398 : True := trivial
theorem hd0.tw3361144743427637995 : True := trivial
theorem hd0.tw3394719057209654559 : True := trivial
theorem hd0.tw3404567561779638057 : True := trivial
theorem hd0.tw3406311059433270224 : True := trivial
theorem hd0.tw3465554795787012971 : True := trivial
theorem hd0.tw346728946608962706 : True := trivial
theorem hd0.tw3478441296818514767 : True := trivial
theorem hd0.tw3525650266765315696 : True := trivial
theorem hd0.tw3540153769243320697 : True := trivial
theorem hd0.tw3563376653281826072 : True := trivial
theorem hd0.tw3583411130920290095 : True := trivial
theorem hd0.tw3640104315449746964 : True := trivial
theorem hd0.tw3647629822860100997 : True := trivial
theorem hd0.tw3649991183435880112 : True := trivial
theorem hd0.tw3682416365666891632 : True := trivial
theorem hd0.tw3687058039446345037 : True := trivial
theorem hd0.tw3687841886611527418 : True := trivial
theorem hd0.tw3692216064368290878 : True := trivial
theorem hd0.tw3742632825282854878 : True := trivial
theorem hd0.tw3752284228027186358 : True := trivial
theorem hd0.tw3771890792122485445 : True := trivial
theorem hd0.tw3801730876566874525 : True := trivial
theorem hd0.tw3801753739915242578 : True := trivial
theorem hd0.tw3832096840286635077 : True := trivial
theorem hd0.tw3949515639412079851 : True := trivial
theorem hd0.tw3990100346840067004 : True := trivial
theorem hd0.tw4045271052188277880 : True := trivial
theorem hd0.tw4061320783067801059 : True := trivial
theorem hd0.tw4116054870980984685 : True := trivial
theorem hd0.tw4130853821130465106 : True := trivial
theorem hd0.tw4215313949165501139 : True := trivial
theorem hd0.tw4246812479124471808 : True := trivial
theorem hd0.tw4276791122523266205 : True := trivial
theorem hd0.tw4319935590431654399 : True := trivial
theorem hd0.tw4320476126873396096 : True := trivial
theorem hd0.tw4345986799964169788 : True := trivial
theorem hd0.tw4366586776664963993 : True := trivial
theorem hd0.tw444321031296666723 : True := trivial
theorem hd0.tw4449064183696094736 : True := trivial
theorem hd0.tw447684426723917565 : True := trivial
theorem hd0.tw4504473542979724961 : True := trivial
theorem hd0.tw4509526690794525690 : True := trivial
theorem hd0.tw4539016668912386218 : True := trivial
theorem hd0.tw4562695010225406382 : True := trivial
theorem hd0.tw4582842965409387306 : True := trivial
theorem hd0.tw4597174426631724057 : True := trivial
theorem hd0.tw4632445285567490079 : True := trivial
theorem hd0.tw463379757040502600 : True := trivial
theorem hd0.tw4635770160690359362 : True := trivial
theorem hd0.tw4663038693165263023 : True := trivial
theorem hd0.tw4691257246625332865 : True := trivial
theorem hd0.tw4747281084397564757 : True := trivial
theorem hd0.tw475519468955650494 : True := trivial
theorem hd0.tw4770865957954552674 : True := trivial
theorem hd0.tw4798040755957998673 : True := trivial
theorem hd0.tw4798827951396624206 : True := trivial
theorem hd0.tw4837166207565515596 : True := trivial
theorem hd0.tw4863585562482331352 : True := trivial
theorem hd0.tw4864754268065981865 : True := trivial
theorem hd0.tw48920468559051274 : True := trivial
theorem hd0.tw4909664616505572318 : True := trivial
theorem hd0.tw4909836705566933740 : True := trivial
theorem hd0.tw4958161400511572651 : True := trivial
theorem hd0.tw4972683947323451530 : True := trivial
theorem hd0.tw4983706646000405154 : True := trivial
theorem hd0.tw4992598812696569949 : True := trivial
theorem hd0.tw5007199833478882345 : True := trivial
theorem hd0.tw5009392681941405746 : True := trivial
theorem hd0.tw5026567979408028989 : True := trivial
theorem hd0.tw5049636077015095027 : True := trivial
theorem hd0.tw5093094753107941602 : True := trivial
theorem hd0.tw5094363740755177244 : True := trivial
theorem hd0.tw5123671803952530491 : True := trivial
theorem hd0.tw5125984077138792351 : True := trivial
theorem hd0.tw5144168574050735280 : True := trivial
theorem hd0.tw5145303074121384310 : True := trivial
theorem hd0.tw5151245016333330754 : True := trivial
theorem hd0.tw5173078720295292078 : True := trivial
theorem hd0.tw5215330951671769291 : True := trivial
theorem hd0.tw5223386943819690705 : True := trivial
theorem hd0.tw5227927476374808225 : True := trivial
theorem hd0.tw5241754053254526420 : True := trivial
theorem hd0.tw5244145174254350547 : True := trivial
theorem hd0.tw5271022457499508285 : True := trivial
theorem hd0.tw5293605420637987274 : True := trivial
theorem hd0.tw529858205858471961 : True := trivial
theorem hd0.tw5318674803886399600 : True := trivial
theorem hd0.tw5328798070617476075 : True := trivial
theorem hd0.tw5336939312866089149 : True := trivial
theorem hd0.tw5341192815897622196 : True := trivial
theorem hd0.tw5353220722972676460 : True := trivial
theorem hd0.tw5354866172724995518 : True := trivial
theorem hd0.tw5366906053448781924 : True := trivial
theorem hd0.tw5381195712251870386 : True := trivial
theorem hd0.tw540056177587193571 : True := trivial
theorem hd0.tw5428070130070536091 : True := trivial
theorem hd0.tw5429866549726478036 : True := trivial
theorem hd0.tw5447685084907291095 : True := trivial
theorem hd0.tw545614883460498859 : True := trivial
theorem hd0.tw5461055050941286108 : True := trivial
theorem hd0.tw5476550517563732157 : True := trivial
theorem hd0.tw5484117130419629514 : True := trivial
theorem hd0.tw5487660210450000937 : True := trivial
theorem hd0.tw5573079312679747698 : True := trivial
theorem hd0.tw5583339228994031707 : True := trivial
theorem hd0.tw5592874710671989167 : True := trivial
theorem hd0.tw5641299431439701213 : True := trivial
theorem hd0.tw5677194259293420247 : True := trivial
theorem hd0.tw5795620790108031851 : True := trivial
theorem hd0.tw5851460317537991607 : True := trivial
theorem hd0.tw585297023151507021 : True := trivial
theorem hd0.tw5886135802988145460 : True := trivial
theorem hd0.tw5890942443033146247 : True := trivial
theorem hd0.tw5900601929854858263 : True := trivial
theorem hd0.tw5932400532023938697 : True := trivial
theorem hd0.tw6014977574509414443 : True := trivial
theorem hd0.tw6062643184621189875 : True := trivial
theorem hd0.tw6072526196483470674 : True := trivial
theorem hd0.tw6097230029259139074 : True := trivial
theorem hd0.tw612490874915578456 : True := trivial
theorem hd0.tw6134885170197741980 : True := trivial
theorem hd0.tw619783545232244655 : True := trivial
theorem hd0.tw6253368036500149347 : True := trivial
theorem hd0.tw6269040581006461771 : True := trivial
theorem hd0.tw6302951332473218875 : True := trivial
theorem hd0.tw6304940225609730636 : True := trivial
theorem hd0.tw6319714708284619015 : True := trivial
theorem hd0.tw6326191274288118561 : True := trivial
theorem hd0.tw6370926679442433380 : True := trivial
theorem hd0.tw6371508206912872073 : True := trivial
theorem hd0.tw6425220609725761449 : True := trivial
theorem hd0.tw6487651796703802930 : True := trivial
theorem hd0.tw650764759088172349 : True := trivial
theorem hd0.tw6518245875282815045 : True := trivial
theorem hd0.tw6568540664440534053 : True := trivial
theorem hd0.tw6607671939436325396 : True := trivial
theorem hd0.tw6610721040928539861 : True := trivial
theorem hd0.tw6649401386675659039 : True := trivial
theorem hd0.tw6663342589294648794 : True := trivial
theorem hd0.tw666637029103987267 : True := trivial
theorem hd0.tw6686488626606641068 : True := trivial
theorem hd0.tw6731150079252952819 : True := trivial
theorem hd0.tw6821811203807404624 : True := trivial
theorem hd0.tw688828823437750791 : True := trivial
theorem hd0.tw6893331240596464896 : True := trivial
theorem hd0.tw6958545755987672987 : True := trivial
theorem hd0.tw6968693266975517553 : True := trivial
theorem hd0.tw6988502431003423887 : True := trivial
theorem hd0.tw6998471644465347158 : True := trivial
theorem hd0.tw7005178408466318249 : True := trivial
theorem hd0.tw7026590804218146370 : True := trivial
theorem hd0.tw7132760851028116863 : True := trivial
theorem hd0.tw7236157760442490695 : True := trivial
theorem hd0.tw7252911797259916394 : True := trivial
theorem hd0.tw7274435628105354247 : True := trivial
theorem hd0.tw7302656184531018288 : True := trivial
theorem hd0.tw7318283407661637438 : True := trivial
theorem hd0.tw7359261033328424013 : True := trivial
theorem hd0.tw7363420458022538984 : True := trivial
theorem hd0.tw7415385052924869713 : True := trivial
theorem hd0.tw744657077029961169 : True := trivial
theorem hd0.tw7457606185915767809 : True := trivial
theorem hd0.tw7542354998850790293 : True := trivial
theorem hd0.tw7542987220096456192 : True := trivial
theorem hd0.tw7579484373256523769 : True := trivial
theorem hd0.tw7623283449146697146 : True := trivial
theorem hd0.tw7639661606733977184 : True := trivial
theorem hd0.tw7647748658271166302 : True := trivial
theorem hd0.tw7662431337288749014 : True := trivial
theorem hd0.tw7721425996154828510 : True := trivial
theorem hd0.tw77255158522707574 : True := trivial
theorem hd0.tw7731734453053413589 : True := trivial
theorem hd0.tw773914070166202923 : True := trivial
theorem hd0.tw7754451475289968488 : True := trivial
theorem hd0.tw7754574992301268747 : True := trivial
theorem hd0.tw7762228098215924476 : True := trivial
theorem hd0.tw7849129040761613689 : True := trivial
theorem hd0.tw7853352018574658554 : True := trivial
theorem hd0.tw7868138818950617825 : True := trivial
theorem hd0.tw7895234915340226546 : True := trivial
theorem hd0.tw7937780131228529215 : True := trivial
theorem hd0.tw7952332637410452714 : True := trivial
theorem hd0.tw7967449625968389043 : True := trivial
theorem hd0.tw7971345679002030817 : True := trivial
theorem hd0.tw8016032594811649588 : True := trivial
theorem hd0.tw8021989280010895897 : True := trivial
theorem hd0.tw8052174542758884176 : True := trivial
theorem hd0.tw8052357078556783665 : True := trivial
theorem hd0.tw8066634004926191738 : True := trivial
theorem hd0.tw8074934102184914911 : True := trivial
theorem hd0.tw8077860469154291183 : True := trivial
theorem hd0.tw8125271861009673391 : True := trivial
theorem hd0.tw8196393364371573391 : True := trivial
theorem hd0.tw8239782323564299538 : True := trivial
theorem hd0.tw8284464484006228044 : True := trivial
theorem hd0.tw83355183581604759 : True := trivial
theorem hd0.tw8428931017558521197 : True := trivial
theorem hd0.tw8433178389996576230 : True := trivial
theorem hd0.tw8437564595239901655 : True := trivial
theorem hd0.tw8445946584241079207 : True := trivial
theorem hd0.tw8464541185895156213 : True := trivial
theorem hd0.tw8472709252117196360 : True := trivial
theorem hd0.tw8475788313178198593 : True := trivial
theorem hd0.tw8575195297261919627 : True := trivial
theorem hd0.tw8630921456870516999 : True := trivial
theorem hd0.tw866052350247734544 : True := trivial
theorem hd0.tw8685259877602558530 : True := trivial
theorem hd0.tw870125979508588301 : True := trivial
theorem hd0.tw8712901905228093983 : True := trivial
theorem hd0.tw876251100685909870 : True := trivial
theorem hd0.tw8785302206795578915 : True := trivial
theorem hd0.tw8799922735631600174 : True := trivial
theorem hd0.tw8829411451785746636 : True := trivial
theorem hd0.tw8860506098235749104 : True := trivial
theorem hd0.tw8900189494578354568 : True := trivial
theorem hd0.tw8907265306392417265 : True := trivial
theorem hd0.tw891186494875849158 : True := trivial
theorem hd0.tw8913561755670897571 : True := trivial
theorem hd0.tw8922296282117307497 : True := trivial
theorem hd0.tw8935835073043769850 : True := trivial
theorem hd0.tw8977896322151119144 : True := trivial
theorem hd0.tw8989800094379352571 : True := trivial
theorem hd0.tw9001251600818444179 : True := trivial
theorem hd0.tw901327545473398541 : True := trivial
theorem hd0.tw9022554804500196224 : True := trivial
theorem hd0.tw9025043858014030743 : True := trivial
theorem hd0.tw9056650140919055547 : True := trivial
theorem hd0.tw9059464732126916848 : True := trivial
theorem hd0.tw9059920523635683277 : True := trivial
theorem hd0.tw906593335335552129 : True := trivial
theorem hd0.tw9115860346242966872 : True := trivial
theorem hd0.tw9126222054196385890 : True := trivial
theorem hd0.tw9156831516254439780 : True := trivial
theorem hd0.tw9158488875951367014 : True := trivial
theorem hd0.tw9208621619424456504 : True := trivial
theorem hd0.tw9217374109600900450 : True := trivial
theorem hd0.tw9239670224111219178 : True := trivial
theorem hd0.tw9263301239724254889 : True := trivial
theorem hd0.tw9307621412662132602 : True := trivial
theorem hd0.tw9387283391072121096 : True := trivial
theorem hd0.tw9402539598613710537 : True := trivial
theorem hd0.tw9454721371543059285 : True := trivial
theorem hd0.tw9563851893216371074 : True := trivial
theorem hd0.tw9588568164011065487 : True := trivial
theorem hd0.tw9589788102987637898 : True := trivial
theorem hd0.tw961968547571948100 : True := trivial
theorem hd0.tw9628215647254909069 : True := trivial
theorem hd0.tw9632985906301461538 : True := trivial
theorem hd0.tw9636773541000906454 : True := trivial
theorem hd0.tw9636976457204810352 : True := trivial
theorem hd0.tw9732216286042656328 : True := trivial
theorem hd0.tw9745709091790514047 : True := trivial
theorem hd0.tw9773060922126450176 : True := trivial
theorem hd0.tw9777354187630944624 : True := trivial
theorem hd0.tw9799908990197425402 : True := trivial
theorem hd0.tw9802666196054454208 : True := trivial
theorem hd0.tw9834784931133436917 : True := trivial
theorem hd0.tw9846644877726163059 : True := trivial
theorem hd0.tw9915369828831269134 : True := trivial
theorem hd0.tw9949846813906436267 : True := trivial
theorem hd0.tw9957591292199686767 : True := trivial
theorem hd0.tw11102211075282905558 : True := trivial
theorem hd0.tw415706843491771442 : True := trivial
theorem hd0.tw4816591812421909578 : True := trivial
theorem hd0.tw9228133366594409826 : True := trivial
set_option Elab.async true
set_option maxRecDepth 100000 in
set_option maxHeartbeats 8000000 in
theorem hd0 : PySem.Challenge.rw_pq0574_01.Holds := by
  w_on
  o_law
  o_head (kHook Mine.KK Mine.KKas (fun _ => by kernel_rfl))
  case hw => w_witness2
  k_go0
  rename_i w s₀ s₁ mg mb G Y fa o pm doc ho hg KX X V GL T B TE TW w10 w9 M w8 w7 hcd nums hs hlay0 hL1 hr1 hl2 w5 w4 l vs w1a hL ra wel r0 hI hr hcond hc2 K0 hD h1 tk F wo right N0 X0
  refine Mine.law_go (by with_unfolding_all exact rfl) (Mine.list_of_well hL wel) hI (by omega) KX T.g T.b T.builtins T.nolimit hg (cast (by kernel_rfl) F) N0 (cast (by kernel_rfl) right) ?_
  intro s' hk hos hgs
  exact ⟨.inl ⟨_, .bool true, [], rfl, fun _ => rfl, .bool true, by kernel_rfl, fun _ => ⟨List.nodup_nil, fun _ h => nomatch h⟩⟩, hk, hos, hgs⟩
end Mine
theorem PySem.Challenge.cw_pq0574_01_holds : PySem.Challenge.rw_pq0574_01.Holds :=
  Mine.hd0

end
