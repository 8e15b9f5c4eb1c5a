import PyProof.Rows.All
import Wide.All
import OpenK.AllK
import Wide.FinOn
import Lean
import PySem.Challenge.RW_sq0049_01
open PySem PySem.W PyProof.Rows PySem.Calls
set_option Elab.async false
set_option maxRecDepth 100000
set_option autoImplicit false
set_option linter.unusedVariables false
set_option linter.unusedSimpArgs false
set_option bootstrap.genMatcherCode false
set_option genSizeOf false
set_option genSizeOfSpec false
namespace Mine

/- S0 -/

/-! ## abstract values -/
inductive AV where
  | none
  | bool (b : Bool)
  | int (i : Int)
  | str (s : List Nat)
  | tup (l : List AV)
  | ref (i : Nat)
  | lit (v : Value)
deriving Inhabited

inductive AO where
  | list (l : List AV)
  | inst (C d : Nat)
  | ns (fs : List (Str × AV))
  | cell (v : Option AV)
  | dict0 (i : Nat)

noncomputable abbrev Store := List AO
noncomputable abbrev Loc := List (Option AV)

inductive Res (α : Type) where
  | ok (a : α) (σ : Store)
  | exc (C : Nat) (σ : Store)
  | stuck

namespace Res
variable {α β : Type}
noncomputable def bind (r : Res α) (k : α → Store → Res β) : Res β := match r with
  | .ok a σ => k a σ
  | .exc C σ => .exc C σ
  | .stuck => .stuck
noncomputable def good (tn : Bool) : Res α → Prop
  | .ok _ _ => True
  | .exc _ _ => tn = false
  | .stuck => False
theorem good_bind {tn : Bool} {r : Res α} {k : α → Store → Res β} (h : (r.bind k).good tn) : r.good tn := by
  cases r <;> first | trivial | exact h
end Res

structure Wd where
  φ : List Nat
  news : List (Addr × Obj)

structure Cx where
  prog : Program
  w : World
  K : Frag
  p : Program
  loose : List Str
  mean : ExcName → Option Value
  mg : Str → Option Value
  mb : Str → Option Value
  base : Heap
  gens : Array GenState
  drawn : Drawn
  os : OsState

noncomputable abbrev Cx.M (c : Cx) : Model := model c.prog c.w
structure Cx.Ok (c : Cx) : Prop where
  XB : c.K.In c.base
  TB : Top c.p c.loose c.mean c.mg c.mb c.base

noncomputable abbrev tupO (vs : List Value) (n : Nat) : Obj := { cls := .type "tuple", data := .seq vs.toArray n }
noncomputable abbrev sOf (l : List Nat) : Str := ⟨l.toArray⟩

section
variable (c : Cx) (W : Wd)
noncomputable def AtO (a : Addr) (o : Obj) : Prop := ((a, o) ∈ W.news ∧ a ∉ W.φ) ∨ c.K.lookup a = some o
mutual
inductive RV : AV → Value → Prop
  | none : RV .none .none
  | bool (b : Bool) : RV (.bool b) (.bool b)
  | int (i : Int) (t : Tok) : RV (.int i) (.int i t)
  | str (s : List Nat) (t : Tok) : RV (.str s) (.str (sOf s) t)
  | tup {l : List AV} {vs : List Value} {a : Addr} {n : Nat} (h : AtO c W a (tupO vs n)) (hs : RVs l vs) : RV (.tup l) (.ref a)
  | ref {i a : Nat} (h : W.φ[i]? = some a) : RV (.ref i) (.ref a)
  | lit (v : Value) : RV (.lit v) v
inductive RVs : List AV → List Value → Prop
  | nil : RVs [] []
  | cons {x : AV} {l : List AV} {v : Value} {vs : List Value} (h : RV x v) (hs : RVs l vs) : RVs (x :: l) (v :: vs)
end

inductive RE : List (Str × AV) → List DictEntry → Prop
  | nil : RE [] []
  | cons {x : Str} {v : AV} {l : List (Str × AV)} {V : Value} {h : Int} {t : Tok} {es : List DictEntry} (hv : RV c W v V) (hs : RE l es) : RE ((x, v) :: l) (⟨h, .str x t, V⟩ :: es)

inductive RO : AO → Obj → Prop
  | list {l : List AV} {vs : List Value} {n : Nat} (h : RVs c W l vs) : RO (.list l) (PySem.W.listOf vs.toArray n)
  | inst {C d dx : Nat} (h : W.φ[d]? = some dx) : RO (.inst C d) (instObj C dx)
  | ns {fs : List (Str × AV)} {es : List DictEntry} {n : Nat} (h : RE c W fs es) : RO (.ns fs) (dictOf es n)
  | dict0 {i a : Nat} (hi : W.φ[i]? = some a) (hne : (a == sysModules) = false) : RO (.dict0 i) { cls := .type "dict", data := .dict #[] }
  | cell0 {ob : Obj} (hd : ob.data = .cell none) : RO (.cell none) ob
  | cell {v : AV} {V : Value} {ob : Obj} (hd : ob.data = .cell (some V)) (h : RV c W v V) : RO (.cell (some v)) ob

structure StoreR (σ : Store) : Prop where
  len : W.φ.length = σ.length
  nodup : W.φ.Nodup
  obj : ∀ (i : Nat) (o : AO), σ[i]? = some o → ∃ a ob, W.φ[i]? = some a ∧ (a, ob) ∈ W.news ∧ RO c W o ob

noncomputable def LocR (names : List (Str × NameKind)) (cl : List (Str × Addr)) (ρ : Loc) (m : Str → Option Value) : Prop :=
  ∀ (i : Nat) (x : Str) (k : NameKind) (v : AV), names[i]? = some (x, k) → ρ[i]? = some (some v) → ∃ V, (k ≠ .cell → m x = some V) ∧ (k = .cell → ∃ a, cl.lookup x = some a ∧ V = .ref a) ∧ RV c W v V
end

/-- the order of worlds: what is no object of the store stands -/
structure Wd.Le (W W' : Wd) : Prop where
  φ : ∃ l, W'.φ = W.φ ++ l
  keep : ∀ a o, (a, o) ∈ W.news → a ∉ W.φ → (a, o) ∈ W'.news ∧ a ∉ W'.φ
theorem Wd.Le.refl (W : Wd) : W.Le W := ⟨⟨[], (List.append_nil _).symm⟩, fun _ _ h h' => ⟨h, h'⟩⟩
theorem Wd.Le.trans {W W' W'' : Wd} (a : W.Le W') (b : W'.Le W'') : W.Le W'' := by
  obtain ⟨⟨l, e⟩, t⟩ := a
  obtain ⟨⟨l', e'⟩, t'⟩ := b
  exact ⟨⟨l ++ l', by rw [e', e, List.append_assoc]⟩, fun x o h ho => let ⟨q1, q2⟩ := t x o h ho; t' x o q1 q2⟩
theorem Wd.Le.get {W W' : Wd} (h : W.Le W') {i a : Nat} (e : W.φ[i]? = some a) : W'.φ[i]? = some a := by
  obtain ⟨⟨l, q⟩, _⟩ := h
  rw [q, List.getElem?_append_left]
  · exact e
  · exact (List.getElem?_eq_some_iff.mp e).1
theorem Wd.Le.at {c : Cx} {W W' : Wd} (h : W.Le W') {a : Addr} {o : Obj} (e : AtO c W a o) : AtO c W' a o :=
  e.imp (fun e => h.keep _ _ e.1 e.2) id
/-- the weak order: what the values look at stands -/
structure Wd.Wk (c : Cx) (W W' : Wd) : Prop where
  φ : ∀ (i a : Nat), W.φ[i]? = some a → W'.φ[i]? = some a
  at_ : ∀ a vs n, AtO c W a (tupO vs n) → AtO c W' a (tupO vs n)
theorem Wd.Le.wk {c : Cx} {W W' : Wd} (h : W.Le W') : Wd.Wk c W W' := ⟨fun _ _ e => h.get e, fun _ _ _ e => h.at e⟩
section
variable {c : Cx} {W W' : Wd}
theorem RVs.ind {motive : List AV → List Value → Prop} (h0 : motive [] []) (h1 : ∀ {x : AV} {l : List AV} {v : Value} {vs : List Value}, RV c W x v → RVs c W l vs → motive l vs → motive (x :: l) (v :: vs)) {l : List AV} {vs : List Value} (h : RVs c W l vs) : motive l vs :=
  RVs.rec (motive_1 := fun _ _ _ => True) (motive_2 := fun l vs _ => motive l vs) trivial (fun _ => trivial) (fun _ _ => trivial) (fun _ _ => trivial) (fun _ _ _ => trivial) (fun _ => trivial) (fun _ => trivial) h0 (fun hv hs _ ih => h1 hv hs ih) h
theorem RV.wk (h : Wd.Wk c W W') {v : AV} {V : Value} (r : RV c W v V) : RV c W' v V :=
  RV.rec (motive_1 := fun v V _ => RV c W' v V) (motive_2 := fun l vs _ => RVs c W' l vs) .none .bool .int .str (fun ha _ ih => .tup (h.at_ _ _ _ ha) ih) (fun e => .ref (h.φ _ _ e)) .lit .nil (fun _ _ a b => .cons a b) r
theorem RVs.wk (h : Wd.Wk c W W') {l : List AV} {vs : List Value} (r : RVs c W l vs) : RVs c W' l vs :=
  r.ind (motive := RVs c W') .nil fun hv _ ih => .cons (hv.wk h) ih
theorem RE.wk (h : Wd.Wk c W W') {l : List (Str × AV)} {es : List DictEntry} (r : RE c W l es) : RE c W' l es :=
  RE.rec (motive := fun l es _ => RE c W' l es) .nil (fun hv _ ih => .cons (hv.wk h) ih) r
theorem RO.wk (h : Wd.Wk c W W') {o : AO} {ob : Obj} (r : RO c W o ob) : RO c W' o ob :=
  RO.rec (motive := fun o ob _ => RO c W' o ob) (fun a => .list (a.wk h)) (fun e => .inst (h.φ _ _ e)) (fun e => .ns (e.wk h)) (fun e q => .dict0 (h.φ _ _ e) q) (fun e => .cell0 e) (fun e r => .cell e (r.wk h)) r
theorem LocR.wk {names : List (Str × NameKind)} {cl : List (Str × Addr)} {ρ : Loc} {m : Str → Option Value} (h : Wd.Wk c W W') (r : LocR c W names cl ρ m) : LocR c W' names cl ρ m :=
  fun i x k v e q => let ⟨V, a, a', b⟩ := r i x k v e q; ⟨V, a, a', b.wk h⟩
theorem StoreR.wk {σ : Store} (S : StoreR c W σ) (h : Wd.Wk c W W') (e : W'.φ = W.φ) (hn : ∀ a o, (a, o) ∈ W.news → a ∈ W.φ → (a, o) ∈ W'.news) : StoreR c W' σ :=
  ⟨by rw [e]; exact S.len, by rw [e]; exact S.nodup, fun i o q => let ⟨a, ob, h1, h2, h3⟩ := S.obj i o q; ⟨a, ob, by rw [e]; exact h1, hn _ _ h2 (List.mem_of_getElem? h1), h3.wk h⟩⟩
theorem RV.mono (h : W.Le W') {v : AV} {V : Value} (r : RV c W v V) : RV c W' v V := r.wk h.wk
theorem RVs.mono (h : W.Le W') {l : List AV} {vs : List Value} (r : RVs c W l vs) : RVs c W' l vs := r.wk h.wk
theorem RE.mono (h : W.Le W') {l : List (Str × AV)} {es : List DictEntry} (r : RE c W l es) : RE c W' l es := r.wk h.wk
theorem RO.mono (h : W.Le W') {o : AO} {ob : Obj} (r : RO c W o ob) : RO c W' o ob := r.wk h.wk
theorem LocR.mono {names : List (Str × NameKind)} {cl : List (Str × Addr)} {ρ : Loc} {m : Str → Option Value} (h : W.Le W') (r : LocR c W names cl ρ m) : LocR c W' names cl ρ m := r.wk h.wk
theorem RVs.length {l : List AV} {vs : List Value} (h : RVs c W l vs) : l.length = vs.length :=
  h.ind (motive := fun l vs => l.length = vs.length) rfl fun _ _ ih => congrArg (· + 1) ih
theorem RVs.get {l : List AV} {vs : List Value} (h : RVs c W l vs) : ∀ {i : Nat} {x : AV}, l[i]? = some x → ∃ v, vs[i]? = some v ∧ RV c W x v :=
  h.ind (motive := fun l vs => ∀ {i : Nat} {x : AV}, l[i]? = some x → ∃ v, vs[i]? = some v ∧ RV c W x v) (fun e => nomatch e) fun {x l v vs} hv _ ih {i y} e => match i with
    | 0 => ⟨v, rfl, Option.some.inj e ▸ hv⟩
    | i + 1 => ih (i := i) e
theorem RVs.append {l l' : List AV} {vs vs' : List Value} (h : RVs c W l vs) (h' : RVs c W l' vs') : RVs c W (l ++ l') (vs ++ vs') :=
  h.ind (motive := fun l vs => RVs c W (l ++ l') (vs ++ vs')) h' fun hv _ ih => .cons hv ih
theorem RVs.set {l : List AV} {vs : List Value} (h : RVs c W l vs) : ∀ {i : Nat} {x : AV} {v : Value}, RV c W x v → RVs c W (l.set i x) (vs.set i v) :=
  h.ind (motive := fun l vs => ∀ {i : Nat} {x : AV} {v : Value}, RV c W x v → RVs c W (l.set i x) (vs.set i v)) (fun _ => .nil) fun {_ _ _ _} hv hs ih {i _ _} h => match i with
    | 0 => .cons h hs
    | i + 1 => .cons hv (ih (i := i) h)
theorem RVs.take {l : List AV} {vs : List Value} (h : RVs c W l vs) : ∀ (n : Nat), RVs c W (l.take n) (vs.take n) :=
  h.ind (motive := fun l vs => ∀ (n : Nat), RVs c W (l.take n) (vs.take n)) (fun n => by rw [List.take_nil, List.take_nil]; exact .nil) fun hv hs ih n => match n with
    | 0 => .nil
    | n + 1 => .cons hv (ih n)
theorem RVs.drop {l : List AV} {vs : List Value} (h : RVs c W l vs) : ∀ (n : Nat), RVs c W (l.drop n) (vs.drop n) :=
  h.ind (motive := fun l vs => ∀ (n : Nat), RVs c W (l.drop n) (vs.drop n)) (fun n => by rw [List.drop_nil, List.drop_nil]; exact .nil) fun hv hs ih n => match n with
    | 0 => .cons hv hs
    | n + 1 => ih n
theorem RVs.rev {l : List AV} {vs : List Value} (h : RVs c W l vs) : RVs c W l.reverse vs.reverse :=
  h.ind (motive := fun l vs => RVs c W l.reverse vs.reverse) .nil fun hv _ ih => by rw [List.reverse_cons, List.reverse_cons]; exact ih.append (.cons hv .nil)
/-- what a value of the store looks like, case by case: the inversions come of it -/
noncomputable def RVinv (c : Cx) (W : Wd) : AV → Value → Prop
  | .none, X => X = .none
  | .bool b, X => X = .bool b
  | .int a, X => ∃ t, X = .int a t
  | .str s, X => ∃ t, X = .str (sOf s) t
  | .tup l, X => ∃ a vs n, X = .ref a ∧ AtO c W a (tupO vs n) ∧ RVs c W l vs
  | .ref i, X => ∃ a, X = .ref a ∧ W.φ[i]? = some a
  | .lit v, X => X = v
theorem RV.inv {x : AV} {X : Value} (r : RV c W x X) : RVinv c W x X :=
  RV.rec (motive_1 := fun x X _ => RVinv c W x X) (motive_2 := fun _ _ _ => True) rfl (fun _ => rfl) (fun _ t => ⟨t, rfl⟩) (fun _ t => ⟨t, rfl⟩) (fun ha hs _ => ⟨_, _, _, rfl, ha, hs⟩) (fun h => ⟨_, rfl, h⟩) (fun _ => rfl) trivial (fun _ _ _ _ => trivial) r
theorem RV.none_inv {X : Value} (r : RV c W .none X) : X = .none := r.inv
theorem RV.bool_inv {b : Bool} {X : Value} (r : RV c W (.bool b) X) : X = .bool b := r.inv
theorem RV.int_inv {a : Int} {X : Value} (r : RV c W (.int a) X) : ∃ t, X = .int a t := r.inv
theorem RV.str_inv {s : List Nat} {X : Value} (r : RV c W (.str s) X) : ∃ t, X = .str (sOf s) t := r.inv
theorem RV.tup_inv {l : List AV} {X : Value} (r : RV c W (.tup l) X) : ∃ a vs n, X = .ref a ∧ AtO c W a (tupO vs n) ∧ RVs c W l vs := r.inv
theorem RV.ref_inv {i : Nat} {X : Value} (r : RV c W (.ref i) X) : ∃ a, X = .ref a ∧ W.φ[i]? = some a := r.inv
theorem RV.lit_inv {v X : Value} (r : RV c W (.lit v) X) : X = v := r.inv
theorem RV.int_of {a : Int} {x : AV} {X : Value} (h : RV c W x X) (e : x = .int a) : ∃ t, X = .int a t := RV.int_inv (e ▸ h)
theorem RV.ref_of {i : Nat} {x : AV} {X : Value} (h : RV c W x X) (e : x = .ref i) : ∃ a, X = .ref a ∧ W.φ[i]? = some a := RV.ref_inv (e ▸ h)
noncomputable def ROinv (c : Cx) (W : Wd) : AO → Obj → Prop
  | .list l, o => ∃ vs n, o = PySem.W.listOf (List.toArray vs) n ∧ RVs c W l vs
  | .inst C d, o => ∃ dx, W.φ[d]? = some dx ∧ o = instObj C dx
  | .ns fs, o => ∃ es n, o = dictOf es n ∧ RE c W fs es
  | .dict0 i, o => ∃ a, W.φ[i]? = some a ∧ (a == sysModules) = false ∧ o = { cls := .type "dict", data := .dict #[] }
  | .cell none, o => o.data = .cell none
  | .cell (some v), o => ∃ V, o.data = .cell (some V) ∧ RV c W v V
theorem RO.inv {o : AO} {ob : Obj} (r : RO c W o ob) : ROinv c W o ob :=
  RO.rec (motive := fun o ob _ => ROinv c W o ob) (fun h => ⟨_, _, rfl, h⟩) (fun h => ⟨_, h, rfl⟩) (fun h => ⟨_, _, rfl, h⟩) (fun h q => ⟨_, h, q, rfl⟩) (fun h => h) (fun h r => ⟨_, h, r⟩) r
theorem RO.list_inv {l : List AV} {o : Obj} (r : RO c W (.list l) o) : ∃ vs n, o = PySem.W.listOf (List.toArray vs) n ∧ RVs c W l vs := r.inv
theorem RO.inst_inv {C d : Nat} {o : Obj} (r : RO c W (.inst C d) o) : ∃ dx, W.φ[d]? = some dx ∧ o = instObj C dx := r.inv
theorem RO.ns_inv {fs : List (Str × AV)} {o : Obj} (r : RO c W (.ns fs) o) : ∃ es n, o = dictOf es n ∧ RE c W fs es := r.inv
theorem RO.dict0_inv {i : Nat} {o : Obj} (r : RO c W (.dict0 i) o) : ∃ a, W.φ[i]? = some a ∧ (a == sysModules) = false ∧ o = { cls := .type "dict", data := .dict #[] } := r.inv
theorem RO.cell_inv {v : AV} {o : Obj} (r : RO c W (.cell (some v)) o) : ∃ V, o.data = .cell (some V) ∧ RV c W v V := r.inv
theorem RO.cell_data {v : Option AV} {o : Obj} (r : RO c W (.cell v) o) : ∃ V, o.data = .cell V := match v, r.inv with
  | none, h => ⟨_, h⟩
  | some _, ⟨V, h, _⟩ => ⟨_, h⟩
noncomputable def RVsinv (c : Cx) (W : Wd) : List AV → List Value → Prop
  | [], Vs => Vs = []
  | x :: l, Vs => ∃ V vs, Vs = V :: vs ∧ RV c W x V ∧ RVs c W l vs
theorem RVs.inv {l : List AV} {Vs : List Value} (h : RVs c W l Vs) : RVsinv c W l Vs :=
  h.ind (motive := RVsinv c W) rfl fun hv hs _ => ⟨_, _, rfl, hv, hs⟩
theorem RVs.nil_of {Vs : List Value} (h : RVs c W [] Vs) : Vs = [] := h.inv
theorem RVs.cons_inv {x : AV} {l : List AV} {Vs : List Value} (h : RVs c W (x :: l) Vs) : ∃ V vs, Vs = V :: vs ∧ RV c W x V ∧ RVs c W l vs := h.inv
theorem RVs.one {x : AV} {Vs : List Value} (h : RVs c W [x] Vs) : ∃ V, Vs = [V] ∧ RV c W x V :=
  let ⟨V, vs, e, r, h⟩ := h.cons_inv
  ⟨V, h.nil_of ▸ e, r⟩
theorem RVs.two {x y : AV} {Vs : List Value} (h : RVs c W [x, y] Vs) : ∃ V U, Vs = [V, U] ∧ RV c W x V ∧ RV c W y U :=
  let ⟨V, vs, e, r, h⟩ := h.cons_inv
  let ⟨U, q, r2⟩ := h.one
  ⟨V, U, q ▸ e, r, r2⟩
theorem RVs.nil_inv {l : List AV} (h : RVs c W l []) : l = [] := List.length_eq_zero_iff.mp h.length
/-! a step that asks for one sort of value: it is of that sort, or the step is stuck -/
variable {α : Type} {tn : Bool} {σ : Store} {x : AV}
theorem good_ref {F : Nat → Store → Res α} (h : (match x with | .ref i => F i σ | _ => .stuck : Res α).good tn) : ∃ i, x = .ref i := by
  cases x <;> first | exact ⟨_, rfl⟩ | exact h.elim
theorem good_list {F : Nat → List AV → Store → Res α} (h : (match x with | .ref i => (match σ[i]? with | some (.list l) => F i l σ | _ => .stuck) | _ => .stuck : Res α).good tn) :
    ∃ i l, x = .ref i ∧ σ[i]? = some (.list l) ∧ (match (generalizing := false) x with | .ref i => (match σ[i]? with | some (.list l) => F i l σ | _ => .stuck) | _ => .stuck : Res α) = F i l σ := by
  obtain ⟨i, rfl⟩ := good_ref (F := fun i σ => match σ[i]? with | some (.list l) => F i l σ | _ => .stuck) h
  cases q : σ[i]? with
  | none => simp only [q] at h; exact h.elim
  | some o =>
    cases o <;> simp only [q] at h <;> first | exact ⟨_, _, rfl, q, by simp only [q]⟩ | exact h.elim
theorem good_boolT {F G : Store → Res α} (h : (match x with | .bool true => F σ | .bool false => G σ | _ => .stuck : Res α).good tn) : ∃ b, x = .bool b := by
  cases x <;> first | exact ⟨_, rfl⟩ | exact h.elim
theorem good_bool {F : Bool → Store → Res α} (h : (match x with | .bool b => F b σ | _ => .stuck : Res α).good tn) : ∃ b, x = .bool b := by
  cases x <;> first | exact ⟨_, rfl⟩ | exact h.elim
theorem good_tup {F : List AV → Store → Res α} (h : (match x with | .tup l => F l σ | _ => .stuck : Res α).good tn) : ∃ l, x = .tup l := by
  cases x <;> first | exact ⟨_, rfl⟩ | exact h.elim
theorem good_int {F : Int → Store → Res α} (h : (match x with | .int a => F a σ | _ => .stuck : Res α).good tn) : ∃ a, x = .int a := by
  cases x <;> first | exact ⟨_, rfl⟩ | exact h.elim
theorem good_none {F : Store → Res α} (h : (match x with | .none => F σ | _ => .stuck : Res α).good tn) : x = .none := by
  cases x <;> first | rfl | exact h.elim
end

/-! ## a frame -/
structure Fm where
  A₀ : Around
  outer : List Env
  name : Str
  L : Addr
  a : Addr
  cd : Value
  cl : List (Str × Addr)
noncomputable abbrev Fm.env (f : Fm) (sc : Scope) : Env := envX f.name sc f.L f.a f.cd f.cl
noncomputable abbrev Fm.A (f : Fm) (sc : Scope) : Around := f.A₀.deeper (f.env sc)
noncomputable abbrev Fm.fs (f : Fm) : List Addr := f.outer.filterMap (·.frame)

structure FOk (n : Nat) (sc : Scope) (f : Fm) : Prop where
  kind : sc.kind = .function
  nodup : (sc.names.map (·.1)).Nodup
  depth : (f.A sc).depth + n < recursionLimit
  units : (f.A sc).units + 8 * n + 80 < cLine
  handled : f.A₀.handled = none
  guards : f.A₀.guards = some []
  cells : (∀ x ∈ sc.names, x.2 ≠ NameKind.cell) → f.cl = []

structure StG (c : Cx) (f : Fm) (tn : Bool) (g₀ : Heap) (names : List (Str × NameKind)) (ρ : Loc) (σ : Store) (W : Wd) (s : Shared) (g : Heap) (m : Str → Option Value) : Prop where
  B : Below f.A₀ c.base f.outer g
  F : Fr g f.L s.heap m
  N : News g f.L s.heap W.news
  D : KtsDicts f.fs g
  T : KtsTurn f.fs g₀ g
  T0 : tn = false → g = g₀
  R : LocR c W names f.cl ρ m
  S : StoreR c W σ
  e1 : s.gens = c.gens
  e2 : s.drawn = c.drawn
  e3 : s.os = c.os
noncomputable def St (c : Cx) (f : Fm) (tn : Bool) (g₀ : Heap) (names : List (Str × NameKind)) (ρ : Loc) (σ : Store) (W : Wd) (s : Shared) : Prop :=
  ∃ g m, StG c f tn g₀ names ρ σ W s g m

section
variable {c : Cx} {f : Fm} {tn : Bool} {g₀ g : Heap} {names : List (Str × NameKind)} {ρ : Loc} {σ : Store} {W : Wd} {s : Shared} {m : Str → Option Value}
theorem StG.X (G : StG c f tn g₀ names ρ σ W s g m) (hc : c.Ok) : c.K.In g := hc.XB.keeps G.B.stays
theorem StG.Tp (G : StG c f tn g₀ names ρ σ W s g m) (hc : c.Ok) : Top c.p c.loose c.mean c.mg c.mb g := hc.TB.keeps G.B.stays
theorem StG.Xs (G : StG c f tn g₀ names ρ σ W s g m) (hc : c.Ok) : c.K.In s.heap := (G.X hc).keeps G.F.keep
theorem StG.at (G : StG c f tn g₀ names ρ σ W s g m) (hc : c.Ok) {a : Addr} {o : Obj} (h : AtO c W a o) : s.heap.get? a = some o :=
  h.elim (fun h => (G.N _ h.1).1) fun h => (G.Xs hc) _ _ h
/-- the heap may change, all of the frame and the ledger standing -/
theorem StG.heap (G : StG c f tn g₀ names ρ σ W s g m) {h' : Heap} (F' : Fr g f.L h' m) (N' : News g f.L h' W.news) (t : Nat) : St c f tn g₀ names ρ σ W { s with heap := h', toks := t } :=
  ⟨g, m, G.B, F', N', G.D, G.T, G.T0, G.R, G.S, G.e1, G.e2, G.e3⟩
theorem StG.toks (G : StG c f tn g₀ names ρ σ W s g m) (t : Nat) : St c f tn g₀ names ρ σ W { s with toks := t } := G.heap G.F G.N t
theorem StG.st (G : StG c f tn g₀ names ρ σ W s g m) : St c f tn g₀ names ρ σ W s := ⟨g, m, G⟩
theorem St.toks (G : St c f tn g₀ names ρ σ W s) (t : Nat) : St c f tn g₀ names ρ σ W { s with toks := t } := let ⟨_, _, G⟩ := G; G.toks t

/-- a new object on the ledger that is no object of the store -/
theorem Wd.Le.cons (W : Wd) (q : Addr × Obj) : W.Le ⟨W.φ, q :: W.news⟩ := ⟨⟨[], (List.append_nil _).symm⟩, fun _ _ h h' => ⟨.tail _ h, h'⟩⟩
theorem StoreR.le {W' : Wd} (S : StoreR c W σ) (h : W.Le W') (e : W'.φ = W.φ) (hn : ∀ p ∈ W.news, p ∈ W'.news) : StoreR c W' σ :=
  ⟨by rw [e]; exact S.len, by rw [e]; exact S.nodup, fun i o q => let ⟨a, ob, h1, h2, h3⟩ := S.obj i o q; ⟨a, ob, by rw [e]; exact h1, hn _ h2, h3.mono h⟩⟩
theorem StG.grow (G : StG c f tn g₀ names ρ σ W s g m) {h' : Heap} {q : Addr × Obj} (F' : Fr g f.L h' m) (N' : News g f.L h' (q :: W.news)) (t : Nat) : St c f tn g₀ names ρ σ ⟨W.φ, q :: W.news⟩ { s with heap := h', toks := t } :=
  ⟨g, m, G.B, F', N', G.D, G.T, G.T0, G.R.mono (.cons W q), G.S.le (.cons W q) rfl fun _ h => .tail _ h, G.e1, G.e2, G.e3⟩
end

/-- an exception is on its way: made in this frame, or come out of a call of this frame's -/
noncomputable def MadeX (h h' : Heap) (e : Addr) (C : Nat) : Prop :=
  (∀ b o, h.get? b = some o → h'.get? b = some o) ∧ h.get? e = none ∧
  ∃ t o vs, h'.get? e = some o ∧ o.cls = .ref C ∧ o.data = .fields #[.ref t, .none, .none, .none, .bool false, .none] ∧ h.get? t = none ∧ h'.TupAt t vs
structure Fly (c : Cx) (f : Fm) (sc : Scope) (g₀ : Heap) (σ : Store) (W : Wd) (C : Nat) (e : Addr) (s : Shared) : Prop where
  S : StoreR c W σ
  e1 : s.gens = c.gens
  e2 : s.drawn = c.drawn
  e3 : s.os = c.os
  B : Below f.A₀ c.base f.outer g₀
  D : KtsDicts f.fs g₀
  how : (∃ h m, Fr g₀ f.L h m ∧ News g₀ f.L h W.news ∧ MadeX h s.heap e C) ∨
    (∃ G m t vs, Fr g₀ f.L G m ∧ RaisedS c.base G (f.env sc :: f.outer) e (.ref C) t vs W.news s.heap ∧ G.UpToSlots s.heap)

/-! ## meanings -/
noncomputable def SimX {α β : Type} (c : Cx) (n : Nat) (tn : Bool) (sc : Scope) (t : Env → Sem β) (rel : Wd → α → β → Prop) (m : Loc → Store → Res α) : Prop :=
  ∀ (f : Fm) (g₀ : Heap) (ρ : Loc) (σ : Store) (W : Wd) (s : Shared), c.Ok → FOk n sc f → St c f tn g₀ sc.names ρ σ W s → (m ρ σ).good tn →
    ∀ (Q : β → Shared → Prop) (E : Value → Shared → Prop),
      (∀ v σ' V W' s', m ρ σ = .ok v σ' → W.Le W' → St c f tn g₀ sc.names ρ σ' W' s' → rel W' v V → Q V s') →
      (∀ C σ' e W' s', m ρ σ = .exc C σ' → W.Le W' → Fly c f sc g₀ σ' W' C e s' → E (.ref e) s') →
      wpAny c.M (f.A sc) (t (f.env sc)) Q E s

noncomputable abbrev ME := Loc → Store → Res AV
noncomputable abbrev MB := Loc → Store → Res Bool
noncomputable abbrev SimE (c : Cx) (n : Nat) (tn : Bool) (sc : Scope) (e : Expr) (m : ME) : Prop := SimX c n tn sc (eval e) (RV c) m
noncomputable abbrev SimT (c : Cx) (n : Nat) (tn : Bool) (sc : Scope) (e : Expr) (m : MB) : Prop := SimX c n tn sc (fun env => isTrue e env (eval e env)) (fun _ b v => b = v) m

/-- the bind -/
theorem SimX.bind {α β α' β' : Type} {c : Cx} {n : Nat} {tn : Bool} {sc : Scope} {t : Env → Sem β} {rel : Wd → α → β → Prop} {m : Loc → Store → Res α} {k : α → Store → Res α'} {rel' : Wd → α' → β' → Prop}
    (h : SimX c n tn sc t rel m) {f : Fm} {g₀ : Heap} {ρ : Loc} {σ : Store} {W : Wd} {s : Shared} (hc : c.Ok) (hf : FOk n sc f) (hs : St c f tn g₀ sc.names ρ σ W s) (hg : ((m ρ σ).bind k).good tn)
    {Q : β' → Shared → Prop} {E : Value → Shared → Prop} {P : β → Shared → Prop}
    (hq : ∀ v σ' V W' s', ((m ρ σ).bind k) = .ok v σ' → W.Le W' → St c f tn g₀ sc.names ρ σ' W' s' → rel' W' v V → Q V s')
    (he : ∀ C σ' e W' s', ((m ρ σ).bind k) = .exc C σ' → W.Le W' → Fly c f sc g₀ σ' W' C e s' → E (.ref e) s')
    (next : ∀ v σ₁ V W₁ s₁, m ρ σ = .ok v σ₁ → W.Le W₁ → St c f tn g₀ sc.names ρ σ₁ W₁ s₁ → rel W₁ v V → (k v σ₁).good tn →
      (∀ v' σ' V' W' s', k v σ₁ = .ok v' σ' → W₁.Le W' → St c f tn g₀ sc.names ρ σ' W' s' → rel' W' v' V' → Q V' s') →
      (∀ C σ' e W' s', k v σ₁ = .exc C σ' → W₁.Le W' → Fly c f sc g₀ σ' W' C e s' → E (.ref e) s') → P V s₁) :
    wpAny c.M (f.A sc) (t (f.env sc)) P E s := by
  refine h f g₀ ρ σ W s hc hf hs (Res.good_bind hg) _ _ (fun v σ₁ V W₁ s₁ e1 l1 G1 r1 => ?_) fun C σ' e W' s' e1 l1 F1 => he C σ' e W' s' (by rw [e1]; rfl) l1 F1
  rw [e1] at hg hq he
  exact next v σ₁ V W₁ s₁ e1 l1 G1 r1 hg (fun v' σ' V' W' s' e2 l2 G2 r2 => hq v' σ' V' W' s' e2 (l1.trans l2) G2 r2) fun C σ' e W' s' e2 l2 F2 => he C σ' e W' s' e2 (l1.trans l2) F2
theorem SimX.bind_list {α' β' : Type} {c : Cx} {n : Nat} {tn : Bool} {sc : Scope} {t : Env → Sem Value} {m : ME} {F : Nat → List AV → Store → Res α'} {rel' : Wd → α' → β' → Prop}
    (h : SimX c n tn sc t (RV c) m) {f : Fm} {g₀ : Heap} {ρ : Loc} {σ : Store} {W : Wd} {s : Shared} (hc : c.Ok) (hf : FOk n sc f) (hs : St c f tn g₀ sc.names ρ σ W s) (hg : ((m ρ σ).bind fun x σ => match x with | .ref i => (match σ[i]? with | some (.list l) => F i l σ | _ => .stuck) | _ => .stuck).good tn)
    {Q : β' → Shared → Prop} {E : Value → Shared → Prop} {P : Value → Shared → Prop}
    (hq : ∀ v σ' V W' s', ((m ρ σ).bind fun x σ => match x with | .ref i => (match σ[i]? with | some (.list l) => F i l σ | _ => .stuck) | _ => .stuck) = .ok v σ' → W.Le W' → St c f tn g₀ sc.names ρ σ' W' s' → rel' W' v V → Q V s')
    (he : ∀ C σ' e W' s', ((m ρ σ).bind fun x σ => match x with | .ref i => (match σ[i]? with | some (.list l) => F i l σ | _ => .stuck) | _ => .stuck) = .exc C σ' → W.Le W' → Fly c f sc g₀ σ' W' C e s' → E (.ref e) s')
    (next : ∀ i l a σ₁ W₁ s₁, σ₁[i]? = some (.list l) → W₁.φ[i]? = some a → W.Le W₁ → St c f tn g₀ sc.names ρ σ₁ W₁ s₁ → (F i l σ₁).good tn →
      (∀ v' σ' V' W' s', F i l σ₁ = .ok v' σ' → W₁.Le W' → St c f tn g₀ sc.names ρ σ' W' s' → rel' W' v' V' → Q V' s') →
      (∀ C σ' e W' s', F i l σ₁ = .exc C σ' → W₁.Le W' → Fly c f sc g₀ σ' W' C e s' → E (.ref e) s') → P (.ref a) s₁) :
    wpAny c.M (f.A sc) (t (f.env sc)) P E s := by
  refine h.bind hc hf hs hg hq he fun v σ₁ V W₁ s₁ e1 l1 G1 r1 hg1 hq1 he1 => ?_
  obtain ⟨i, l, hx, hl, e⟩ := good_list hg1
  obtain ⟨a, rfl, hi⟩ := r1.ref_of hx
  rw [e] at hg1 hq1 he1
  exact next i l a σ₁ W₁ s₁ hl hi l1 G1 hg1 hq1 he1

/- S1 -/

/-! ## levels and lifting -/
theorem FOk.mono {n n' : Nat} {sc : Scope} {f : Fm} (h : FOk n sc f) (l : n' ≤ n) : FOk n' sc f :=
  ⟨h.kind, h.nodup, by have := h.depth; lia, by have := h.units; lia, h.handled, h.guards, h.cells⟩
theorem SimX.mono {α β : Type} {c : Cx} {n n' : Nat} {tn : Bool} {sc : Scope} {t : Env → Sem β} {rel : Wd → α → β → Prop} {m : Loc → Store → Res α} (h : SimX c n' tn sc t rel m) (l : n' ≤ n) : SimX c n tn sc t rel m :=
  fun f g₀ ρ σ W s hc hf => h f g₀ ρ σ W s hc (hf.mono l)
theorem Res.good.down {α : Type} {r : Res α} {tn : Bool} (h : r.good tn) : r.good false := by
  cases r <;> first | trivial | exact rfl | exact h
theorem StG.down {c : Cx} {f : Fm} {tn : Bool} {g₀ g : Heap} {names : List (Str × NameKind)} {ρ : Loc} {σ : Store} {W : Wd} {s : Shared} {m : Str → Option Value} (G : StG c f tn g₀ names ρ σ W s g m) : StG c f false g names ρ σ W s g m :=
  ⟨G.B, G.F, G.N, G.D, .refl, fun _ => rfl, G.R, G.S, G.e1, G.e2, G.e3⟩
theorem StG.up {c : Cx} {f : Fm} {tn : Bool} {g₀ g : Heap} {names : List (Str × NameKind)} {ρ ρ' : Loc} {σ σ' : Store} {W W' : Wd} {s s' : Shared} {m : Str → Option Value} (G : StG c f tn g₀ names ρ σ W s g m) (H : St c f false g names ρ' σ' W' s') : St c f tn g₀ names ρ' σ' W' s' := by
  obtain ⟨g', m', H⟩ := H
  obtain rfl := H.T0 rfl
  exact ⟨_, m', H.B, H.F, H.N, H.D, G.T, G.T0, H.R, H.S, H.e1, H.e2, H.e3⟩
theorem SimX.lift {α β : Type} {c : Cx} {n : Nat} {sc : Scope} {t : Env → Sem β} {rel : Wd → α → β → Prop} {m : Loc → Store → Res α} (h : SimX c n false sc t rel m) : SimX c n true sc t rel m := by
  intro f g₀ ρ σ W s hc hf hs hg Q E hq he
  obtain ⟨g, m₁, G⟩ := hs
  refine h f g ρ σ W s hc hf G.down.st hg.down Q E (fun v σ' V W' s' e l G' r => hq v σ' V W' s' e l (G.up G') r) fun C σ' e W' s' q _ _ => ?_
  rw [q] at hg
  cases hg

/-! ## leaves -/
noncomputable def mVal (v : AV) : ME := fun _ σ => .ok v σ
noncomputable def mLoc (i : Nat) : ME := fun ρ σ => match ρ[i]? with
  | some (some v) => .ok v σ
  | _ => .stuck
section
variable {c : Cx} {n : Nat} {tn : Bool} {sc : Scope}
theorem sim_val {e : Expr} {v : AV}
    (h : ∀ (f : Fm) (W : Wd) (g : Heap) (m : Str → Option Value) (s : Shared), c.Ok → FOk n sc f → Fr g f.L s.heap m → c.K.In g → Top c.p c.loose c.mean c.mg c.mb g → ∀ (Q : Value → Shared → Prop) (E : Value → Shared → Prop),
      (∀ V t, RV c W v V → Q V { s with toks := t }) → wpAny c.M (f.A sc) (eval e (f.env sc)) Q E s) : SimE c n tn sc e (mVal v) := by
  intro f g₀ ρ σ W s hc hf hs hg Q E hq he
  obtain ⟨g, m, G⟩ := hs
  exact h f W g m s hc hf G.F (G.X hc) (G.Tp hc) Q E fun V t r => hq v σ V W _ rfl (.refl W) (G.toks t) r
theorem sim_int {i : Int} {k : Nat} {pos : Pos} : SimE c n tn sc (.Constant (.int i) k pos) (mVal (.int i)) :=
  sim_val fun f W g m s hc hf F X T Q E hq => wpAny_Constant_int (hq _ _ (.int i _))
theorem sim_bool {b : Bool} {k : Nat} {pos : Pos} : SimE c n tn sc (.Constant (.bool b) k pos) (mVal (.bool b)) :=
  sim_val fun f W g m s hc hf F X T Q E hq => Constant_bool (hq _ s.toks (.bool b))
theorem sim_none {k : Nat} {pos : Pos} : SimE c n tn sc (.Constant .none k pos) (mVal .none) :=
  sim_val fun f W g m s hc hf F X T Q E hq => wpAny_Constant_none (hq _ s.toks .none)
theorem sim_str {x : Str} {k : Nat} {pos : Pos} {l : List Nat} (e : x = sOf l) : SimE c n tn sc (.Constant (.str x) k pos) (mVal (.str l)) := by
  subst e
  exact sim_val fun f W g m s hc hf F X T Q E hq => Constant_str (hq _ _ (.str l _))

theorem sim_loc {x : Str} {pos : Pos} {i : Nat} (e : sc.names[i]? = some (x, .local)) (hl : ∀ f : Fm, (f.env sc).kindOf x = some .local) (hd : (x == ("__debug__" : Str)) = false) : SimE c n tn sc (.Name x pos) (mLoc i) := by
  intro f g₀ ρ σ W s hc hf hs hg Q E hq he
  obtain ⟨g, m, G⟩ := hs
  unfold mLoc at hg hq
  cases q : ρ[i]? with
  | none => rw [q] at hg; exact hg.elim
  | some v =>
    cases v with
    | none => rw [q] at hg; exact hg.elim
    | some v =>
      rw [q] at hq
      obtain ⟨V, h1, _, h2⟩ := G.R i x .local v e q
      exact nameX_L G.F (h1 (by decide)) (hq v σ V W s rfl (.refl W) G.st h2) hf.kind (hl f) hd

/-- the value of a name of the text's -/
noncomputable def GV (c : Cx) (x : Str) (v : AV) : Prop := ∃ V, nsIn c.K mainGlobals x = some (some V) ∧ ∀ W, RV c W v V
theorem sim_glob {x : Str} {pos : Pos} {v : AV} (h : GV c x v) (hl : ∀ f : Fm, (f.env sc).kindOf x = some .globalImplicit) (hd : (x == ("__debug__" : Str)) = false) : SimE c n tn sc (.Name x pos) (mVal v) := by
  obtain ⟨V, h1, h2⟩ := h
  exact sim_val fun f W g m s hc hf F X T Q E hq => nameX_K F X (topRead_of T) h1 (hq V s.toks (h2 W)) hf.kind (hl f) hd
noncomputable def BV (c : Cx) (x : Str) (V : Value) : Prop := nsIn c.K mainGlobals x = some none ∧ bootBuiltins x = some V ∧ x ≠ "__name__"
theorem sim_blt {x : Str} {pos : Pos} {V : Value} (h : BV c x V) (hl : ∀ f : Fm, (f.env sc).kindOf x = some .globalImplicit) (hd : (x == ("__debug__" : Str)) = false) : SimE c n tn sc (.Name x pos) (mVal (.lit V)) := by
  exact sim_val fun f W g m s hc hf F X T Q E hq => nameX_B F X (topRead_of T) h.1 h.2.1 h.2.2 (hq V s.toks (.lit V)) hf.kind (hl f) hd

/-! ## pure steps of one, of two values -/
/-- a step that reads: the store stands -/
noncomputable def Pure1 (c : Cx) {α β : Type} (t : Value → Sem β) (op : Store → AV → Option α) (rel : Wd → α → β → Prop) : Prop :=
  ∀ (n : Nat) (sc : Scope) (f : Fm) (tn : Bool) (g₀ : Heap) (names : List (Str × NameKind)) (ρ : Loc) (σ : Store) (W : Wd) (s : Shared), c.Ok → FOk n sc f → St c f tn g₀ names ρ σ W s →
    ∀ (x : AV) (X : Value) (v : α), RV c W x X → op σ x = some v → ∀ (Q : β → Shared → Prop) (E : Value → Shared → Prop),
      (∀ V W' s', W.Le W' → St c f tn g₀ names ρ σ W' s' → rel W' v V → Q V s') → wpAny c.M (f.A sc) (t X) Q E s
noncomputable def Pure2 (c : Cx) {α β : Type} (t : Value → Value → Sem β) (op : Store → AV → AV → Option α) (rel : Wd → α → β → Prop) : Prop :=
  ∀ (n : Nat) (sc : Scope) (f : Fm) (tn : Bool) (g₀ : Heap) (names : List (Str × NameKind)) (ρ : Loc) (σ : Store) (W : Wd) (s : Shared), c.Ok → FOk n sc f → St c f tn g₀ names ρ σ W s →
    ∀ (x y : AV) (X Y : Value) (v : α), RV c W x X → RV c W y Y → op σ x y = some v → ∀ (Q : β → Shared → Prop) (E : Value → Shared → Prop),
      (∀ V W' s', W.Le W' → St c f tn g₀ names ρ σ W' s' → rel W' v V → Q V s') → wpAny c.M (f.A sc) (t X Y) Q E s

noncomputable def Res.ofO {α : Type} (o : Option α) (σ : Store) : Res α := match o with
  | some v => .ok v σ
  | none => .stuck
noncomputable def mOp1 (op : Store → AV → Option AV) (a : ME) : ME := fun ρ σ => (a ρ σ).bind fun x σ => .ofO (op σ x) σ
noncomputable def mOp2 (op : Store → AV → AV → Option AV) (a b : ME) : ME := fun ρ σ => (a ρ σ).bind fun x σ => (b ρ σ).bind fun y σ => .ofO (op σ x y) σ
theorem good_ofO {α : Type} {o : Option α} {σ : Store} {tn : Bool} (h : (Res.ofO o σ).good tn) : ∃ v, o = some v := by
  cases o with
  | none => exact h.elim
  | some v => exact ⟨v, rfl⟩

theorem sim_op1 {e : Expr} {a : ME} {op : Store → AV → Option AV} {t : Value → Sem Value} {e' : Expr} (ha : SimE c n tn sc e a) (hp : Pure1 c t op (RV c))
    (he' : ∀ (f : Fm) (s : Shared) (Q : Value → Shared → Prop) (E : Value → Shared → Prop), wpAny c.M (f.A sc) (eval e (f.env sc)) (fun V s₁ => wpAny c.M (f.A sc) (t V) Q E s₁) E s → wpAny c.M (f.A sc) (eval e' (f.env sc)) Q E s) :
    SimE c n tn sc e' (mOp1 op a) := by
  intro f g₀ ρ σ W s hc hf hs hg Q E hq he
  refine he' f s Q E (ha.bind (rel' := RV c) hc hf hs hg hq he fun x σ₁ X W₁ s₁ e1 l1 G1 r1 hg1 hq1 he1 => ?_)
  obtain ⟨v, hv⟩ := good_ofO hg1
  exact hp n sc f tn g₀ sc.names ρ σ₁ W₁ s₁ hc hf G1 x X v r1 hv Q E fun V W' s' l G r => hq1 v σ₁ V W' s' (by rw [hv]; rfl) l G r

theorem sim_op2 {e₁ e₂ e' : Expr} {a b : ME} {op : Store → AV → AV → Option AV} {t : Value → Value → Sem Value} (ha : SimE c n tn sc e₁ a) (hb : SimE c n tn sc e₂ b) (hp : Pure2 c t op (RV c))
    (he' : ∀ (f : Fm) (s : Shared) (Q : Value → Shared → Prop) (E : Value → Shared → Prop), wpAny c.M (f.A sc) (eval e₁ (f.env sc)) (fun V s₁ => wpAny c.M (f.A sc) (eval e₂ (f.env sc)) (fun Y s₂ => wpAny c.M (f.A sc) (t V Y) Q E s₂) E s₁) E s → wpAny c.M (f.A sc) (eval e' (f.env sc)) Q E s) :
    SimE c n tn sc e' (mOp2 op a b) := by
  intro f g₀ ρ σ W s hc hf hs hg Q E hq he
  refine he' f s Q E (ha.bind (rel' := RV c) hc hf hs hg hq he fun x σ₁ X W₁ s₁ e1 l1 G1 r1 hg1 hq1 he1 => ?_)
  refine hb.bind (rel' := RV c) hc hf G1 hg1 hq1 he1 fun y σ₂ Y W₂ s₂ e2 l2 G2 r2 hg2 hq2 he2 => ?_
  obtain ⟨v, hv⟩ := good_ofO hg2
  exact hp n sc f tn g₀ sc.names ρ σ₂ W₂ s₂ hc hf G2 x y X Y v (r1.mono l2) r2 hv Q E fun V W' s' l G r => hq2 v σ₂ V W' s' (by rw [hv]; rfl) l G r

theorem sim_bin {l r : Expr} {op : Operator} {pos : Pos} {a b : ME} {o : Store → AV → AV → Option AV} (ha : SimE c n tn sc l a) (hb : SimE c n tn sc r b) (hp : Pure2 c (binaryOp op) o (RV c)) : SimE c n tn sc (.BinOp l op r pos) (mOp2 o a b) :=
  sim_op2 ha hb hp fun f s Q E h => wpAny_BinOp h
theorem sim_cmp {l r : Expr} {op : CmpOp} {pos : Pos} {a b : ME} {o : Store → AV → AV → Option AV} (ha : SimE c n tn sc l a) (hb : SimE c n tn sc r b) (hp : Pure2 c (compareOp op) o (RV c)) (hm : behindInMarks op r = false := by rfl) : SimE c n tn sc (.Compare l [op] [r] pos) (mOp2 o a b) :=
  sim_op2 ha hb hp fun f s Q E h => wpAny_Compare1 h hm
theorem sim_un {x : Expr} {op : UnaryOp} {pos : Pos} {a : ME} {o : Store → AV → Option AV} (ha : SimE c n tn sc x a) (hp : Pure1 c (unaryOp op) o (RV c)) : SimE c n tn sc (.UnaryOp op x pos) (mOp1 o a) :=
  sim_op1 ha hp fun f s Q E h => UnaryOp_ h

/-! ## tests -/
noncomputable def mTr (m : ME) : MB := fun ρ σ => (m ρ σ).bind fun v σ => match v with
  | .bool b => .ok b σ
  | _ => .stuck
theorem truthy_sim {f : Fm} {g₀ : Heap} {ρ : Loc} {σ : Store} {W : Wd} {s : Shared} {v : AV} {V : Value} (hs : St c f tn g₀ sc.names ρ σ W s) (r : RV c W v V)
    (hg : (match v with | .bool b => (Res.ok b σ : Res Bool) | _ => .stuck).good tn) {Q : Bool → Shared → Prop} {E : Value → Shared → Prop}
    (hq : ∀ b, v = .bool b → V = .bool b → Q b s) : wpAny c.M (f.A sc) (truthy V) Q E s := by
  obtain ⟨b, rfl⟩ := good_bool hg
  cases r.bool_inv
  exact wpAny_truthy_bool (hq _ rfl rfl)
/-- a test by the value's truth -/
theorem mTr_eq (m : ME) (ρ : Loc) (σ : Store) : mTr m ρ σ = (m ρ σ).bind fun v σ => match v with | .bool b => .ok b σ | _ => .stuck := rfl
theorem simT_plain {e : Expr} {m : ME} (h : SimE c n tn sc e m)
    (he : ∀ f : Fm, isTrue e (f.env sc) (eval e (f.env sc)) = (do let v ← eval e (f.env sc); standAt e.pos; holding [v] (truthy v))) : SimT c n tn sc e (mTr m) := by
  intro f g₀ ρ σ W s hc hf hs hg Q E hq hx
  rw [mTr_eq] at hg hq hx
  refine isTrue_plain (h.bind (rel' := fun _ b v => b = v) hc hf hs hg hq hx fun v σ₁ V W₁ s₁ e1 l1 G1 r1 hg1 hq1 he1 => ?_) (he f)
  exact truthy_sim G1 r1 hg1 fun b q1 q2 => hq1 b σ₁ b W₁ s₁ (by rw [q1]) (.refl _) G1 rfl

theorem simT_cmp {l r : Expr} {op : CmpOp} {pos : Pos} {a b : ME} {o : Store → AV → AV → Option AV} (ha : SimE c n tn sc l a) (hb : SimE c n tn sc r b) (hp : Pure2 c (compareOp op) o (RV c)) (hm : behindInMarks op r = false := by rfl) : SimT c n tn sc (.Compare l [op] [r] pos) (mTr (mOp2 o a b)) := by
  intro f g₀ ρ σ W s hc hf hs hg Q E hq hx
  have e : ∀ ρ σ, mTr (mOp2 o a b) ρ σ = (a ρ σ).bind fun x σ => (b ρ σ).bind fun y σ => (Res.ofO (o σ x y) σ).bind fun v σ => match v with | .bool b => .ok b σ | _ => .stuck := by
    intro ρ σ
    unfold mTr mOp2
    cases a ρ σ with
    | ok x σ₁ => simp only [Res.bind]; cases b ρ σ₁ <;> rfl
    | _ => rfl
  rw [e] at hg hq hx
  refine wpAny_isTrue_Compare1 (ha.bind (rel' := fun _ b v => b = v) hc hf hs hg hq hx fun x σ₁ X W₁ s₁ e1 l1 G1 r1 hg1 hq1 he1 => ?_) hm
  refine hb.bind (rel' := fun _ b v => b = v) hc hf G1 hg1 hq1 he1 fun y σ₂ Y W₂ s₂ e2 l2 G2 r2 hg2 hq2 he2 => ?_
  obtain ⟨v, hv⟩ := good_ofO (Res.good_bind hg2)
  rw [hv] at hg2 hq2 he2
  refine hp n sc f tn g₀ sc.names ρ σ₂ W₂ s₂ hc hf G2 x y X Y v (r1.mono l2) r2 hv _ E fun V W' s' l G r => ?_
  exact truthy_sim G r hg2 fun b q1 q2 => hq2 b σ₂ b W' s' (by rw [q1]; rfl) l G rfl

noncomputable def mNot (m : ME) : ME := fun ρ σ => (m ρ σ).bind fun v σ => match v with
  | .bool b => .ok (.bool (!b)) σ
  | _ => .stuck
theorem mNot_tr (m : ME) (ρ : Loc) (σ : Store) : mTr (mNot m) ρ σ = (mTr m ρ σ).bind fun b σ => .ok (!b) σ := by
  unfold mTr mNot
  cases m ρ σ with
  | ok v σ => cases v <;> rfl
  | _ => rfl
theorem simT_not {x : Expr} {pos : Pos} {m : ME} (h : SimT c n tn sc x (mTr m)) : SimT c n tn sc (.UnaryOp .Not x pos) (mTr (mNot m)) := by
  intro f g₀ ρ σ W s hc hf hs hg Q E hq hx
  rw [mNot_tr] at hg hq hx
  refine isTrue_not (h f g₀ ρ σ W s hc hf hs (Res.good_bind hg) _ E (fun b σ₁ V W₁ s₁ e1 l1 G1 r1 => ?_) fun C σ' e W' s' e1 l1 F1 => hx C σ' e W' s' (by rw [e1]; rfl) l1 F1)
  subst r1
  exact hq _ σ₁ _ W₁ s₁ (by rw [e1]; rfl) l1 G1 rfl
theorem sim_not {x : Expr} {pos : Pos} {m : ME} (h : SimE c n tn sc x m) : SimE c n tn sc (.UnaryOp .Not x pos) (mNot m) := by
  intro f g₀ ρ σ W s hc hf hs hg Q E hq hx
  refine UnaryOp_ (h.bind (rel' := RV c) hc hf hs hg hq hx fun v σ₁ V W₁ s₁ e1 l1 G1 r1 hg1 hq1 he1 => ?_)
  refine not_of ?_
  obtain ⟨b, rfl⟩ := good_bool (F := fun b σ => Res.ok (AV.bool (!b)) σ) hg1
  cases r1.bool_inv
  exact wpAny_truthy_bool (hq1 _ σ₁ _ W₁ s₁ rfl (.refl _) G1 (.bool _))

noncomputable def mAnd (a b : ME) : ME := fun ρ σ => (a ρ σ).bind fun v σ => match v with
  | .bool true => b ρ σ
  | .bool false => .ok (.bool false) σ
  | _ => .stuck
noncomputable def mOr (a b : ME) : ME := fun ρ σ => (a ρ σ).bind fun v σ => match v with
  | .bool true => .ok (.bool true) σ
  | .bool false => b ρ σ
  | _ => .stuck
theorem sim_and1 {e : Expr} {pos : Pos} {o : BoolOp} {m : ME} (h : SimE c n tn sc e m) : SimE c n tn sc (.BoolOp o [e] pos) m :=
  fun f g₀ ρ σ W s hc hf hs hg Q E hq hx => BoolOp_one (h f g₀ ρ σ W s hc hf hs hg Q E hq hx)
theorem sim_and {e₁ e₂ : Expr} {rest : List Expr} {pos : Pos} {a b : ME} (ha : SimE c n tn sc e₁ a) (hb : SimE c n tn sc (.BoolOp .And (e₂ :: rest) pos) b) : SimE c n tn sc (.BoolOp .And (e₁ :: e₂ :: rest) pos) (mAnd a b) := by
  intro f g₀ ρ σ W s hc hf hs hg Q E hq hx
  refine BoolOp_and (ha.bind (rel' := RV c) hc hf hs hg hq hx fun v σ₁ V W₁ s₁ e1 l1 G1 r1 hg1 hq1 he1 => ?_)
  obtain ⟨t, rfl⟩ := good_boolT (F := b ρ) (G := fun σ => Res.ok (AV.bool false) σ) hg1
  cases r1.bool_inv
  refine wpAny_truthy_bool ?_
  cases t with
  | true => exact hb f g₀ ρ σ₁ W₁ s₁ hc hf G1 hg1 Q E hq1 he1
  | false => exact hq1 _ _ _ _ _ rfl (.refl _) G1 (.bool _)
theorem sim_or {e₁ e₂ : Expr} {rest : List Expr} {pos : Pos} {a b : ME} (ha : SimE c n tn sc e₁ a) (hb : SimE c n tn sc (.BoolOp .Or (e₂ :: rest) pos) b) : SimE c n tn sc (.BoolOp .Or (e₁ :: e₂ :: rest) pos) (mOr a b) := by
  intro f g₀ ρ σ W s hc hf hs hg Q E hq hx
  refine BoolOp_or (ha.bind (rel' := RV c) hc hf hs hg hq hx fun v σ₁ V W₁ s₁ e1 l1 G1 r1 hg1 hq1 he1 => ?_)
  obtain ⟨t, rfl⟩ := good_boolT (F := fun σ => Res.ok (AV.bool true) σ) (G := b ρ) hg1
  cases r1.bool_inv
  refine wpAny_truthy_bool ?_
  cases t with
  | true => exact hq1 _ _ _ _ _ rfl (.refl _) G1 (.bool _)
  | false => exact hb f g₀ ρ σ₁ W₁ s₁ hc hf G1 hg1 Q E hq1 he1
theorem mAnd_tr (a b : ME) (ρ : Loc) (σ : Store) : mTr (mAnd a b) ρ σ = (mTr a ρ σ).bind fun t σ => match t with | true => mTr b ρ σ | false => .ok false σ := by
  unfold mTr mAnd
  cases a ρ σ with
  | ok v σ =>
    cases v with
    | bool t => cases t <;> rfl
    | _ => rfl
  | _ => rfl
theorem mOr_tr (a b : ME) (ρ : Loc) (σ : Store) : mTr (mOr a b) ρ σ = (mTr a ρ σ).bind fun t σ => match t with | true => .ok true σ | false => mTr b ρ σ := by
  unfold mTr mOr
  cases a ρ σ with
  | ok v σ =>
    cases v with
    | bool t => cases t <;> rfl
    | _ => rfl
  | _ => rfl
theorem simT_and1 {e : Expr} {pos : Pos} {m : MB} (h : SimT c n tn sc e m) : SimT c n tn sc (.BoolOp .And [e] pos) m := by
  intro f g₀ ρ σ W s hc hf hs hg Q E hq hx
  refine isTrue_and (h f g₀ ρ σ W s hc hf hs hg _ E (fun b σ₁ V W₁ s₁ e1 l1 G1 r1 => ?_) hx)
  subst r1
  cases b with
  | true => exact isTrue_and_nil (hq _ _ _ _ _ e1 l1 G1 rfl)
  | false => exact hq _ _ _ _ _ e1 l1 G1 rfl
theorem simT_or1 {e : Expr} {pos : Pos} {m : MB} (h : SimT c n tn sc e m) : SimT c n tn sc (.BoolOp .Or [e] pos) m := by
  intro f g₀ ρ σ W s hc hf hs hg Q E hq hx
  refine isTrue_or (h f g₀ ρ σ W s hc hf hs hg _ E (fun b σ₁ V W₁ s₁ e1 l1 G1 r1 => ?_) hx)
  subst r1
  cases b with
  | false => exact isTrue_or_nil (hq _ _ _ _ _ e1 l1 G1 rfl)
  | true => exact hq _ _ _ _ _ e1 l1 G1 rfl
theorem simT_and {e₁ e₂ : Expr} {rest : List Expr} {pos : Pos} {a b : ME} (ha : SimT c n tn sc e₁ (mTr a)) (hb : SimT c n tn sc (.BoolOp .And (e₂ :: rest) pos) (mTr b)) : SimT c n tn sc (.BoolOp .And (e₁ :: e₂ :: rest) pos) (mTr (mAnd a b)) := by
  intro f g₀ ρ σ W s hc hf hs hg Q E hq hx
  rw [mAnd_tr] at hg hq hx
  refine isTrue_and (ha.bind (rel' := fun _ b v => b = v) hc hf hs hg hq hx fun v σ₁ V W₁ s₁ e1 l1 G1 r1 hg1 hq1 he1 => ?_)
  subst r1
  cases v with
  | true => exact hb f g₀ ρ σ₁ W₁ s₁ hc hf G1 hg1 Q E hq1 he1
  | false => exact hq1 _ _ _ _ _ rfl (.refl _) G1 rfl
theorem simT_or {e₁ e₂ : Expr} {rest : List Expr} {pos : Pos} {a b : ME} (ha : SimT c n tn sc e₁ (mTr a)) (hb : SimT c n tn sc (.BoolOp .Or (e₂ :: rest) pos) (mTr b)) : SimT c n tn sc (.BoolOp .Or (e₁ :: e₂ :: rest) pos) (mTr (mOr a b)) := by
  intro f g₀ ρ σ W s hc hf hs hg Q E hq hx
  rw [mOr_tr] at hg hq hx
  refine isTrue_or (ha.bind (rel' := fun _ b v => b = v) hc hf hs hg hq hx fun v σ₁ V W₁ s₁ e1 l1 G1 r1 hg1 hq1 he1 => ?_)
  subst r1
  cases v with
  | false => exact hb f g₀ ρ σ₁ W₁ s₁ hc hf G1 hg1 Q E hq1 he1
  | true => exact hq1 _ _ _ _ _ rfl (.refl _) G1 rfl
noncomputable def mIf (t : ME) (a b : ME) : ME := fun ρ σ => (mTr t ρ σ).bind fun t σ => match t with | true => a ρ σ | false => b ρ σ
theorem sim_ifexp {t e₁ e₂ : Expr} {pos : Pos} {mt a b : ME} (ht : SimT c n tn sc t (mTr mt)) (ha : SimE c n tn sc e₁ a) (hb : SimE c n tn sc e₂ b) : SimE c n tn sc (.IfExp t e₁ e₂ pos) (mIf mt a b) := by
  intro f g₀ ρ σ W s hc hf hs hg Q E hq hx
  refine IfExp_ (ht.bind (rel' := RV c) hc hf hs hg hq hx fun v σ₁ V W₁ s₁ e1 l1 G1 r1 hg1 hq1 he1 => ?_)
  subst r1
  cases v with
  | true => exact ha f g₀ ρ σ₁ W₁ s₁ hc hf G1 hg1 Q E hq1 he1
  | false => exact hb f g₀ ρ σ₁ W₁ s₁ hc hf G1 hg1 Q E hq1 he1
end

/- S2 -/

theorem sOf_len (l : List Nat) : (sOf l).length = l.length := by simp [Str.length]
theorem sOf_app (a b : List Nat) : sOf a ++ sOf b = sOf (a ++ b) := by
  apply Str.ext'
  rw [Str.cps_append]
  simp
theorem sOf_inj {a b : List Nat} : sOf a = sOf b ↔ a = b := by
  constructor
  · intro h
    have h2 : (sOf a).cps = (sOf b).cps := by rw [h]
    simpa [sOf] using h2
  · rintro rfl; rfl
theorem sOf_beq (a b : List Nat) : (sOf a == sOf b) = (a == b) := by
  by_cases h : a = b
  · subst h; simp
  · have : sOf a ≠ sOf b := fun e => h (sOf_inj.mp e)
    rw [beq_eq_false_iff_ne.mpr this, beq_eq_false_iff_ne.mpr h]
theorem good_if {α : Type} {tn : Bool} {p : Prop} [Decidable p] {a : Res α} (h : (if p then a else .stuck : Res α).good tn) : p := by
  by_cases q : p
  · exact q
  · rw [if_neg q] at h
    exact h.elim
theorem sizeLine_big : 100000 ≤ sizeLine := by rw [sizeLine_eq]; decide

theorem le_big {n : Nat} (h : n ≤ 100000) : n ≤ sizeLine := Nat.le_trans h sizeLine_big

noncomputable def mulOk (a b : Int) : Bool := !(decide (Builtin.Int.intBits a > shortFactorBits) && decide (Builtin.Int.intBits b > shortFactorBits) && Builtin.Int.intTooBig (Builtin.Int.intBits a + Builtin.Int.intBits b))
theorem mulOk_iff {a b : Int} (h : mulOk a b = true) : IntMulOk a b := by
  unfold mulOk at h
  intro q
  rw [q] at h
  cases h
noncomputable def divOk (a b : Int) : Bool := b != 0 && !Builtin.divisionGoesByPylong a b
theorem divOk_iff {a b : Int} (h : divOk a b = true) : b ≠ 0 ∧ Builtin.divisionGoesByPylong a b = false := by
  simpa only [divOk, Bool.and_eq_true, bne_iff_ne, ne_eq, Bool.not_eq_true'] using h

/-- an operation of two ints -/
noncomputable def I2 (f : Int → Int → Option AV) (x y : AV) : Option AV := match x with
  | .int a => (match y with
    | .int b => f a b
    | _ => none)
  | _ => none
/-- an operation of two texts -/
noncomputable def T2 (f : List Nat → List Nat → Option AV) (x y : AV) : Option AV := match x with
  | .str a => (match y with
    | .str b => f a b
    | _ => none)
  | _ => none
noncomputable def oAdd : Store → AV → AV → Option AV := fun _ x y => match x with
  | .int _ => I2 (fun a b => some (.int (a + b))) x y
  | .str _ => T2 (fun a b => if a.length + b.length ≤ 100000 then some (.str (a ++ b)) else none) x y
  | _ => none
noncomputable def oSub : Store → AV → AV → Option AV := fun _ => I2 fun a b => some (.int (a - b))
noncomputable def oMul : Store → AV → AV → Option AV := fun _ x y => match x with
  | .int _ => I2 (fun a b => if mulOk a b then some (.int (a * b)) else none) x y
  | .str a => (match y with
    | .int b => if a = [48] ∧ b = 20 then some (.str (List.replicate 20 48)) else none
    | _ => none)
  | _ => none
noncomputable def oDiv : Store → AV → AV → Option AV := fun _ => I2 fun a b => if divOk a b then some (.int (a.fdiv b)) else none
noncomputable def oMod : Store → AV → AV → Option AV := fun _ => I2 fun a b => if b != 0 then some (.int (a.fmod b)) else none
noncomputable def oPow : Store → AV → AV → Option AV := fun _ => I2 fun a b => if 0 ≤ b ∧ b ≤ 1000000 ∧ a.natAbs < 2 ^ 64 then some (.int (a ^ b.toNat)) else none
theorem I2_inv {f : Int → Int → Option AV} {x y v : AV} (e : I2 f x y = some v) : ∃ a b, x = .int a ∧ y = .int b ∧ f a b = some v := by
  cases x <;> first | (cases e; done) | skip
  cases y <;> first | (cases e; done) | skip
  exact ⟨_, _, rfl, rfl, e⟩
theorem T2_inv {f : List Nat → List Nat → Option AV} {x y v : AV} (e : T2 f x y = some v) : ∃ a b, x = .str a ∧ y = .str b ∧ f a b = some v := by
  cases x <;> first | (cases e; done) | skip
  cases y <;> first | (cases e; done) | skip
  exact ⟨_, _, rfl, rfl, e⟩
theorem ite_inv {α : Type} {p : Prop} [Decidable p] {a b : α} (e : (if p then some a else none) = some b) : p ∧ a = b := by
  split at e
  · exact ⟨‹p›, Option.some.inj e⟩
  · cases e

section
variable {c : Cx}
theorem I2_rv {W : Wd} {f : Int → Int → Option AV} {x y v : AV} {X Y : Value} (hx : RV c W x X) (hy : RV c W y Y) (e : I2 f x y = some v) : ∃ a b t u, X = .int a t ∧ Y = .int b u ∧ f a b = some v := by
  obtain ⟨a, b, rfl, rfl, e⟩ := I2_inv e
  obtain ⟨t, rfl⟩ := hx.int_inv
  obtain ⟨u, rfl⟩ := hy.int_inv
  exact ⟨a, b, t, u, rfl, rfl, e⟩
theorem add_inv {W : Wd} {σ : Store} {x y v : AV} {X Y : Value} (hx : RV c W x X) (hy : RV c W y Y) (e : oAdd σ x y = some v) :
    (∃ a b t u, X = .int a t ∧ Y = .int b u ∧ v = .int (a + b)) ∨ (∃ a b t u, X = .str (sOf a) t ∧ Y = .str (sOf b) u ∧ a.length + b.length ≤ 100000 ∧ v = .str (a ++ b)) := by
  unfold oAdd at e
  split at e
  · obtain ⟨a, b, t, u, h1, h2, h3⟩ := I2_rv hx hy e
    exact .inl ⟨a, b, t, u, h1, h2, (Option.some.inj h3).symm⟩
  · obtain ⟨a, b, h1, rfl, e⟩ := T2_inv e
    cases h1
    obtain ⟨h, rfl⟩ := ite_inv e
    obtain ⟨t, rfl⟩ := hx.str_inv
    obtain ⟨u, rfl⟩ := hy.str_inv
    exact .inr ⟨_, b, t, u, rfl, rfl, h, rfl⟩
  · cases e
theorem mul_inv {W : Wd} {σ : Store} {x y v : AV} {X Y : Value} (hx : RV c W x X) (hy : RV c W y Y) (e : oMul σ x y = some v) :
    (∃ a b t u, X = .int a t ∧ Y = .int b u ∧ mulOk a b = true ∧ v = .int (a * b)) ∨ (∃ t u, X = .str (sOf [48]) t ∧ Y = .int 20 u ∧ v = .str (List.replicate 20 48)) := by
  unfold oMul at e
  split at e
  · obtain ⟨a, b, t, u, h1, h2, h3⟩ := I2_rv hx hy e
    obtain ⟨h, h3⟩ := ite_inv h3
    exact .inl ⟨a, b, t, u, h1, h2, h, h3.symm⟩
  · split at e
    · obtain ⟨⟨rfl, rfl⟩, h3⟩ := ite_inv e
      obtain ⟨t, rfl⟩ := hx.str_inv
      obtain ⟨u, rfl⟩ := hy.int_inv
      exact .inr ⟨t, u, rfl, rfl, h3.symm⟩
    · cases e
  · cases e
theorem p_add : Pure2 c (binaryOp .Add) oAdd (RV c) := by
  intro n sc f tn g₀ names ρ σ W s hc hf hs x y X Y v hx hy e Q E hq
  rcases add_inv hx hy e with ⟨a, b, t, u, rfl, rfl, rfl⟩ | ⟨a, b, t, u, rfl, rfl, h, rfl⟩
  · exact add_int (hq _ W _ (.refl _) (hs.toks _) (.int _ _))
  · refine add_str (fun t' tk => ?_) (by rw [sOf_len, sOf_len]; have := sizeLine_big; lia)
    rw [sOf_app]
    exact hq _ W _ (.refl _) (hs.toks _) (.str _ _)
theorem p_sub : Pure2 c (binaryOp .Sub) oSub (RV c) := by
  intro n sc f tn g₀ names ρ σ W s hc hf hs x y X Y v hx hy e Q E hq
  obtain ⟨a, b, t, u, rfl, rfl, e⟩ := I2_rv hx hy e
  cases e
  exact sub_int (hq _ W _ (.refl _) (hs.toks _) (.int _ _))
theorem p_mul : Pure2 c (binaryOp .Mult) oMul (RV c) := by
  intro n sc f tn g₀ names ρ σ W s hc hf hs x y X Y v hx hy e Q E hq
  rcases mul_inv hx hy e with ⟨a, b, t, u, rfl, rfl, h, rfl⟩ | ⟨t, u, rfl, rfl, rfl⟩
  · exact mul_int (hq _ W _ (.refl _) (hs.toks _) (.int _ _)) (mulOk_iff h)
  · refine SB.mul (by unfold MulOk; decide +kernel) fun t' k => ?_
    rw [show Txt.mul (sOf [48]) 20 = sOf (List.replicate 20 48) from by decide +kernel]
    exact hq _ W _ (.refl _) (hs.toks _) (.str _ _)
theorem p_div : Pure2 c (binaryOp .FloorDiv) oDiv (RV c) := by
  intro n sc f tn g₀ names ρ σ W s hc hf hs x y X Y v hx hy e Q E hq
  obtain ⟨a, b, t, u, rfl, rfl, e⟩ := I2_rv hx hy e
  obtain ⟨h, rfl⟩ := ite_inv e
  have h := divOk_iff h
  exact floordiv_int h.1 (hq _ W _ (.refl _) (hs.toks _) (.int _ _)) (.inl h.2)
theorem p_mod : Pure2 c (binaryOp .Mod) oMod (RV c) := by
  intro n sc f tn g₀ names ρ σ W s hc hf hs x y X Y v hx hy e Q E hq
  obtain ⟨a, b, t, u, rfl, rfl, e⟩ := I2_rv hx hy e
  obtain ⟨h, rfl⟩ := ite_inv e
  exact mod_int' (by simpa using h) (hq _ W _ (.refl _) (hs.toks _) (.int _ _))
theorem p_pow : Pure2 c (binaryOp .Pow) oPow (RV c) := by
  intro n sc f tn g₀ names ρ σ W s hc hf hs x y X Y v hx hy e Q E hq
  obtain ⟨a, b, t, u, rfl, rfl, e⟩ := I2_rv hx hy e
  obtain ⟨h, rfl⟩ := ite_inv e
  exact pow_int_small h.1 h.2.1 h.2.2 (hq _ W _ (.refl _) (hs.toks _) (.int _ _))

noncomputable def oNeg : Store → AV → Option AV
  | _, .int a => some (.int (-a))
  | _, _ => none
theorem oNeg_inv {σ : Store} {x v : AV} (e : oNeg σ x = some v) : ∃ a, x = .int a ∧ v = .int (-a) := by
  cases x <;> first | (cases e; done) | skip
  exact ⟨_, rfl, (Option.some.inj e).symm⟩
theorem p_neg : Pure1 c (unaryOp .USub) oNeg (RV c) := by
  intro n sc f tn g₀ names ρ σ W s hc hf hs x X v hx e Q E hq
  obtain ⟨a, rfl, rfl⟩ := oNeg_inv e
  obtain ⟨t, rfl⟩ := hx.int_inv
  exact neg_int (hq _ W _ (.refl _) (hs.toks _) (.int _ _))

/-! ## comparisons -/
noncomputable def oLt : Store → AV → AV → Option AV := fun _ => I2 fun a b => some (.bool (decide (a < b)))
noncomputable def oLe : Store → AV → AV → Option AV := fun _ => I2 fun a b => some (.bool (decide (a ≤ b)))
noncomputable def oGt : Store → AV → AV → Option AV := fun _ => I2 fun a b => some (.bool (decide (b < a)))
noncomputable def oGe : Store → AV → AV → Option AV := fun _ => I2 fun a b => some (.bool (decide (b ≤ a)))
theorem p_lt : Pure2 c (compareOp .Lt) oLt (RV c) := by
  intro n sc f tn g₀ names ρ σ W s hc hf hs x y X Y v hx hy e Q E hq
  obtain ⟨a, b, t, u, rfl, rfl, e⟩ := I2_rv hx hy e
  cases e
  exact lt_int (hq _ W _ (.refl _) hs (.bool _))
theorem p_le : Pure2 c (compareOp .LtE) oLe (RV c) := by
  intro n sc f tn g₀ names ρ σ W s hc hf hs x y X Y v hx hy e Q E hq
  obtain ⟨a, b, t, u, rfl, rfl, e⟩ := I2_rv hx hy e
  cases e
  exact le_int (hq _ W _ (.refl _) hs (.bool _))
theorem p_gt : Pure2 c (compareOp .Gt) oGt (RV c) := by
  intro n sc f tn g₀ names ρ σ W s hc hf hs x y X Y v hx hy e Q E hq
  obtain ⟨a, b, t, u, rfl, rfl, e⟩ := I2_rv hx hy e
  cases e
  exact gt_int (hq _ W _ (.refl _) hs (.bool _))
theorem p_ge : Pure2 c (compareOp .GtE) oGe (RV c) := by
  intro n sc f tn g₀ names ρ σ W s hc hf hs x y X Y v hx hy e Q E hq
  obtain ⟨a, b, t, u, rfl, rfl, e⟩ := I2_rv hx hy e
  cases e
  exact ge_int (hq _ W _ (.refl _) hs (.bool _))

noncomputable def noneP : AV → Option Bool
  | .none => some true
  | .int _ | .str _ | .tup _ | .ref _ | .bool _ => some false
  | .lit _ => none
noncomputable def oIs : Store → AV → AV → Option AV
  | _, x, .none => (noneP x).map .bool
  | _, _, _ => none
noncomputable def oIsNot : Store → AV → AV → Option AV
  | _, x, .none => (noneP x).map fun b => .bool (!b)
  | _, _, _ => none
theorem oIs_inv {σ : Store} {x y v : AV} (e : oIs σ x y = some v) : y = .none ∧ ∃ b, noneP x = some b ∧ v = .bool b := by
  cases y <;> first | (cases e; done) | skip
  obtain ⟨b, h, q⟩ := Option.map_eq_some_iff.mp e
  exact ⟨rfl, b, h, q.symm⟩
theorem oIsNot_inv {σ : Store} {x y v : AV} (e : oIsNot σ x y = some v) : y = .none ∧ ∃ b, noneP x = some b ∧ v = .bool (!b) := by
  cases y <;> first | (cases e; done) | skip
  obtain ⟨b, h, q⟩ := Option.map_eq_some_iff.mp e
  exact ⟨rfl, b, h, q.symm⟩
theorem noneP_cases {W : Wd} {x : AV} {X : Value} {b : Bool} (hx : RV c W x X) (h : noneP x = some b) : (b = true ∧ X = .none) ∨ (b = false ∧ X ≠ .none ∧ plainIs X .none = true) := by
  have i := hx.inv
  cases x <;> first | (cases h; done) | skip
  · exact .inl ⟨(Option.some.inj h).symm, i⟩
  all_goals refine .inr ⟨(Option.some.inj h).symm, ?_⟩
  · rw [show X = _ from i]; exact ⟨(fun q => nomatch q), rfl⟩
  · obtain ⟨t, rfl⟩ := i; exact ⟨(fun q => nomatch q), rfl⟩
  · obtain ⟨t, rfl⟩ := i; exact ⟨(fun q => nomatch q), rfl⟩
  · obtain ⟨a, vs, n, rfl, _⟩ := i; exact ⟨(fun q => nomatch q), rfl⟩
  · obtain ⟨a, rfl, _⟩ := i; exact ⟨(fun q => nomatch q), rfl⟩
theorem p_is : Pure2 c (compareOp .Is) oIs (RV c) := by
  intro n sc f tn g₀ names ρ σ W s hc hf hs x y X Y v hx hy e Q E hq
  obtain ⟨rfl, b, hb, rfl⟩ := oIs_inv e
  cases hy.none_inv
  rcases noneP_cases hx hb with ⟨rfl, rfl⟩ | ⟨rfl, hn, hp⟩
  · exact wpAny_is_self (by rfl) (hq _ W _ (.refl _) hs (.bool _))
  · exact wpAny_is_other hp hn (hq _ W _ (.refl _) hs (.bool _))
theorem p_isNot : Pure2 c (compareOp .IsNot) oIsNot (RV c) := by
  intro n sc f tn g₀ names ρ σ W s hc hf hs x y X Y v hx hy e Q E hq
  obtain ⟨rfl, b, hb, rfl⟩ := oIsNot_inv e
  cases hy.none_inv
  rcases noneP_cases hx hb with ⟨rfl, rfl⟩ | ⟨rfl, hn, hp⟩
  · exact wpAny_isNot_self (by rfl) (hq _ W _ (.refl _) hs (.bool _))
  · exact wpAny_isNot_other hp hn (hq _ W _ (.refl _) hs (.bool _))

/-! ### equality, by plain data -/
noncomputable def flat : AV → Option PyData
  | .none => some .none
  | .int i => some (.int i)
  | .bool b => some (.bool b)
  | .tup [.int a, .int b] => some (.tuple [.int a, .int b])
  | _ => none
noncomputable def flats : List AV → Option (List PyData)
  | [] => some []
  | x :: l => (flat x).bind fun d => (flats l).map fun ds => d :: ds
theorem flat_reads {W : Wd} {h : Heap} (ha : ∀ a o, AtO c W a o → h.get? a = some o) {x : AV} {X : Value} {d : PyData} (hx : RV c W x X) (e : flat x = some d) : ∃ as, Reads h X d as := by
  unfold flat at e
  split at e <;> first | (cases e; done) | skip
  · cases e; cases hx.none_inv; exact ⟨_, .none⟩
  · cases e; obtain ⟨t, rfl⟩ := hx.int_inv; exact ⟨_, .int _ _⟩
  · cases e; cases hx.bool_inv; exact ⟨_, .bool _⟩
  · cases e
    obtain ⟨a, vs, n, rfl, h1, h2⟩ := hx.tup_inv
    obtain ⟨V, U, rfl, a1, a2⟩ := h2.two
    obtain ⟨t, rfl⟩ := a1.int_inv
    obtain ⟨u, rfl⟩ := a2.int_inv
    exact ⟨_, reads_tuple_at (ha _ _ h1) rfl rfl (.cons (.int _ _) (.cons (.int _ _) .nil))⟩
theorem flats_reads {W : Wd} {h : Heap} (ha : ∀ a o, AtO c W a o → h.get? a = some o) : ∀ {l : List AV} {vs : List Value} {ds : List PyData}, RVs c W l vs → flats l = some ds → ∃ as, ReadsAll h vs ds as
  | _, _, _, .nil, e => by cases e; exact ⟨_, .nil⟩
  | _, _, _, .cons hx hs, e => by
    unfold flats at e
    obtain ⟨d, h1, e⟩ := Option.bind_eq_some_iff.mp e
    obtain ⟨ds, h2, e⟩ := Option.map_eq_some_iff.mp e
    subst e
    obtain ⟨as, r1⟩ := flat_reads ha hx h1
    obtain ⟨bs, r2⟩ := flats_reads ha hs h2
    exact ⟨_, .cons r1 r2⟩
theorem flat_shaped {x : AV} {d : PyData} (e : flat x = some d) : d.canLay0 = true ∧ d.depth ≤ 1 := by
  unfold flat at e
  split at e <;> first | (cases e; done) | skip
  all_goals cases e
  · exact ⟨rfl, by decide⟩
  · exact ⟨rfl, by simp [PyData.depth]⟩
  · exact ⟨rfl, by simp [PyData.depth]⟩
  · exact ⟨rfl, by simp [PyData.depth, PyData.depthAll]⟩
theorem flats_shaped : ∀ {l : List AV} {ds : List PyData}, flats l = some ds → PyData.canLayAll0 ds = true ∧ PyData.depthAll ds ≤ 1
  | [], _, e => by cases e; exact ⟨rfl, by decide⟩
  | x :: l, _, e => by
    unfold flats at e
    obtain ⟨d, h1, e⟩ := Option.bind_eq_some_iff.mp e
    obtain ⟨ds, h2, e⟩ := Option.map_eq_some_iff.mp e
    subst e
    have a := flat_shaped h1
    have b := flats_shaped h2
    have a2 := a.2
    have b2 := b.2
    refine ⟨by simp [PyData.canLayAll0, a.1, b.1], ?_⟩
    simp only [PyData.depthAll]
    lia

/-- equal? of ints, texts, None, pairs of ints; of lists of such against the empty list -/
noncomputable def pairA : List AV → Option (Int × Int)
  | [.int a, .int b] => some (a, b)
  | _ => none
noncomputable def eqA (σ : Store) (x y : AV) : Option Bool := match x with
  | .str a => (match y with
    | .str b => some (a == b)
    | .int _ => some false
    | _ => none)
  | .int a => (match y with
    | .int b => some (a == b)
    | .str _ => some false
    | _ => none)
  | .ref i => (match y with
    | .ref j => (match σ[i]? with
      | some (.list l) => (match σ[j]? with
        | some (.list []) => if l.length ≤ 100000 ∧ (flats l).isSome then some l.isEmpty else none
        | _ => none)
      | _ => none)
    | _ => none)
  | .none => (match y with
    | .none => some true
    | .int _ => some false
    | .tup l => (pairA l).map fun _ => false
    | _ => none)
  | .bool a => (match y with
    | .bool b => some (a == b)
    | _ => none)
  | .tup l => (match y with
    | .none => (pairA l).map fun _ => false
    | .tup m => (pairA l).bind fun p => (pairA m).map fun q => p.1 == q.1 && p.2 == q.2
    | _ => none)
  | _ => none
noncomputable def oEq (σ : Store) (x y : AV) : Option AV := (eqA σ x y).map .bool
noncomputable def oNe (σ : Store) (x y : AV) : Option AV := (eqA σ x y).map fun b => .bool (!b)

theorem shaped_of {d : PyData} (h : d.canLay0 = true ∧ d.depth ≤ 1) : SeqAt.shaped d = true := by
  unfold SeqAt.shaped
  rw [h.1, decide_eq_true (by lia)]; rfl
theorem shaped_list {ds : List PyData} (h : PyData.canLayAll0 ds = true ∧ PyData.depthAll ds ≤ 1) : SeqAt.shaped (.list ds) = true := by
  unfold SeqAt.shaped
  rw [show (PyData.list ds).canLay0 = true from by simp [PyData.canLay0, h.1], decide_eq_true (by simp only [PyData.depth]; lia)]; rfl

theorem pairA_inv {l : List AV} {p : Int × Int} (h : pairA l = some p) : l = [.int p.1, .int p.2] := by
  unfold pairA at h
  split at h
  · cases h; rfl
  · cases h
inductive EqC (σ : Store) : AV → AV → Bool → Prop
  | str (a a' : List Nat) : EqC σ (.str a) (.str a') (a == a')
  | is (i : Int) (a : List Nat) : EqC σ (.int i) (.str a) false
  | si (i : Int) (a : List Nat) : EqC σ (.str a) (.int i) false
  | flat {x y : AV} {d d' : PyData} (h1 : flat x = some d) (h2 : flat y = some d') : EqC σ x y (PyData.eqv d d')
  | ref {i j : Nat} {l : List AV} {ds : List PyData} (h1 : σ[i]? = some (.list l)) (h2 : σ[j]? = some (.list [])) (h3 : flats l = some ds) : EqC σ (.ref i) (.ref j) l.isEmpty
theorem EqC.of {σ : Store} {x y : AV} {b : Bool} {d d' : PyData} (h1 : Mine.flat x = some d) (h2 : Mine.flat y = some d') (h : b = PyData.eqv d d') : EqC σ x y b := h ▸ .flat h1 h2
theorem eqA_cases {σ : Store} {x y : AV} {b : Bool} (e : eqA σ x y = some b) : EqC σ x y b := by
  cases x with
  | none =>
    cases y <;> first | (cases e; done) | skip
    · exact .of rfl rfl (Option.some.inj e).symm
    · exact .of rfl rfl (Option.some.inj e).symm
    · obtain ⟨p, h1, rfl⟩ := Option.map_eq_some_iff.mp e
      rw [pairA_inv h1]
      exact .of rfl rfl rfl
  | bool a =>
    cases y <;> first | (cases e; done) | skip
    exact .of rfl rfl ((Option.some.inj e).symm.trans (by simp [PyData.eqv]))
  | int a =>
    cases y <;> first | (cases e; done) | skip
    · exact .of rfl rfl ((Option.some.inj e).symm.trans (by simp [PyData.eqv]))
    · cases e; exact .is _ _
  | str a =>
    cases y <;> first | (cases e; done) | skip
    · cases e; exact .si _ _
    · cases e; exact .str _ _
  | tup l =>
    cases y <;> first | (cases e; done) | skip
    · obtain ⟨p, h1, rfl⟩ := Option.map_eq_some_iff.mp e
      rw [pairA_inv h1]
      exact .of rfl rfl rfl
    · obtain ⟨p, h1, e⟩ := Option.bind_eq_some_iff.mp e
      obtain ⟨q, h2, rfl⟩ := Option.map_eq_some_iff.mp e
      rw [pairA_inv h1, pairA_inv h2]
      exact .of rfl rfl (by simp [PyData.eqv, PyData.eqvAll])
  | ref i =>
    cases y <;> first | (cases e; done) | skip
    dsimp only [eqA] at e
    split at e
    · rename_i h1
      split at e
      · rename_i h2
        obtain ⟨h, rfl⟩ := ite_inv e
        obtain ⟨ds, hds⟩ := Option.isSome_iff_exists.mp h.2
        exact .ref h1 h2 hds
      · cases e
    · cases e
  | lit v => cases e

theorem StG.list (hc : c.Ok) {f : Fm} {tn : Bool} {g₀ g : Heap} {names : List (Str × NameKind)} {ρ : Loc} {σ : Store} {W : Wd} {s : Shared} {m : Str → Option Value} (G : StG c f tn g₀ names ρ σ W s g m) {i a : Nat} {l : List AV}
    (h : σ[i]? = some (.list l)) (ha : W.φ[i]? = some a) : ∃ vs k, (a, PySem.W.listOf vs.toArray k) ∈ W.news ∧ RVs c W l vs ∧ s.heap.get? a = some (PySem.W.listOf vs.toArray k) := by
  obtain ⟨a', ob, h1, h2, h3⟩ := G.S.obj i _ h
  rw [ha] at h1
  cases h1
  obtain ⟨vs, n, rfl, hv⟩ := h3.list_inv
  exact ⟨_, _, h2, hv, (G.N _ h2).1⟩

theorem FOk.room {n : Nat} {sc : Scope} {f : Fm} (h : FOk n sc f) (k : Nat) (hk : k ≤ 80) : (f.A sc).units + k < cLine := by have := h.units; lia

noncomputable def xn (neg b : Bool) : Bool := match neg with
  | true => !b
  | false => b
theorem flats_isEmpty {l : List AV} {ds : List PyData} (h : flats l = some ds) : PyData.eqv (.list ds) (.list []) = l.isEmpty := by
  cases l with
  | nil => cases h; rfl
  | cons x l =>
    obtain ⟨d, q1, h3⟩ := Option.bind_eq_some_iff.mp h
    obtain ⟨ds', q2, rfl⟩ := Option.map_eq_some_iff.mp h3
    rfl
theorem eq_wp {op : CmpOp} {neg : Bool} (hop : op = (if neg then CmpOp.NotEq else CmpOp.Eq)) {n : Nat} {sc : Scope} {f : Fm} {tn : Bool} {g₀ : Heap} {names : List (Str × NameKind)} {ρ : Loc} {σ : Store} {W : Wd} {s : Shared} (hc : c.Ok) (hf : FOk n sc f) (hs : St c f tn g₀ names ρ σ W s)
    {x y : AV} {X Y : Value} {b : Bool} (hx : RV c W x X) (hy : RV c W y Y) (e : eqA σ x y = some b) (hu : (f.A sc).units + 64 < cLine) {Q : Value → Shared → Prop} {E : Value → Shared → Prop}
    (hq : Q (.bool (xn neg b)) s) : wpAny c.M (f.A sc) (compareOp op X Y) Q E s := by
  obtain ⟨g, m, G⟩ := hs
  have hat : ∀ a o, AtO c W a o → s.heap.get? a = some o := fun a o h => G.at hc h
  rcases eqA_cases e with ⟨a, a'⟩ | ⟨i, a⟩ | ⟨i, a⟩ | ⟨h1, h2⟩ | ⟨h1, h2, h3⟩
  · obtain ⟨t, rfl⟩ := hx.str_inv
    obtain ⟨u, rfl⟩ := hy.str_inv
    subst hop
    cases neg
    · exact eq_str (by rw [sOf_beq]; exact hq)
    · refine ne_str ?_
      rw [bne, sOf_beq]
      exact hq
  · obtain ⟨t, rfl⟩ := hx.int_inv
    obtain ⟨u, rfl⟩ := hy.str_inv
    subst hop
    cases neg
    · exact EqMixed.eq_int_str hq
    · exact EqMixed.ne_int_str hq
  · obtain ⟨t, rfl⟩ := hx.str_inv
    obtain ⟨u, rfl⟩ := hy.int_inv
    subst hop
    cases neg
    · exact EqMixed.eq_str_int hq
    · exact EqMixed.ne_str_int hq
  · obtain ⟨as, r1⟩ := flat_reads hat hx h1
    obtain ⟨bs, r2⟩ := flat_reads hat hy h2
    subst hop
    cases neg
    · exact eq_dataH r1 r2 (shaped_of (flat_shaped h1)) (shaped_of (flat_shaped h2)) hu hq
    · exact ne_dataH r1 r2 (shaped_of (flat_shaped h1)) (shaped_of (flat_shaped h2)) hu hq
  · rename_i i j l ds
    obtain ⟨_, rfl, ha⟩ := hx.ref_inv
    obtain ⟨_, rfl, hb⟩ := hy.ref_inv
    obtain ⟨vs, k, _, v1, g1⟩ := G.list hc h1 ha
    obtain ⟨vs', k', _, v2, g2⟩ := G.list hc h2 hb
    cases v2.nil_of
    obtain ⟨as, r1⟩ := flats_reads hat v1 h3
    have R1 := reads_list_at g1 rfl rfl (xs := ds) (as := as) r1
    have R2 := reads_list_at g2 rfl rfl (xs := []) (as := []) ReadsAll.nil
    rw [← flats_isEmpty h3] at hq
    subst hop
    cases neg
    · exact eq_dataH R1 R2 (shaped_list (flats_shaped h3)) (by rfl) hu hq
    · exact ne_dataH R1 R2 (shaped_list (flats_shaped h3)) (by rfl) hu hq
theorem p_eq : Pure2 c (compareOp .Eq) oEq (RV c) := by
  intro n sc f tn g₀ names ρ σ W s hc hf hs x y X Y v hx hy e Q E hq
  obtain ⟨b, h1, rfl⟩ := Option.map_eq_some_iff.mp e
  exact eq_wp (neg := false) rfl hc hf hs hx hy h1 (hf.room 64 (by decide)) (hq _ W _ (.refl _) hs (.bool _))
theorem p_ne : Pure2 c (compareOp .NotEq) oNe (RV c) := by
  intro n sc f tn g₀ names ρ σ W s hc hf hs x y X Y v hx hy e Q E hq
  obtain ⟨b, h1, rfl⟩ := Option.map_eq_some_iff.mp e
  exact eq_wp (neg := true) rfl hc hf hs hx hy h1 (hf.room 64 (by decide)) (hq _ W _ (.refl _) hs (.bool _))
end

/- S3 -/

/-! ## the ledger: a new object of the store, an object of the store turned -/
section
variable {c : Cx} {f : Fm} {tn : Bool} {g₀ g : Heap} {names : List (Str × NameKind)} {ρ : Loc} {σ : Store} {W : Wd} {s : Shared} {m : Str → Option Value}
theorem Wd.Le.alloc {W : Wd} {a : Addr} {q : Addr × Obj} (hl : ∀ p ∈ W.news, p.1 < a) : W.Le ⟨W.φ ++ [a], q :: W.news⟩ := ⟨⟨[a], rfl⟩, fun b o h h' => ⟨.tail _ h, fun z => by
  rcases List.mem_append.mp z with z | z
  · exact h' z
  · rw [List.mem_singleton] at z
    exact absurd (hl _ h) (by rw [show (b, o).1 = a from z]; exact Nat.lt_irrefl _)⟩⟩
theorem StoreR.mem (S : StoreR c W σ) {a : Nat} (h : a ∈ W.φ) : ∃ ob, (a, ob) ∈ W.news := by
  obtain ⟨i, hi, e⟩ := List.getElem_of_mem h
  have hi' : i < σ.length := by rw [← S.len]; exact hi
  obtain ⟨a', ob, h1, h2, _⟩ := S.obj i σ[i] (List.getElem?_eq_getElem hi')
  rw [List.getElem?_eq_getElem hi] at h1
  cases h1
  exact ⟨ob, e ▸ h2⟩
theorem StoreR.alloc (S : StoreR c W σ) {a : Addr} {ob : Obj} {o : AO} (hl : ∀ p ∈ W.news, p.1 < a) (r : RO c W o ob) : StoreR c ⟨W.φ ++ [a], (a, ob) :: W.news⟩ (σ ++ [o]) := by
  have le := Wd.Le.alloc (q := (a, ob)) hl
  refine ⟨by simp [S.len], ?_, fun i o' e => ?_⟩
  · rw [List.nodup_append]
    refine ⟨S.nodup, by simp, fun x hx y hy => ?_⟩
    rw [List.mem_singleton] at hy
    subst hy
    obtain ⟨ob', h⟩ := S.mem hx
    exact Nat.ne_of_lt (hl _ h)
  · by_cases hi : i < σ.length
    · rw [List.getElem?_append_left hi] at e
      obtain ⟨a', ob', h1, h2, h3⟩ := S.obj i o' e
      exact ⟨a', ob', le.get h1, .tail _ h2, h3.mono le⟩
    · rw [List.getElem?_append_right (by lia)] at e
      have : i - σ.length = 0 := by
        have := (List.getElem?_eq_some_iff.mp e).1
        simp at this; lia
      rw [this] at e
      cases e
      refine ⟨a, ob, ?_, .head _, r.mono le⟩
      show (W.φ ++ [a])[i]? = some a
      rw [List.getElem?_append_right (by rw [S.len]; lia), S.len, this]
      rfl
theorem StG.fresh (G : StG c f tn g₀ names ρ σ W s g m) : s.heap.objs.size ∉ W.φ := fun h => by
  obtain ⟨ob, q⟩ := G.S.mem h
  exact absurd (Heap.lt_size (G.N _ q).1) (Nat.lt_irrefl _)
theorem StG.alloc (G : StG c f tn g₀ names ρ σ W s g m) {h' : Heap} {a : Addr} {ob : Obj} {o : AO} (F' : Fr g f.L h' m) (N' : News g f.L h' ((a, ob) :: W.news)) (hl : ∀ p ∈ W.news, p.1 < a) (r : RO c W o ob) (t : Nat) :
    St c f tn g₀ names ρ (σ ++ [o]) ⟨W.φ ++ [a], (a, ob) :: W.news⟩ { s with heap := h', toks := t } :=
  ⟨g, m, G.B, F', N', G.D, G.T, G.T0, G.R.mono (.alloc hl), G.S.alloc hl r, G.e1, G.e2, G.e3⟩

/-- the ledger with one entry turned -/
noncomputable def turn (d : Addr) (o' : Obj) (news : List (Addr × Obj)) : List (Addr × Obj) := (d, o') :: news.filter (·.1 != d)
theorem turn_news (N : News g f.L s.heap W.news) {d : Addr} {o : Obj} (h : (d, o) ∈ W.news) (o' : Obj) : News g f.L s.heap ((d, o) :: W.news.filter (·.1 != d)) ∧ Upd d o o' ((d, o) :: W.news.filter (·.1 != d)) (turn d o' W.news) := by
  refine ⟨fun p hp => ?_, Upd.head fun p hp => ?_⟩
  · rcases List.mem_cons.mp hp with rfl | hp
    · exact N _ h
    · exact N _ (List.mem_filter.mp hp).1
  · have := (List.mem_filter.mp hp).2
    simpa using this
theorem turn_mem {d : Addr} {o' : Obj} {news : List (Addr × Obj)} {p : Addr × Obj} (h : p ∈ news) (hn : p.1 ≠ d) : p ∈ turn d o' news := .tail _ (List.mem_filter.mpr ⟨h, by simpa using hn⟩)
theorem News.functional {g h : Heap} {L a : Addr} {o o' : Obj} {news : List (Addr × Obj)} (N : News g L h news) (h1 : (a, o) ∈ news) (h2 : (a, o') ∈ news) : o = o' := by
  have e1 := (N _ h1).1
  have e2 := (N _ h2).1
  rw [e1] at e2
  exact Option.some.inj e2
theorem Wd.Le.turn {W : Wd} {i d : Nat} (hd : W.φ[i]? = some d) (o' : Obj) : W.Le ⟨W.φ, Mine.turn d o' W.news⟩ :=
  ⟨⟨[], (List.append_nil _).symm⟩, fun a q hq hc => ⟨turn_mem hq fun e => by
    have e : a = d := e
    subst e
    exact hc (List.mem_of_getElem? hd), hc⟩⟩
theorem nodup_inj {l : List Nat} (h : l.Nodup) {i j a : Nat} (e1 : l[i]? = some a) (e2 : l[j]? = some a) : i = j := by
  obtain ⟨p1, q1⟩ := List.getElem?_eq_some_iff.mp e1
  obtain ⟨p2, q2⟩ := List.getElem?_eq_some_iff.mp e2
  have hp := List.pairwise_iff_getElem.mp h
  rcases Nat.lt_trichotomy i j with z | z | z
  · exact absurd (q1.trans q2.symm) (hp i j p1 p2 z)
  · exact z
  · exact absurd (q2.trans q1.symm) (hp j i p2 p1 z)
theorem StoreR.turn (S : StoreR c W σ) {i d : Nat} (hd : W.φ[i]? = some d) {o' : Obj} {ao' : AO} (r : RO c W ao' o') : StoreR c ⟨W.φ, turn d o' W.news⟩ (σ.set i ao') := by
  have le := Wd.Le.turn hd o'
  refine ⟨by rw [List.length_set]; exact S.len, S.nodup, fun j q e => ?_⟩
  by_cases hij : i = j
  · subst hij
    have hlt : i < σ.length := by
      have := (List.getElem?_eq_some_iff.mp e).1
      simpa using this
    rw [List.getElem?_set_self hlt] at e
    cases e
    exact ⟨d, o', hd, .head _, r.mono le⟩
  · rw [List.getElem?_set_ne hij] at e
    obtain ⟨a, ob, h1, h2, h3⟩ := S.obj j q e
    refine ⟨a, ob, h1, turn_mem h2 fun z => hij ?_, h3.mono le⟩
    have z : a = d := z
    subst z
    exact nodup_inj S.nodup hd h1
theorem StG.turn (G : StG c f tn g₀ names ρ σ W s g m) {i d : Nat} {o' : Obj} {ao' : AO} (hd : W.φ[i]? = some d) (r : RO c W ao' o') {h' : Heap} (F' : Fr g f.L h' m) (N' : News g f.L h' (turn d o' W.news)) (t : Nat) :
    St c f tn g₀ names ρ (σ.set i ao') ⟨W.φ, Mine.turn d o' W.news⟩ { s with heap := h', toks := t } :=
  ⟨g, m, G.B, F', N', G.D, G.T, G.T0, G.R.mono (.turn hd o'), G.S.turn hd r, G.e1, G.e2, G.e3⟩
end

/-! ## arguments, displays -/
noncomputable def mArgs : List ME → Loc → Store → Res (List AV)
  | [] => fun _ σ => .ok [] σ
  | a :: r => fun ρ σ => (a ρ σ).bind fun x σ => (mArgs r ρ σ).bind fun l σ => .ok (x :: l) σ
noncomputable abbrev SimL (c : Cx) (n : Nat) (tn : Bool) (sc : Scope) (pos : Pos) (es : List Expr) (ms : List ME) : Prop := SimX c n tn sc (fun env => spliced (backTo pos (starEach es env))) (RVs c) (mArgs ms)
noncomputable def notStar : Expr → Bool
  | .Starred .. => false
  | _ => true
theorem starEach_cons {e : Expr} (h : notStar e = true) (es : List Expr) (env : Env) : starEach (e :: es) env = (false, eval e env) :: starEach es env := by
  cases e <;> first | rfl | cases h
theorem any_star {pos : Pos} {env : Env} : ∀ {es : List Expr}, es.all notStar = true → (backTo pos (starEach es env)).any (·.1) = false
  | [], _ => rfl
  | e :: es, h => by
    rw [List.all_cons, Bool.and_eq_true] at h
    rw [starEach_cons h.1]
    show (false || (backTo pos (starEach es env)).any (·.1)) = false
    rw [any_star h.2]; rfl
section
variable {c : Cx} {n : Nat} {tn : Bool} {sc : Scope}
theorem sim_nil {pos : Pos} : SimL c n tn sc pos [] [] := by
  intro f g₀ ρ σ W s hc hf hs hg Q E hq hx
  exact spliced_nil (hq _ σ _ W s rfl (.refl _) hs .nil)
theorem sim_cons {pos : Pos} {e : Expr} {es : List Expr} {a : ME} {ms : List ME} (hn : notStar e = true) (ha : SimE c n tn sc e a) (hr : SimL c n tn sc pos es ms) : SimL c n tn sc pos (e :: es) (a :: ms) := by
  intro f g₀ ρ σ W s hc hf hs hg Q E hq hx
  show wpAny _ _ (spliced (backTo pos (starEach (e :: es) (f.env sc)))) Q E s
  rw [starEach_cons hn]
  refine spliced_cons (ha.bind (rel' := RVs c) hc hf hs hg hq hx fun x σ₁ X W₁ s₁ e1 l1 G1 r1 hg1 hq1 he1 => ?_)
  refine hr.bind (rel' := RVs c) hc hf G1 hg1 hq1 he1 fun l σ₂ vs W₂ s₂ e2 l2 G2 r2 hg2 hq2 he2 => ?_
  exact hq2 _ σ₂ _ W₂ s₂ rfl (.refl _) G2 (.cons (r1.mono l2) r2)

noncomputable def mTup (ms : List ME) : ME := fun ρ σ => (mArgs ms ρ σ).bind fun l σ => if l.length ≤ 1000 then .ok (.tup l) σ else .stuck
noncomputable def mList (ms : List ME) : ME := fun ρ σ => (mArgs ms ρ σ).bind fun l σ => if l.length ≤ 1000 then .ok (.ref σ.length) (σ ++ [.list l]) else .stuck
theorem sim_tup {es : List Expr} {k : Nat} {pos : Pos} {ms : List ME} (h : SimL c n tn sc pos es ms) : SimE c n tn sc (.Tuple es k pos) (mTup ms) := by
  intro f g₀ ρ σ W s hc hf hs hg Q E hq hx
  refine Tuple_ (h.bind (rel' := RV c) hc hf hs hg hq hx fun l σ₁ vs W₁ s₁ e1 l1 G1 r1 hg1 hq1 he1 => ?_)
  split at hg1
  · rename_i hl
    rw [if_pos hl] at hq1
    obtain ⟨g, m, G⟩ := G1
    refine newTuple_N G.F G.N (fun h' F' N' => ?_) (by rw [← r1.length]; have := sizeLine_big; lia)
    exact hq1 _ σ₁ _ _ _ rfl (.cons _ _) (G.grow F' N' _) (.tup (n := 0) (.inl ⟨.head _, G.fresh⟩) (r1.mono (.cons _ _)))
  · exact hg1.elim
theorem sim_list {es : List Expr} {pos : Pos} {ms : List ME} (h : SimL c n tn sc pos es ms) : SimE c n tn sc (.List es pos) (mList ms) := by
  intro f g₀ ρ σ W s hc hf hs hg Q E hq hx
  refine List_ (h.bind (rel' := RV c) hc hf hs hg hq hx fun l σ₁ vs W₁ s₁ e1 l1 G1 r1 hg1 hq1 he1 => ?_)
  split at hg1
  · rename_i hl
    rw [if_pos hl] at hq1
    obtain ⟨g, m, G⟩ := G1
    refine newList_K G.F G.N (fun a h' F' N' hlt => ?_) (by rw [← r1.length]; have := sizeLine_big; lia)
    refine hq1 _ _ _ ⟨W₁.φ ++ [a], _⟩ _ rfl (.alloc hlt) (G.alloc F' N' hlt (.list r1) _) (.ref ?_)
    show (W₁.φ ++ [a])[σ₁.length]? = some a
    rw [List.getElem?_append_right (by rw [G.S.len]; exact Nat.le_refl _), G.S.len, Nat.sub_self]; rfl
  · exact hg1.elim

/-! ## items -/
noncomputable def itemAt {α : Type} (l : List α) (k : Int) : Option α := if 0 ≤ k ∧ k < 2 ^ 62 then l[k.toNat]? else none
noncomputable def oItem (σ : Store) (x y : AV) : Option AV := match y with
  | .int k => (match x with
    | .tup l => itemAt l k
    | .str l => (itemAt l k).map fun x => .str [x]
    | .ref i => (match σ[i]? with
      | some (.list l) => itemAt l k
      | _ => none)
    | _ => none)
  | _ => none
inductive ItemC (σ : Store) (k : Int) (v : AV) : AV → Prop
  | tup {l : List AV} (h : l[k.toNat]? = some v) : ItemC σ k v (.tup l)
  | str {l : List Nat} {z : Nat} (h : l[k.toNat]? = some z) (e : v = .str [z]) : ItemC σ k v (.str l)
  | ref {i : Nat} {l : List AV} (h : σ[i]? = some (.list l)) (e : l[k.toNat]? = some v) : ItemC σ k v (.ref i)
/-- an index's syntax that asks no slice -/
noncomputable def plainIdx (slice : Expr) : Prop := ∀ (o : Value) (i : Int) (u : Tok), subscripted slice false o (.int i u) = operate [o, .int i u] (getItem o (.int i u))
theorem seqIdx {k : Int} {n : Nat} (h0 : 0 ≤ k) (h1 : k.toNat < n) : seqIndex? k n = some k.toNat := by
  unfold seqIndex?
  simp only [show ¬ (k < 0) from by lia, if_false]
  first
  | (rw [if_pos (by lia)])
  | (simp; lia)
theorem letGo_str (value : Expr) (x : Str) (t : Tok) (r : Value) : letTemporaryGo value (.str x t) r = pure () := by
  unfold letTemporaryGo
  cases value <;> rfl
theorem itemAt_inv {α : Type} {l : List α} {k : Int} {v : α} (e : itemAt l k = some v) : (0 ≤ k ∧ k < 2 ^ 62) ∧ l[k.toNat]? = some v := by
  unfold itemAt at e
  split at e
  · exact ⟨‹_›, e⟩
  · cases e
theorem oItem_inv {σ : Store} {x y v : AV} (e : oItem σ x y = some v) : ∃ k, y = .int k ∧ (0 ≤ k ∧ k < 2 ^ 62) ∧ ItemC σ k v x := by
  cases y <;> first | (cases e; done) | skip
  rename_i k
  refine ⟨k, rfl, ?_⟩
  cases x <;> first | (cases e; done) | skip
  · obtain ⟨z, e2, e3⟩ := Option.map_eq_some_iff.mp e
    exact ⟨(itemAt_inv e2).1, .str (itemAt_inv e2).2 e3.symm⟩
  · exact ⟨(itemAt_inv e).1, .tup (itemAt_inv e).2⟩
  · dsimp only [oItem] at e
    split at e
    · exact ⟨(itemAt_inv e).1, .ref ‹_› (itemAt_inv e).2⟩
    · cases e
theorem p_item {value slice : Expr} (hp : plainIdx slice) : Pure2 c (subscriptTail value slice) oItem (RV c) := by
  intro n sc f tn g₀ names ρ σ W s hc hf hs x y X Y v hx hy e Q E hq
  obtain ⟨g, m, G⟩ := hs
  obtain ⟨k, hyk, hk, h⟩ := oItem_inv e
  clear e
  obtain ⟨u, rfl⟩ := hy.int_of hyk
  rcases h with ⟨e⟩ | ⟨e, rfl⟩ | ⟨hl, e⟩
  · obtain ⟨a, vs, n, rfl, ha, hl⟩ := hx.tup_inv
    obtain ⟨V, h1, h2⟩ := hl.get e
    have hlt := (List.getElem?_eq_some_iff.mp h1).1
    exact item_tupleT ⟨_, G.at hc ha, rfl, _, rfl⟩ (by lia) (by lia) (seqIdx hk.1 hlt) h1 (hq V W s (.refl _) G.st h2) (hp _ _ _)
  · rename_i l z
    obtain ⟨t, rfl⟩ := hx.str_inv
    have hlt := (List.getElem?_eq_some_iff.mp e).1
    refine item_str (by unfold fitsSsize; simp; lia) (by rw [sOf_len]; lia) (by rw [sOf_len]; lia) (fun _ => ?_) (hp _ _ _) (letGo_str _ _ _)
    rw [show Txt.item (sOf l) k = sOf [z] from ?_]
    · exact hq _ W _ (.refl _) (G.toks _) (.str _ _)
    · unfold Txt.item Txt.charAt
      simp only [sOf_len]
      rw [seqIdx hk.1 hlt]
      simp [e]
  · obtain ⟨a, rfl, ha⟩ := hx.ref_inv
    obtain ⟨vs, j, _, r, hg⟩ := G.list hc hl ha
    obtain ⟨V, h1, h2⟩ := r.get e
    exact tail_any ⟨_, hg, rfl⟩ slot_list_getitem.lookup (wpAny_getItem_list ⟨_, hg, rfl, _, rfl⟩ hk.1 (by lia) (by simpa using h1) (hq V W s (.refl _) G.st h2)) (hp _ _ _)
theorem sim_item {value slice : Expr} {pos : Pos} {a b : ME} (hp : plainIdx slice) (ha : SimE c n tn sc value a) (hb : SimE c n tn sc slice b) : SimE c n tn sc (.Subscript value slice pos) (mOp2 oItem a b) :=
  sim_op2 ha hb (p_item hp) fun f s Q E h => Subscript_ h
end

/- S4 -/

section
variable {c : Cx} {n : Nat} {tn : Bool} {sc : Scope}

/-! ## slices -/
theorem slice1 (l : List Nat) : Txt.slice (sOf l) (some 1) none = sOf (l.drop 1) := by
  cases l with
  | nil => decide +kernel
  | cons x l =>
    have hn : (sOf (x :: l)).length = l.length + 1 := by rw [sOf_len]; rfl
    have e : Builtin.Str.strSliceIndices (some 1) none 1 (sOf (x :: l)).length = Builtin.Str.strSliceIndices (some ((1 : Nat) : Int)) (some (((sOf (x :: l)).length : Nat) : Int)) 1 (sOf (x :: l)).length := by
      rw [hn]
      have h2 : ¬ ((l.length : Int) + 1 < 0) := by lia
      have h3 : max (0 : Int) ((l.length : Int) + 1) = (l.length : Int) + 1 := by lia
      simp [Builtin.Str.strSliceIndices, h2, h3]
    have q := StrLaws.sliced_plain (sOf (x :: l)) (a := 1) (b := (sOf (x :: l)).length) (by rw [hn]; lia) (Nat.le_refl _)
    have z := StrLaws.strSliceIndices_plain (a := 1) (b := (sOf (x :: l)).length) (len := (sOf (x :: l)).length) (by rw [hn]; lia) (Nat.le_refl _)
    unfold Txt.slice
    rw [e, q]
    rw [if_neg (by rw [z, hn]; simp)]
    congr 1
    rw [hn]
    simp

noncomputable def sliceR (x y : AV) (σ : Store) : Res AV := match x with
  | .ref i => (match y with
    | .int k => (match σ[i]? with
      | some (.list l) => if 0 ≤ k ∧ l.length ≤ 100000 then .ok (.ref σ.length) (σ ++ [.list (l.take k.toNat)]) else .stuck
      | _ => .stuck)
    | _ => .stuck)
  | _ => .stuck
theorem sliceR_inv {tn : Bool} {x y : AV} {σ : Store} (h : (sliceR x y σ).good tn) : ∃ i j l, x = .ref i ∧ y = .int j ∧ σ[i]? = some (.list l) ∧ (0 ≤ j ∧ l.length ≤ 100000) ∧ sliceR x y σ = .ok (.ref σ.length) (σ ++ [.list (l.take j.toNat)]) := by
  cases x <;> first | exact h.elim | skip
  cases y <;> first | exact h.elim | skip
  rename_i i j
  cases q : σ[i]? with
  | none => simp only [sliceR, q] at h; exact h.elim
  | some o =>
    cases o <;> first | (simp only [sliceR, q] at h; exact h.elim) | skip
    rename_i l
    by_cases hk : 0 ≤ j ∧ l.length ≤ 100000
    · exact ⟨i, j, l, rfl, rfl, q, hk, by simp only [sliceR, q]; exact if_pos hk⟩
    · simp only [sliceR, q, if_neg hk] at h; exact h.elim
noncomputable def mSliceTo (a k : ME) : ME := fun ρ σ => (a ρ σ).bind fun x σ => (k ρ σ).bind fun y σ => sliceR x y σ
noncomputable def mRev (a : ME) : ME := fun ρ σ => (a ρ σ).bind fun x σ => match x with
  | .ref i => (match σ[i]? with
    | some (.list l) => if l.length ≤ 100000 then .ok (.ref σ.length) (σ ++ [.list l.reverse]) else .stuck
    | _ => .stuck)
  | _ => .stuck
noncomputable def plainSl (slice : Expr) : Prop := ∀ (o : Value) (a : Addr), subscripted slice false o (.ref a) = operate [.ref a, o] (getItem o (.ref a))

theorem sim_sliceTo {value up : Expr} {p pos : Pos} {a k : ME} (ha : SimE c n tn sc value a) (hk : SimE c n tn sc up k) :
    SimE c n tn sc (.Subscript value (.Slice none (some up) none p) pos) (mSliceTo a k) := by
  intro f g₀ ρ σ W s hc hf hs hg Q E hq hx
  refine Subscript_ (ha.bind (rel' := RV c) hc hf hs hg hq hx fun x σ₁ X W₁ s₁ e1 l1 G1 r1 hg1 hq1 he1 => ?_)
  refine wpAny_Slice (evalPart_none_step (evalPart_some_step (hk.bind (rel' := RV c) hc hf G1 hg1 hq1 he1 fun y σ₂ Y W₂ s₂ e2 l2 G2 r2 hg2 hq2 he2 => evalPart_none_step ?_)))
  clear hx he1 he2 hq hq1
  have r1 := r1.mono l2
  obtain ⟨ii, j, l, hx, hy, hl2, hj, hres⟩ := sliceR_inv hg2
  obtain ⟨u, rfl⟩ := r2.int_of hy
  obtain ⟨da, rfl, hi⟩ := r1.ref_of hx
  obtain ⟨g, m, G⟩ := G2
  obtain ⟨vs, k', _, rv, hga⟩ := G.list hc hl2 hi
  refine kba_turn (value' := .Name "x" p) (fun _ => rfl) ?_
  refine kms_slice_lit (vl := .none) (vu := .int j u) (lo := none) (hi := some j) G.F G.N ⟨_, hga, rfl, _, rfl⟩ .none (.int _ _) rfl (fun D h' F' N' hlt => ?_) rfl (fun _ => rfl) (by rw [List.size_toArray, ← rv.length]; have := sizeLine_big; lia)
  have e : kms_pick vs.toArray.toList none (some j) = vs.take j.toNat := by
    unfold kms_pick kms_lo kms_hi
    simp only [show ¬ j < 0 from by lia, if_false, List.drop_zero, Nat.sub_zero]
    rw [List.take_eq_take_min]
    simp
  rw [e] at N'
  exact hq2 _ _ _ ⟨W₂.φ ++ [D], _⟩ _ hres (.alloc hlt) (G.alloc F' N' hlt (.list (rv.take _)) _) (.ref (by
    show (W₂.φ ++ [D])[σ₂.length]? = some D
    rw [List.getElem?_append_right (by rw [G.S.len]; exact Nat.le_refl _), G.S.len, Nat.sub_self]; rfl))
theorem phi_last {W : Wd} {σ : Store} (h : W.φ.length = σ.length) (D : Nat) : (W.φ ++ [D])[σ.length]? = some D := by
  rw [List.getElem?_append_right (by lia), h, Nat.sub_self]; rfl
theorem sim_rev {value : Expr} {q p pos : Pos} {a : ME} {k : Nat} (ha : SimE c n tn sc value a) {pos' : Pos} :
    SimE c n tn sc (.Subscript value (.Slice none none (some (.UnaryOp .USub (.Constant (.int 1) k q) p)) pos) pos') (mRev a) := by
  intro f g₀ ρ σ W s hc hf hs hg Q E hq hx
  refine Subscript_ (ha.bind_list (F := fun _ l σ => if l.length ≤ 100000 then Res.ok (AV.ref σ.length) (σ ++ [AO.list l.reverse]) else Res.stuck) (rel' := RV c) hc hf hs hg hq hx fun i l a σ₁ W₁ s₁ hl2 hi l1 G1 hg1 hq1 _ => ?_)
  refine wpAny_Slice (evalPart_none_step (evalPart_none_step (evalPart_some_step (UnaryOp_ (wpAny_Constant_int (neg_int ?_))))))
  have hj := good_if hg1
  obtain ⟨g, m, G⟩ := G1.toks (s₁.toks + 1 + 1)
  obtain ⟨vs, k', _, rv, hga⟩ := G.list hc hl2 hi
  refine kba_turn (value' := .Name "x" q) (fun _ => rfl) ?_
  refine krv_lit (vk := .int (-1) _) (s := { s₁ with toks := s₁.toks + 1 + 1 }) G.F G.N ⟨_, hga, rfl, _, rfl⟩ (.int _ _) rfl (fun D h' F' N' hlt => ?_) rfl (fun _ => rfl) (by rw [List.size_toArray, ← rv.length]; exact le_big hj)
  exact hq1 _ _ _ ⟨W₁.φ ++ [D], _⟩ _ (if_pos hj) (.alloc hlt) (G.alloc F' N' hlt (.list (by simpa using rv.rev)) _) (.ref (phi_last G.S.len D))
noncomputable def oStr1 : Store → AV → Option AV
  | _, .str l => if l.length ≤ 100000 then some (.str (l.drop 1)) else none
  | _, _ => none
theorem oStr1_inv {σ : Store} {x v : AV} (e : oStr1 σ x = some v) : ∃ l, x = .str l ∧ l.length ≤ 100000 ∧ v = .str (l.drop 1) := by
  cases x <;> first | (cases e; done) | skip
  obtain ⟨h, q⟩ := ite_inv e
  exact ⟨_, rfl, h, q.symm⟩
theorem sim_str1 {value : Expr} {q p pos : Pos} {a : ME} {k : Nat} (hp : plainSl (.Slice (some (.Constant (.int 1) k q)) none none p)) (ha : SimE c n tn sc value a) :
    SimE c n tn sc (.Subscript value (.Slice (some (.Constant (.int 1) k q)) none none p) pos) (mOp1 oStr1 a) := by
  intro f g₀ ρ σ W s hc hf hs hg Q E hq hx
  refine Subscript_ (ha.bind (rel' := RV c) hc hf hs hg hq hx fun x σ₁ X W₁ s₁ e1 l1 G1 r1 hg1 hq1 he1 => ?_)
  refine wpAny_Slice (evalPart_some_step (wpAny_Constant_int (evalPart_none_step (evalPart_none_step ?_))))
  obtain ⟨v, hv⟩ := good_ofO hg1
  rw [hv] at hq1
  obtain ⟨l, rfl, hl, rfl⟩ := oStr1_inv hv
  obtain ⟨t, rfl⟩ := r1.str_inv
  obtain ⟨g, m, G⟩ := G1.toks (s₁.toks + 1)
  refine slice_strN_sn (s := { s₁ with toks := s₁.toks + 1 }) G.F G.N (fun h' t' k F' N' => ?_) (hp _ _) (letGo_str _ _ _) (by rw [sOf_len]; exact le_big hl)
  rw [slice1]
  exact hq1 _ _ _ _ _ rfl (.refl _) (G.heap F' N' _) (.str _ _)
end

/- S5 -/

/-! ## instances -/
structure AttrOk (c : Cx) (C : Nat) (name : Str) : Prop where
  pg : plainGet c.K C name = true
  hd : hasDictIn c.K C = true
  at_ : ∃ attr, findIn c.K (.ref C) name = some attr ∧ noGet c.K attr = true
noncomputable def handed : AV → Bool
  | .lit _ => false
  | _ => true
noncomputable def fld (fs : List (Str × AV)) (name : Str) : Option AV := (fs.find? fun p => p.1 == name).map (·.2)
noncomputable def putF (name : Str) (v : AV) : List (Str × AV) → List (Str × AV)
  | [] => [(name, v)]
  | p :: r => if p.1 == name then (p.1, v) :: r else p :: putF name v r
section
variable {c : Cx} {W : Wd}
theorem getL_cons (name x : Str) (h : Int) (t : Tok) (V : Value) (es : List DictEntry) : getL name (⟨h, .str x t, V⟩ :: es) = if x == name then some (some V) else getL name es := by
  unfold getL
  rw [List.find?_cons, show (⟨h, .str x t, V⟩ : DictEntry).key.isStr name = (x == name) from rfl, List.any_cons, show (⟨h, .str x t, V⟩ : DictEntry).refKey = false from rfl, Bool.false_or]
  cases x == name <;> rfl
theorem fld_cons (name x : Str) (v : AV) (fs : List (Str × AV)) : fld ((x, v) :: fs) name = if x == name then some v else fld fs name := by
  unfold fld
  rw [List.find?_cons]
  dsimp only
  cases x == name <;> rfl
noncomputable def FldIs (c : Cx) (W : Wd) (o : Option AV) (q : Option (Option Value)) : Prop := match o with
  | some v => ∃ V, q = some (some V) ∧ RV c W v V
  | none => q = some none
theorem RE.get {fs : List (Str × AV)} {es : List DictEntry} (r : RE c W fs es) (name : Str) : FldIs c W (fld fs name) (getL name es) := by
  induction r with
  | nil => exact rfl
  | @cons x v l V h t es hv hs ih =>
    rw [fld_cons, getL_cons]
    cases q : x == name with
    | true => exact ⟨V, rfl, hv⟩
    | false => exact ih
theorem RE.put  {fs : List (Str × AV)} {es : List DictEntry} (q : RE c W fs es) (name : Str) {v : AV} {V : Value} (hsh : Int) (tk : Tok) (r : RV c W v V) : RE c W (putF name v fs) (putL name hsh (.str name tk) V es) := by
  induction q with
  | nil => exact .cons r .nil
  | @cons x _ _ _ _ t _ hv hs ih =>
    unfold putF putL
    have e : (Value.str x t).isStr name = (x == name) := rfl
    dsimp only
    rw [e]
    cases q : x == name with
    | true => exact .cons r hs
    | false => exact .cons hv ih
theorem RE.length {fs : List (Str × AV)} {es : List DictEntry} (r : RE c W fs es) : es.length = fs.length :=
  RE.rec (motive := fun fs es _ => es.length = fs.length) rfl (fun _ _ ih => congrArg (· + 1) ih) r
end

section
variable {c : Cx} {n : Nat} {tn : Bool} {sc : Scope}
theorem StG.inst (hc : c.Ok) {f : Fm} {g₀ g : Heap} {names : List (Str × NameKind)} {ρ : Loc} {σ : Store} {W : Wd} {s : Shared} {m : Str → Option Value} (G : StG c f tn g₀ names ρ σ W s g m) {i a C d : Nat} {fs : List (Str × AV)}
    (h : σ[i]? = some (.inst C d)) (hd : σ[d]? = some (.ns fs)) (ha : W.φ[i]? = some a) : ∃ dx es k, W.φ[d]? = some dx ∧ (dx, dictOf es k) ∈ W.news ∧ RE c W fs es ∧ PySem.W.InstAt s.heap a (instObj C dx) C (some (dictOf es k)) := by
  obtain ⟨a', ob, h1, h2, h3⟩ := G.S.obj i _ h
  rw [ha] at h1
  cases h1
  obtain ⟨dx, hdx, rfl⟩ := h3.inst_inv
  obtain ⟨d', ob', h4, h5, h6⟩ := G.S.obj d _ hd
  rw [hdx] at h4
  cases h4
  obtain ⟨es, n, rfl, he⟩ := h6.ns_inv
  exact ⟨_, _, _, hdx, h5, he, ⟨(G.N _ h2).1, rfl, rfl, (G.N _ h5).1⟩⟩

noncomputable def getF (C : Nat) (name : Str) (σ : Store) (x : AV) : Option AV := match x with
  | .ref i => (match σ[i]? with
    | some (.inst C' d) => if C' = C then (match σ[d]? with
      | some (.ns fs) => (match fld fs name with
        | some v => if handed v then some v else none
        | none => none)
      | _ => none) else none
    | _ => none)
  | _ => none
theorem getF_inv {C : Nat} {name : Str} {σ : Store} {x v : AV} (e : getF C name σ x = some v) : ∃ i d fs, x = .ref i ∧ σ[i]? = some (.inst C d) ∧ σ[d]? = some (.ns fs) ∧ fld fs name = some v ∧ handed v = true := by
  unfold getF at e
  split at e <;> first | (cases e; done) | skip
  split at e <;> first | (cases e; done) | skip
  split at e <;> first | (cases e; done) | skip
  split at e <;> first | (cases e; done) | skip
  split at e <;> first | (cases e; done) | skip
  split at e <;> first | (cases e; done) | skip
  cases e
  subst_vars
  exact ⟨_, _, _, rfl, by assumption, by assumption, by assumption, by assumption⟩
theorem handed_V {W : Wd} {v : AV} {V : Value} (r : RV c W v V) (h : handed v = true) : handedIn V = true := by
  have i := r.inv
  cases v <;> first | (cases h; done) | skip
  · cases (show V = _ from i); rfl
  · cases (show V = _ from i); rfl
  · obtain ⟨t, rfl⟩ := i; rfl
  · obtain ⟨t, rfl⟩ := i; rfl
  · obtain ⟨a, _, _, rfl, _⟩ := i; rfl
  · obtain ⟨a, rfl, _⟩ := i; rfl
theorem p_attr {C : Nat} {name : Str} (h : AttrOk c C name) : Pure1 c (fun o => getAttr o name true) (getF C name) (RV c) := by
  intro n sc f tn g₀ names ρ σ W s hc hf hs x X v hx e Q E hq
  obtain ⟨g, m, G⟩ := hs
  obtain ⟨i, d, fs, hxi, h1, h2, h3, h4⟩ := getF_inv e
  obtain ⟨a, rfl, hi⟩ := hx.ref_of hxi
  obtain ⟨dx, es, k, q1, q2, q3, I⟩ := G.inst hc h1 h2 hi
  have q4 := q3.get name
  rw [h3] at q4
  obtain ⟨V, q5, q6⟩ := q4
  obtain ⟨attr, a1, a2⟩ := h.at_
  exact get_own G.F (G.X hc) I h.pg h.hd a1 a2 q5 (handed_V q6 h4) (hq V W _ (.refl _) (G.toks _) q6)
noncomputable def mAttr (C : Nat) (name : Str) (a : ME) : ME := mOp1 (getF C name) a
theorem sim_attr {o : Expr} {name : Str} {pos : Pos} {C : Nat} {a : ME} (h : AttrOk c C name) (ha : SimE c n tn sc o a)
    (he : ∀ f : Fm, eval (.Attribute o name pos) (f.env sc) = (do let ov ← eval o (f.env sc); standAt pos.atName; let r ← holding [ov] (getAttr ov name true); letTemporaryGo o ov r; pure r)) : SimE c n tn sc (.Attribute o name pos) (mAttr C name a) :=
  sim_op1 ha (p_attr h) fun f s Q E z => Attribute_any_ z (he f)

/-! ## calls -/
noncomputable def KeepV (c : Cx) (V : Value) : Prop := ∀ h, c.K.In h → ∃ k, (k = Keeper.frame ∨ k = Keeper.machine ∨ k = Keeper.boundFrame) ∧ Looks c.M h (keeperOf V) k
theorem keep_blt (id : String) : KeepV c (.builtin id) := fun h _ => ⟨.machine, .inr (.inl rfl), fun A Q E s _ q => wpAny_pure q⟩
theorem keep_type (id : String) : KeepV c (.type id) := fun h _ => ⟨.machine, .inr (.inl rfl), fun A Q E s _ q => wpAny_pure q⟩
theorem keep_fn {a : Nat} (h : keepIn c.K (.ref a) = true) : KeepV c (.ref a) := keeps_K h

noncomputable def FnV (c : Cx) (k : Nat) (tn : Bool) (V : Value) (F : List AV → Store → Res AV) : Prop :=
  ∀ (sc : Scope) (f : Fm) (g₀ : Heap) (ρ : Loc) (σ : Store) (W : Wd) (s : Shared), c.Ok → FOk k sc f → St c f tn g₀ sc.names ρ σ W s → ∀ (as : List AV) (Vs : List Value), RVs c W as Vs → (F as σ).good tn →
    ∀ (Q E : Value → Shared → Prop),
      (∀ v σ' V' W' s', F as σ = .ok v σ' → W.Le W' → St c f tn g₀ sc.names ρ σ' W' s' → RV c W' v V' → Q V' s') →
      (∀ C σ' e W' s', F as σ = .exc C σ' → W.Le W' → Fly c f sc g₀ σ' W' C e s' → E (.ref e) s') →
      wpAny c.M (f.A sc) (call V Vs) Q E s
theorem FnV.lift {k : Nat} {V : Value} {F : List AV → Store → Res AV} (h : FnV c k false V F) : FnV c k true V F := by
  intro sc f g₀ ρ σ W s hc hf hs as Vs r hg Q E hq he
  obtain ⟨g, m₁, G⟩ := hs
  refine h sc f g ρ σ W s hc hf G.down.st as Vs r hg.down Q E (fun v σ' V W' s' e l G' r => hq v σ' V W' s' e l (G.up G') r) fun C σ' e W' s' q _ _ => ?_
  rw [q] at hg
  cases hg

noncomputable def mCall (F : List AV → Store → Res AV) (ms : List ME) : ME := fun ρ σ => (mArgs ms ρ σ).bind F
theorem evalArgs_any {M : Model} {A : Around} {E : Value → Shared → Prop} {s : Shared} {V : Value} {pos : Pos} {env : Env} {es : List Expr} (hn : es.all notStar = true) {Q : Args → Shared → Prop} (h : wpAny M A (spliced (backTo pos (starEach es env))) (fun vs s' => Q ⟨vs, []⟩ s') E s) :
    wpAny M A (evalArgs V true (backTo pos (starEach es env)) []) Q E s := by
  cases es with
  | nil =>
    unfold evalArgs
    show wpAny M A (spliced [] >>= _) Q E s
    refine wpAny_bind (wpAny_mono h (fun vs s' q => wpAny_bind (wpAny_pure ?_)) fun _ _ z => z)
    refine wpAny_holding ?_
    exact wpAny_bind (wpAny_pure (wpAny_bind (wpAny_pure (wpAny_pure q))))
  | cons e es =>
    rw [List.all_cons, Bool.and_eq_true] at hn
    rw [starEach_cons hn.1] at h ⊢
    exact evalArgs_plain h
theorem callWith_any {A : Around} {E : Value → Shared → Prop} {s : Shared} {V : Value} {first : List Value} {pos : Pos} {env : Env} {es : List Expr} (hn : es.all notStar = true) (hk : KeepV c V) {Q : Value → Shared → Prop}
    (h : wpAny c.M A (spliced (backTo pos (starEach es env))) (fun vs s₁ => c.K.In s₁.heap ∧ wpAny c.M A (call V (first ++ vs)) Q E s₁) E s) :
    wpAny c.M A (callWith pos V first (backTo pos (starEach es env)) []) Q E s :=
  callWith_of (P := c.K.In) (by rw [any_star hn]; rfl) hk (evalArgs_any hn h)
theorem St.In {f : Fm} {g₀ : Heap} {names : List (Str × NameKind)} {ρ : Loc} {σ : Store} {W : Wd} {s : Shared} (G : St c f tn g₀ names ρ σ W s) (hc : c.Ok) : c.K.In s.heap := let ⟨_, _, G⟩ := G; G.Xs hc

theorem sim_call {x : Str} {np pos : Pos} {es : List Expr} {ms : List ME} {V : Value} {F : List AV → Store → Res AV} {k : Nat} (hn : es.all notStar = true) (hV : SimE c n tn sc (.Name x np) (mVal (.lit V))) (hK : KeepV c V) (hF : FnV c k tn V F) (hk : k ≤ n) (ha : SimL c n tn sc pos es ms) :
    SimE c n tn sc (.Call (.Name x np) es [] pos) (mCall F ms) := by
  intro f g₀ ρ σ W s hc hf hs hg Q E hq hx
  refine wpAny_Call_ofName (hV f g₀ ρ σ W s hc hf hs trivial _ E (fun v σ₁ V₁ W₁ s₁ e1 l1 G1 r1 => ?_) fun _ _ _ _ _ q _ _ => nomatch q)
  cases e1
  cases r1.lit_inv
  refine callWith_any hn hK (ha.bind (rel' := RV c) hc hf G1 hg (fun v σ' V' W' s' e l G r => hq v σ' V' W' s' e (l1.trans l) G r) (fun C σ' e W' s' q l F => hx C σ' e W' s' q (l1.trans l) F) fun l σ₂ vs W₂ s₂ e2 l2 G2 r2 hg2 hq2 he2 => ⟨G2.In hc, ?_⟩)
  exact hF sc f g₀ ρ σ₂ W₂ s₂ hc (hf.mono hk) G2 l vs r2 hg2 Q E hq2 he2

/-! ## methods -/
noncomputable def MethEq (sc : Scope) (o : Expr) (name : Str) (apos pos : Pos) (es : List Expr) : Prop :=
  ∀ f : Fm, ∃ pl : Sem Bool, eval (.Call (.Attribute o name apos) es [] pos) (f.env sc) = (do
          let ov ← eval o (f.env sc)
          standAt apos.atName
          let __x ← holding [ov] (getMethod ov name pl)
          match __x with
            | (fn, first) => callWith pos fn first (backTo pos (starEach es (f.env sc))) [])
structure MethOk (c : Cx) (C : Nat) (name : Str) (a : Nat) : Prop where
  pg : plainGet c.K C name = true
  fd : findIn c.K (.ref C) name = some (some (.ref a))
  fn : isFn c.K (.ref a) = true
  keep : keepIn c.K (.ref a) = true
noncomputable def isInst (C : Nat) (name : Str) (σ : Store) (x : AV) : Bool := match x with
  | .ref i => (match σ[i]? with
    | some (.inst C' d) => C' == C && (match σ[d]? with
      | some (.ns fs) => (fld fs name).isNone
      | _ => false)
    | _ => false)
  | _ => false
noncomputable def mMeth (C : Nat) (name : Str) (F : List AV → Store → Res AV) (mo : ME) (ms : List ME) : ME := fun ρ σ => (mo ρ σ).bind fun x σ => if isInst C name σ x then (mArgs ms ρ σ).bind fun l σ => F (x :: l) σ else .stuck
theorem isInst_inv {C : Nat} {name : Str} {σ : Store} {x : AV} (e : isInst C name σ x = true) : ∃ i d fs, x = .ref i ∧ σ[i]? = some (.inst C d) ∧ σ[d]? = some (.ns fs) ∧ fld fs name = none := by
  unfold isInst at e
  split at e <;> first | (cases e; done) | skip
  split at e <;> first | (cases e; done) | skip
  rw [Bool.and_eq_true] at e
  obtain ⟨e, h2⟩ := e
  cases beq_iff_eq.mp e
  split at h2 <;> first | (cases h2; done) | skip
  exact ⟨_, _, _, rfl, by assumption, by assumption, Option.isNone_iff_eq_none.mp h2⟩
theorem sim_meth {o : Expr} {name : Str} {apos pos : Pos} {es : List Expr} {ms : List ME} {mo : ME} {C a k : Nat} {F : List AV → Store → Res AV} (he : MethEq sc o name apos pos es) (hn : es.all notStar = true) (hm : MethOk c C name a) (hF : FnV c k tn (.ref a) F) (hk : k ≤ n)
    (ho : SimE c n tn sc o mo) (ha : SimL c n tn sc pos es ms) : SimE c n tn sc (.Call (.Attribute o name apos) es [] pos) (mMeth C name F mo ms) := by
  intro f g₀ ρ σ W s hc hf hs hg Q E hq hx
  obtain ⟨pl, hpl⟩ := he f
  refine MethodCall_ (pl := pl) (ho.bind (rel' := RV c) hc hf hs hg hq hx fun x σ₁ X W₁ s₁ e1 l1 G1 r1 hg1 hq1 he1 => ?_) hpl
  have hi := good_if hg1
  rw [if_pos hi] at hg1 hq1 he1
  obtain ⟨i, d, fs, rfl, h1, h3, h2⟩ := isInst_inv hi
  obtain ⟨a, rfl, hia⟩ := r1.ref_inv
  obtain ⟨g, m, G⟩ := G1
  obtain ⟨dx, es', k', q1, q2, q3, I⟩ := G.inst hc h1 h3 hia
  have q4 := q3.get name
  rw [h2] at q4
  refine method_inst G.F (G.X hc) I hm.pg hm.fd hm.fn q4 ?_
  refine callWith_any hn (keep_fn hm.keep) (ha.bind (rel' := RV c) hc hf G.st hg1 hq1 he1 fun l σ₂ vs W₂ s₂ e2 l2 G2 r2 hg2 hq2 he2 => ⟨G2.In hc, ?_⟩)
  exact hF sc f g₀ ρ σ₂ W₂ s₂ hc (hf.mono hk) G2 _ _ (.cons (.ref (l2.get hia)) r2) hg2 Q E hq2 he2

/-- append: the item is reckoned behind the look at the list -/
noncomputable def isList (σ : Store) (x : AV) : Bool := match x with
  | .ref i => (match σ[i]? with
    | some (.list _) => true
    | _ => false)
  | _ => false
noncomputable def mAppend (mo me : ME) : ME := fun ρ σ => (mo ρ σ).bind fun x σ => if isList σ x then (me ρ σ).bind fun v σ => match x with
  | .ref i => (match σ[i]? with
    | some (.list l) => if l.length ≤ 100000 then .ok .none (σ.set i (.list (l ++ [v]))) else .stuck
    | _ => .stuck)
  | _ => .stuck else .stuck
theorem list_ne_tup : (Value.type "list") ≠ .type "tuple" := by intro q; injection q with q; revert q; decide
theorem isList_get (hc : c.Ok) {f : Fm} {g₀ g : Heap} {names : List (Str × NameKind)} {ρ : Loc} {σ : Store} {W : Wd} {s : Shared} {m : Str → Option Value} (G : StG c f tn g₀ names ρ σ W s g m) {x : AV} {X : Value} (h : isList σ x = true) (r : RV c W x X) :
    ∃ i a vs k, x = .ref i ∧ X = .ref a ∧ W.φ[i]? = some a ∧ (a, PySem.W.listOf vs k) ∈ W.news := by
  unfold isList at h
  split at h <;> first | (cases h; done) | skip
  split at h <;> first | (cases h; done) | skip
  rename_i l hl
  obtain ⟨a, rfl, ha⟩ := r.ref_inv
  obtain ⟨vs, k, hn, _⟩ := G.list hc hl ha
  exact ⟨_, _, _, k, rfl, rfl, ha, hn⟩
theorem push_arr (ws : List Value) (Y : Value) : ws.toArray.push Y = (ws ++ [Y]).toArray := by simp
theorem sim_append {o e : Expr} {apos pos : Pos} {mo me : ME} (he : MethEq sc o "append" apos pos [e]) (hn : notStar e = true) (ho : SimE c n tn sc o mo) (ha : SimE c n tn sc e me) : SimE c n tn sc (.Call (.Attribute o "append" apos) [e] [] pos) (mAppend mo me) := by
  intro f g₀ ρ σ W s hc hf hs hg Q E hq hx
  obtain ⟨pl, hpl⟩ := he f
  refine MethodCall_ (pl := pl) (ho.bind (rel' := RV c) hc hf hs hg hq hx fun x σ₁ X W₁ s₁ e1 l1 G1 r1 hg1 hq1 he1 => ?_) hpl
  have hi := good_if hg1
  rw [if_pos hi] at hg1 hq1 he1
  obtain ⟨g, m, G⟩ := G1
  obtain ⟨i, a, vs, k, rfl, rfl, hia, hmem⟩ := isList_get hc G hi r1
  refine kl_method G.N hmem PySem.slot_list_append PySem.F.type_list_append ?_
  refine callWith_any (by simp [hn]) (keep_blt _) ?_
  rw [starEach_cons hn]
  refine spliced_cons (ha.bind (rel' := RV c) hc hf G.st hg1 hq1 he1 fun v σ₂ Y W₂ s₂ e2 l2 G2 r2 hg2 hq2 he2 => ?_)
  refine spliced_nil ⟨G2.In hc, ?_⟩
  obtain ⟨_, l, hx, hl, e⟩ := good_list (σ := σ₂) (x := AV.ref i) (F := fun i l σ => if l.length ≤ 100000 then Res.ok AV.none (σ.set i (AO.list (l ++ [v]))) else Res.stuck) hg2
  cases hx
  have hlen := good_if (Eq.mp (congrArg (Res.good tn) e) hg2)
  obtain ⟨g, m, G⟩ := G2
  obtain ⟨ws, k2, hm2, rl, hg3⟩ := G.list hc hl (l2.get hia)
  obtain ⟨N', U⟩ := turn_news G.N hm2 (PySem.W.listOf (ws.toArray.push Y) (k2 + 1))
  refine append_K G.F N' U (fun h' F' N'' => ?_) (by rw [List.size_toArray, ← rl.length]; exact le_big hlen)
  exact hq2 _ _ _ _ _ (e.trans (if_pos hlen)) (.turn (l2.get hia) _) (G.turn (l2.get hia) (.list (l := l ++ [v]) (vs := ws ++ [Y]) (n := k2 + 1) (rl.append (.cons r2 .nil))) F' (push_arr ws Y ▸ N'') _) .none
noncomputable def mPop (mo : ME) : ME := fun ρ σ => (mo ρ σ).bind fun x σ => match x with
  | .ref i => (match σ[i]? with
    | some (.list l) => (match l.getLast? with
      | some v => if l.length ≤ 100000 then .ok v (σ.set i (.list l.dropLast)) else .stuck
      | none => .stuck)
    | _ => .stuck)
  | _ => .stuck
theorem RVs.last {W : Wd} {l : List AV} {vs : List Value} (h : RVs c W l vs) {v : AV} (e : l.getLast? = some v) : ∃ V, RV c W v V ∧ vs = vs.dropLast ++ [V] ∧ RVs c W l.dropLast vs.dropLast := by
  have hd : RVs c W l.dropLast vs.dropLast := by
    rw [List.dropLast_eq_take, List.dropLast_eq_take, h.length]
    exact h.take _
  have hne : vs ≠ [] := by
    rintro rfl
    cases h
    cases e
  rw [List.getLast?_eq_getElem?] at e
  obtain ⟨V, h1, h2⟩ := h.get e
  refine ⟨V, h2, ?_, hd⟩
  have h3 : vs.getLast? = some V := by rw [List.getLast?_eq_getElem?, ← h.length]; exact h1
  rw [List.getLast?_eq_some_getLast hne] at h3
  rw [← Option.some.inj h3]
  exact (List.dropLast_concat_getLast hne).symm
theorem pop_good {l : List AV} {F : AV → Res AV} (h : (match l.getLast? with | some v => if l.length ≤ 100000 then F v else Res.stuck | none => Res.stuck).good tn) : ∃ v, l.getLast? = some v ∧ l.length ≤ 100000 := by
  cases q : l.getLast? with
  | none => rw [q] at h; exact h.elim
  | some v => rw [q] at h; exact ⟨v, rfl, good_if h⟩
theorem sim_pop {o : Expr} {apos pos : Pos} {mo : ME} (he : MethEq sc o "pop" apos pos []) (ho : SimE c n tn sc o mo) : SimE c n tn sc (.Call (.Attribute o "pop" apos) [] [] pos) (mPop mo) := by
  intro f g₀ ρ σ W s hc hf hs hg Q E hq hx
  obtain ⟨pl, hpl⟩ := he f
  refine MethodCall_ (pl := pl) (ho.bind_list (F := fun i l σ => match l.getLast? with | some v => if l.length ≤ 100000 then Res.ok v (σ.set i (AO.list l.dropLast)) else Res.stuck | none => Res.stuck) (rel' := RV c) hc hf hs hg hq hx fun i l a σ₁ W₁ s₁ hl hia l1 G1 hg1 hq1 _ => ?_) hpl
  obtain ⟨v, hv, hlen⟩ := pop_good hg1
  obtain ⟨g, m, G⟩ := G1
  obtain ⟨ws, k2, hm2, rl, hg3⟩ := G.list hc hl hia
  refine kl_method G.N hm2 PySem.F.slot_list_pop PySem.F.type_list_pop ?_
  refine callWith_any (by rfl) (keep_blt _) (spliced_nil ⟨G.Xs hc, ?_⟩)
  obtain ⟨V, rv, hw, rd⟩ := rl.last hv
  obtain ⟨N', U⟩ := turn_news G.N hm2 (PySem.W.listOf ws.dropLast.toArray (k2 + 1))
  refine kl_pop G.F N' (p := ws.dropLast) (y := V) (by have := kpa_last V ws.dropLast; rw [← hw] at this; exact this) U (by rw [show ws.toArray.toList = ws from rfl, ← rl.length]; exact le_big hlen) fun h' F' N'' => ?_
  have le := Wd.Le.turn (W := W₁) hia (PySem.W.listOf ws.dropLast.toArray (k2 + 1))
  exact hq1 _ _ _ _ _ (by rw [hv]; exact if_pos hlen) le (G.turn hia (.list (n := k2 + 1) rd) F' N'' _) (rv.mono le)
end

/- S6 -/

inductive Fl where
  | next
  | ret (v : AV)
noncomputable abbrev MS := Loc → Store → Res (Fl × Loc)
inductive RFl (c : Cx) (W : Wd) : Fl → Flow → Prop
  | next : RFl c W .next .next
  | ret {v : AV} {V : Value} (h : RV c W v V) : RFl c W (.ret v) (.ret V)

noncomputable def SimS (c : Cx) (n : Nat) (tn : Bool) (sc : Scope) (t : Env → Sem Flow) (m : MS) : Prop :=
  ∀ (f : Fm) (g₀ : Heap) (ρ : Loc) (σ : Store) (W : Wd) (s : Shared), c.Ok → FOk n sc f → St c f tn g₀ sc.names ρ σ W s → (m ρ σ).good tn →
    ∀ (Q : Flow → Shared → Prop) (E : Value → Shared → Prop), PassesOwn c.M (f.A sc) (f.env sc) E →
      (∀ fl ρ' σ' F W' s', m ρ σ = .ok (fl, ρ') σ' → W.Le W' → St c f tn g₀ sc.names ρ' σ' W' s' → RFl c W' fl F → Q F s') →
      (∀ C σ' e W' s', m ρ σ = .exc C σ' → W.Le W' → Fly c f sc g₀ σ' W' C e s' → E (.ref e) s') →
      wpAny c.M (f.A sc) (t (f.env sc)) Q E s
noncomputable abbrev SimB (c : Cx) (n : Nat) (tn : Bool) (sc : Scope) (body : List Stmt) (m : MS) : Prop := SimS c n tn sc (execs body) m
noncomputable abbrev Sim1 (c : Cx) (n : Nat) (tn : Bool) (sc : Scope) (st : Stmt) (m : MS) : Prop := SimS c n tn sc (exec st) m

theorem SimS.lift {c : Cx} {n : Nat} {sc : Scope} {t : Env → Sem Flow} {m : MS} (h : SimS c n false sc t m) : SimS c n true sc t m := by
  intro f g₀ ρ σ W s hc hf hs hg Q E hE hq he
  obtain ⟨g, m₁, G⟩ := hs
  refine h f g ρ σ W s hc hf G.down.st hg.down Q E hE (fun fl ρ' σ' F W' s' e l G' r => hq fl ρ' σ' F W' s' e l (G.up G') r) fun C σ' e W' s' q _ _ => ?_
  rw [q] at hg
  cases hg

section
variable {c : Cx} {n : Nat} {tn : Bool} {sc : Scope}
noncomputable def mStuckS : MS := fun _ _ => .stuck
noncomputable def mStuck : ME := fun _ _ => .stuck
theorem sim_stuckS {t : Env → Sem Flow} : SimS c n tn sc t mStuckS := fun f g₀ ρ σ W s hc hf hs hg => hg.elim
theorem sim_stuck {e : Expr} : SimE c n tn sc e mStuck := fun f g₀ ρ σ W s hc hf hs hg => hg.elim

/-- from an expression into a statement -/
theorem SimX.bindS {α β : Type} {t : Env → Sem β} {rel : Wd → α → β → Prop} {m : Loc → Store → Res α} {k : α → Store → Res (Fl × Loc)}
    (h : SimX c n tn sc t rel m) {f : Fm} {g₀ : Heap} {ρ : Loc} {σ : Store} {W : Wd} {s : Shared} (hc : c.Ok) (hf : FOk n sc f) (hs : St c f tn g₀ sc.names ρ σ W s) (hg : ((m ρ σ).bind k).good tn)
    {Q : Flow → Shared → Prop} {E : Value → Shared → Prop} {P : β → Shared → Prop}
    (hq : ∀ fl ρ' σ' F W' s', ((m ρ σ).bind k) = .ok (fl, ρ') σ' → W.Le W' → St c f tn g₀ sc.names ρ' σ' W' s' → RFl c W' fl F → Q F s')
    (he : ∀ C σ' e W' s', ((m ρ σ).bind k) = .exc C σ' → W.Le W' → Fly c f sc g₀ σ' W' C e s' → E (.ref e) s')
    (next : ∀ v σ₁ V W₁ s₁, m ρ σ = .ok v σ₁ → W.Le W₁ → St c f tn g₀ sc.names ρ σ₁ W₁ s₁ → rel W₁ v V → (k v σ₁).good tn →
      (∀ fl ρ' σ' F W' s', k v σ₁ = .ok (fl, ρ') σ' → W₁.Le W' → St c f tn g₀ sc.names ρ' σ' W' s' → RFl c W' fl F → Q F s') →
      (∀ C σ' e W' s', k v σ₁ = .exc C σ' → W₁.Le W' → Fly c f sc g₀ σ' W' C e s' → E (.ref e) s') → P V s₁) :
    wpAny c.M (f.A sc) (t (f.env sc)) P E s := by
  refine h f g₀ ρ σ W s hc hf hs (Res.good_bind hg) _ _ (fun v σ₁ V W₁ s₁ e1 l1 G1 r1 => ?_) fun C σ' e W' s' e1 l1 F1 => he C σ' e W' s' (by rw [e1]; rfl) l1 F1
  rw [e1] at hg hq he
  exact next v σ₁ V W₁ s₁ e1 l1 G1 r1 hg (fun fl ρ' σ' F W' s' e2 l2 G2 r2 => hq fl ρ' σ' F W' s' e2 (l1.trans l2) G2 r2) fun C σ' e W' s' e2 l2 F2 => he C σ' e W' s' e2 (l1.trans l2) F2
/-- from a statement into another -/
theorem SimS.bindS {t : Env → Sem Flow} {m : MS} {k : Fl × Loc → Store → Res (Fl × Loc)}
    (h : SimS c n tn sc t m) {f : Fm} {g₀ : Heap} {ρ : Loc} {σ : Store} {W : Wd} {s : Shared} (hc : c.Ok) (hf : FOk n sc f) (hs : St c f tn g₀ sc.names ρ σ W s) (hg : ((m ρ σ).bind k).good tn)
    {Q : Flow → Shared → Prop} {E : Value → Shared → Prop} {P : Flow → Shared → Prop} (hE : PassesOwn c.M (f.A sc) (f.env sc) E)
    (hq : ∀ fl ρ' σ' F W' s', ((m ρ σ).bind k) = .ok (fl, ρ') σ' → W.Le W' → St c f tn g₀ sc.names ρ' σ' W' s' → RFl c W' fl F → Q F s')
    (he : ∀ C σ' e W' s', ((m ρ σ).bind k) = .exc C σ' → W.Le W' → Fly c f sc g₀ σ' W' C e s' → E (.ref e) s')
    (next : ∀ fl ρ₁ σ₁ F W₁ s₁, m ρ σ = .ok (fl, ρ₁) σ₁ → W.Le W₁ → St c f tn g₀ sc.names ρ₁ σ₁ W₁ s₁ → RFl c W₁ fl F → (k (fl, ρ₁) σ₁).good tn →
      (∀ fl' ρ' σ' F W' s', k (fl, ρ₁) σ₁ = .ok (fl', ρ') σ' → W₁.Le W' → St c f tn g₀ sc.names ρ' σ' W' s' → RFl c W' fl' F → Q F s') →
      (∀ C σ' e W' s', k (fl, ρ₁) σ₁ = .exc C σ' → W₁.Le W' → Fly c f sc g₀ σ' W' C e s' → E (.ref e) s') → P F s₁) :
    wpAny c.M (f.A sc) (t (f.env sc)) P E s := by
  refine h f g₀ ρ σ W s hc hf hs (Res.good_bind hg) _ _ hE (fun fl ρ₁ σ₁ F W₁ s₁ e1 l1 G1 r1 => ?_) fun C σ' e W' s' e1 l1 F1 => he C σ' e W' s' (by rw [e1]; rfl) l1 F1
  rw [e1] at hg hq he
  exact next fl ρ₁ σ₁ F W₁ s₁ e1 l1 G1 r1 hg (fun fl ρ' σ' F W' s' e2 l2 G2 r2 => hq fl ρ' σ' F W' s' e2 (l1.trans l2) G2 r2) fun C σ' e W' s' e2 l2 F2 => he C σ' e W' s' e2 (l1.trans l2) F2

noncomputable def mNil : MS := fun ρ σ => .ok (.next, ρ) σ
noncomputable def mSeq (a b : MS) : MS := fun ρ σ => (a ρ σ).bind fun x σ => match x with
  | (.next, ρ) => b ρ σ
  | (.ret v, ρ) => .ok (.ret v, ρ) σ
theorem simB_nil : SimB c n tn sc [] mNil := fun f g₀ ρ σ W s hc hf hs hg Q E hE hq he => wpAny_execs_nil (hq _ _ _ _ W s rfl (.refl _) hs .next)
theorem simB_cons {st : Stmt} {rest : List Stmt} {a b : MS} (ha : Sim1 c n tn sc st a) (hb : SimB c n tn sc rest b) : SimB c n tn sc (st :: rest) (mSeq a b) := by
  intro f g₀ ρ σ W s hc hf hs hg Q E hE hq he
  refine wpAny_execs_cons (ha.bindS hc hf hs hg hE hq he fun fl ρ₁ σ₁ F W₁ s₁ e1 l1 G1 r1 hg1 hq1 he1 => ?_)
  cases r1 with
  | next => exact hb f g₀ ρ₁ σ₁ W₁ s₁ hc hf G1 hg1 Q E hE hq1 he1
  | ret r => exact hq1 _ _ _ _ _ _ rfl (.refl _) G1 (.ret r)

noncomputable def mRet (m : ME) : MS := fun ρ σ => (m ρ σ).bind fun v σ => .ok (.ret v, ρ) σ
theorem sim_ret {e : Expr} {pos : Pos} {m : ME} (h : SimE c n tn sc e m) : Sim1 c n tn sc (.Return (some e) pos) (mRet m) := by
  intro f g₀ ρ σ W s hc hf hs hg Q E hE hq he
  exact wpAny_Return_some (h.bindS hc hf hs hg hq he fun v σ₁ V W₁ s₁ e1 l1 G1 r1 hg1 hq1 he1 => hq1 _ _ _ _ _ _ rfl (.refl _) G1 (.ret r1))
noncomputable def mIfS (t : ME) (a b : MS) : MS := fun ρ σ => (mTr t ρ σ).bind fun t σ => match t with | true => a ρ σ | false => b ρ σ
theorem sim_if {t : Expr} {body orelse : List Stmt} {pos : Pos} {mt : ME} {a b : MS} (ht : SimT c n tn sc t (mTr mt)) (ha : SimB c n tn sc body a) (hb : SimB c n tn sc orelse b) : Sim1 c n tn sc (.If t body orelse pos) (mIfS mt a b) := by
  intro f g₀ ρ σ W s hc hf hs hg Q E hE hq he
  refine wpAny_If (ht.bindS hc hf hs hg hq he fun v σ₁ V W₁ s₁ e1 l1 G1 r1 hg1 hq1 he1 => ?_)
  subst r1
  cases v with
  | true => exact ha f g₀ ρ σ₁ W₁ s₁ hc hf G1 hg1 Q E hE hq1 he1
  | false => exact hb f g₀ ρ σ₁ W₁ s₁ hc hf G1 hg1 Q E hE hq1 he1

/-- a call as a statement: it gives None -/
noncomputable def mExpr (m : ME) : MS := fun ρ σ => (m ρ σ).bind fun v σ => match v with
  | .none => .ok (.next, ρ) σ
  | _ => .stuck
theorem sim_expr {e : Expr} {pos : Pos} {m : ME} (h : SimE c n tn sc e m) (hi : ∀ f : Fm, interactive (f.env sc) = false) (hs' : ∀ f : Fm, swapsWith e none pos.line (f.env sc) = pure false) : Sim1 c n tn sc (.Expr e pos) (mExpr m) := by
  intro f g₀ ρ σ W s hc hf hs hg Q E hE hq he
  refine wpAny_Expr (h.bindS hc hf hs hg hq he fun v σ₁ V W₁ s₁ e1 l1 G1 r1 hg1 hq1 he1 => ?_) (hi f) (hs' f)
  cases good_none (F := fun σ => Res.ok (Fl.next, ρ) σ) hg1
  cases r1.none_inv
  exact hq1 _ _ _ _ _ _ rfl (.refl _) G1 .next

/-! ## stores -/
noncomputable def LocIdx (sc : Scope) (x : Str) (i : Nat) : Prop := sc.names[i]? = some (x, .local) ∧ ∀ f : Fm, (f.env sc).kindOf x = some .local
theorem names_inj {l : List (Str × NameKind)} (h : (l.map (·.1)).Nodup) {i j : Nat} {x : Str} {k k' : NameKind} (e1 : l[i]? = some (x, k)) (e2 : l[j]? = some (x, k')) : i = j := by
  have hp := List.pairwise_iff_getElem.mp h
  have a1 : (l.map (·.1))[i]? = some x := by rw [List.getElem?_map, e1]; rfl
  have a2 : (l.map (·.1))[j]? = some x := by rw [List.getElem?_map, e2]; rfl
  obtain ⟨p1, q1⟩ := List.getElem?_eq_some_iff.mp a1
  obtain ⟨p2, q2⟩ := List.getElem?_eq_some_iff.mp a2
  rcases Nat.lt_trichotomy i j with z | z | z
  · exact absurd (q1.trans q2.symm) (hp i j p1 p2 z)
  · exact z
  · exact absurd (q2.trans q1.symm) (hp j i p2 p1 z)
theorem st_set {f : Fm} {g₀ : Heap} {ρ : Loc} {σ : Store} {W : Wd} {s : Shared} (hf : FOk n sc f) (hs : St c f tn g₀ sc.names ρ σ W s) {x : Str} {i : Nat} (hi : LocIdx sc x i) {v : AV} {V : Value} (r : RV c W v V) {Q : Unit → Shared → Prop} {E : Value → Shared → Prop}
    (hq : ∀ s', St c f tn g₀ sc.names (ρ.set i (some v)) σ W s' → Q () s') : wpAny c.M (f.A sc) (storeName (f.env sc) x V) Q E s := by
  obtain ⟨g, m, G⟩ := hs
  refine storeX_L G.F G.N (fun h' F' N' => hq _ ⟨g, _, G.B, F', N', G.D, G.T, G.T0, ?_, G.S, G.e1, G.e2, G.e3⟩) hf.kind (hi.2 f)
  intro j y k v' e q
  by_cases hij : i = j
  · subst hij
    rw [hi.1] at e
    cases e
    have hlt := (List.getElem?_eq_some_iff.mp q).1
    rw [List.getElem?_set_self (by simpa using hlt)] at q
    cases q
    exact ⟨V, fun _ => if_pos rfl, (fun q => nomatch q), r⟩
  · rw [List.getElem?_set_ne hij] at q
    obtain ⟨V', h1, h1', h2⟩ := G.R j y k v' e q
    refine ⟨V', fun hk => (if_neg ?_).trans (h1 hk), h1', h2⟩
    rintro rfl
    exact hij (names_inj hf.nodup hi.1 e)

noncomputable def mSet (i : Nat) (m : ME) : MS := fun ρ σ => (m ρ σ).bind fun v σ => .ok (.next, ρ.set i (some v)) σ
theorem sim_set {x : Str} {pos' pos : Pos} {e : Expr} {i : Nat} {m : ME} (hi : LocIdx sc x i) (h : SimE c n tn sc e m) (hsw : ∀ f : Fm, swapsWith e (some (.Name x pos')) pos.line (f.env sc) = pure false) : Sim1 c n tn sc (.Assign [.Name x pos'] e pos) (mSet i m) := by
  intro f g₀ ρ σ W s hc hf hs hg Q E hE hq he
  refine wpAny_Assign_Name (h.bindS hc hf hs hg hq he fun v σ₁ V W₁ s₁ e1 l1 G1 r1 hg1 hq1 he1 => ?_) (hsw f)
  exact st_set hf G1 hi r1 fun s' G' => hq1 _ _ _ _ _ _ rfl (.refl _) G' .next

/-- several stores in order -/
noncomputable def setAll : List Nat → List AV → Loc → Loc
  | i :: is, v :: vs, ρ => setAll is vs (ρ.set i (some v))
  | _, _, ρ => ρ
inductive Stores (sc : Scope) (f : Fm) : List (Value → Sem Unit) → List Nat → Prop
  | nil : Stores sc f [] []
  | cons {t : Value → Sem Unit} {ts : List (Value → Sem Unit)} {i : Nat} {is : List Nat} {x : Str} (hi : LocIdx sc x i) (h : ∀ (M : Model) (V : Value) (Q : Unit → Shared → Prop) (E : Value → Shared → Prop) (s : Shared), wpAny M (f.A sc) (storeName (f.env sc) x V) Q E s → wpAny M (f.A sc) (t V) Q E s) (hs : Stores sc f ts is) : Stores sc f (t :: ts) (i :: is)
theorem Stores.name {f : Fm} {x : Str} {p : Pos} {ts : List (Value → Sem Unit)} {i : Nat} {is : List Nat} (hi : LocIdx sc x i) (h : Stores sc f ts is) : Stores sc f (assign (.Name x p) (f.env sc) :: ts) (i :: is) :=
  .cons hi (fun M V Q E s z => wpAny_assign_Name z) h
theorem Stores.bind {f : Fm} {x : Str} {ts : List (Value → Sem Unit)} {i : Nat} {is : List Nat} (hi : LocIdx sc x i) (h : Stores sc f ts is) : Stores sc f (bindName (f.env sc) x :: ts) (i :: is) :=
  .cons hi (fun M V Q E s z => wpAny_bindName z) h
theorem Stores.length {f : Fm} {ts : List (Value → Sem Unit)} {is : List Nat} (S : Stores sc f ts is) : ts.length = is.length :=
  Stores.rec (motive := fun ts is _ => ts.length = is.length) rfl (fun _ _ _ ih => congrArg (· + 1) ih) S
theorem st_setAll {f : Fm} {g₀ : Heap} {σ : Store} {W : Wd} (hf : FOk n sc f) {ts : List (Value → Sem Unit)} {is : List Nat} (S : Stores sc f ts is) : ∀ {l : List AV} {vs : List Value}, RVs c W l vs → ∀ {ρ : Loc} {s : Shared}, St c f tn g₀ sc.names ρ σ W s →
    ∀ {Q : Unit → Shared → Prop} {E : Value → Shared → Prop}, (∀ s', St c f tn g₀ sc.names (setAll is l ρ) σ W s' → Q () s') → wpAny c.M (f.A sc) (assignInOrder ts vs) Q E s := by
  induction S with
  | nil =>
    intro l vs r ρ s hs Q E hq
    exact wpAny_pure (hq s (by simpa [setAll] using hs))
  | cons hi h hr ih =>
    intro l vs r
    cases l with
    | nil =>
      intro ρ s hs Q E hq
      cases r.nil_of
      exact wpAny_pure (hq s hs)
    | cons v l =>
      intro ρ s hs Q E hq
      obtain ⟨V, vs, rfl, rv, rvs⟩ := r.cons_inv
      unfold assignInOrder
      exact wpAny_bind (wpAny_holding (h _ _ _ _ _ (st_set hf hs hi rv fun s' G' => ih rvs G' hq)))

noncomputable def mSetTup (is : List Nat) (m : ME) : MS := fun ρ σ => (m ρ σ).bind fun v σ => match v with
  | .tup l => if l.length = is.length then .ok (.next, setAll is l ρ) σ else .stuck
  | _ => .stuck
structure TupTgt (sc : Scope) (elts : List Expr) (is : List Nat) : Prop where
  st : ∀ f : Fm, Stores sc f ((assignEach elts (f.env sc)).map (·.2)) is
  star : ∀ f : Fm, (assignEach elts (f.env sc)).findIdx? (·.1) = none
theorem assign_tup {f : Fm} {g₀ : Heap} {ρ : Loc} {σ : Store} {W : Wd} {s : Shared} (hc : c.Ok) (hf : FOk n sc f) (hs : St c f tn g₀ sc.names ρ σ W s) {elts : List Expr} {k : Nat} {tp : Pos} {is : List Nat} (ht : TupTgt sc elts is) {l : List AV} {a : Addr} {vs : List Value} {j : Nat}
    (ha : AtO c W a (tupO vs j)) (hl : RVs c W l vs) (hlen : l.length = is.length) {Q : Unit → Shared → Prop} {E : Value → Shared → Prop} (hq : ∀ s', St c f tn g₀ sc.names (setAll is l ρ) σ W s' → Q () s') :
    wpAny c.M (f.A sc) (assign (.Tuple elts k tp) (f.env sc) (.ref a)) Q E s := by
  obtain ⟨g, m, G⟩ := hs
  refine unpackN_ G.F G.N (items := vs.toArray) ⟨_, G.at hc ha, rfl, _, rfl⟩ hf.handled ?_ (ht.star f) fun h' F' N' => ?_
  · have := (ht.st f).length
    rw [List.length_map] at this
    rw [this, List.size_toArray, ← hl.length, hlen]
  · exact st_setAll hf (ht.st f) hl (G.heap F' N' s.toks) hq
theorem sim_setTup {elts : List Expr} {k : Nat} {tp pos : Pos} {e : Expr} {is : List Nat} {m : ME} (ht : TupTgt sc elts is) (h : SimE c n tn sc e m)
    (h1 : ∀ f : Fm, swapsWithSole [.Tuple elts k tp] e pos.line (f.env sc) = pure false) (h2 : ∀ f : Fm, swappedStores [.Tuple elts k tp] e (f.env sc) = pure none) : Sim1 c n tn sc (.Assign [.Tuple elts k tp] e pos) (mSetTup is m) := by
  intro f g₀ ρ σ W s hc hf hs hg Q E hE hq he
  refine Assign_Tuple (h.bindS hc hf hs hg hq he fun v σ₁ V W₁ s₁ e1 l1 G1 r1 hg1 hq1 he1 => ?_) (h1 f) (h2 f)
  obtain ⟨l, rfl⟩ := good_tup (F := fun l σ => if l.length = is.length then Res.ok (Fl.next, setAll is l ρ) σ else Res.stuck) hg1
  obtain ⟨a, vs, j, rfl, ha, hl⟩ := r1.tup_inv
  have hlen := good_if hg1
  exact assign_tup hc hf G1 ht ha hl hlen fun s' G' => hq1 _ _ _ _ _ _ (if_pos hlen) (.refl _) G' .next
noncomputable def mSetTupR (is : List Nat) (m : ME) : MS := fun ρ σ => (m ρ σ).bind fun v σ => match v with
  | .tup l => if l.length = is.length then .ok (.next, setAll is l.reverse ρ) σ else .stuck
  | _ => .stuck
theorem sim_setTupR {elts : List Expr} {k : Nat} {tp pos : Pos} {e : Expr} {is : List Nat} {m : ME} {names : List Str} (ht : ∀ f : Fm, Stores sc f (names.reverse.map fun x => bindName (f.env sc) x) is) (h : SimE c n tn sc e m)
    (h1 : ∀ f : Fm, swapsWithSole [.Tuple elts k tp] e pos.line (f.env sc) = pure false) (h2 : ∀ f : Fm, swappedStores [.Tuple elts k tp] e (f.env sc) = pure (some names)) : Sim1 c n tn sc (.Assign [.Tuple elts k tp] e pos) (mSetTupR is m) := by
  intro f g₀ ρ σ W s hc hf hs hg Q E hE hq he
  refine Assign_Tuple_swapped (h.bindS hc hf hs hg hq he fun v σ₁ V W₁ s₁ e1 l1 G1 r1 hg1 hq1 he1 => ?_) (h1 f) (h2 f)
  obtain ⟨l, rfl⟩ := good_tup (F := fun l σ => if l.length = is.length then Res.ok (Fl.next, setAll is l.reverse ρ) σ else Res.stuck) hg1
  obtain ⟨a, vs, j, rfl, ha, hl⟩ := r1.tup_inv
  have hlen := good_if hg1
  obtain ⟨g, m, G⟩ := G1
  refine unpackItemsN_ G.F G.N ⟨_, G.at hc ha, rfl, _, rfl⟩ hf.handled ?_ fun h' F' N' => ?_
  · have := (ht f).length
    rw [List.length_map, List.length_reverse] at this
    rw [this, List.size_toArray, ← hl.length, hlen]
  · exact st_setAll hf (ht f) hl.rev (G.heap F' N' s₁.toks) fun s' G' => hq1 _ _ _ _ _ _ (if_pos hlen) (.refl _) G' .next

/-! ## a field, an item stored -/
structure PutOk (c : Cx) (C : Nat) (name : Str) : Prop where
  sa : findIn c.K (.ref C) "__setattr__" = some (some (.builtin "object.__setattr__"))
  po : plainOver c.K C = true
  tk : takerIn c.K C name = some none
  hd : hasDictIn c.K C = true
noncomputable def mPutF (C : Nat) (name : Str) (mv mo : ME) : MS := fun ρ σ => (mv ρ σ).bind fun v σ => (mo ρ σ).bind fun x σ => match x with
  | .ref i => (match σ[i]? with
    | some (.inst C' d) => if C' = C then (match σ[d]? with
      | some (.ns fs) => if fs.length ≤ 100 then .ok (.next, ρ) (σ.set d (.ns (putF name v fs))) else .stuck
      | _ => .stuck) else .stuck
    | _ => .stuck)
  | _ => .stuck
theorem putF_length (name : Str) (v : AV) : ∀ fs : List (Str × AV), (putF name v fs).length ≤ fs.length + 1
  | [] => by simp [putF]
  | p :: r => by
    unfold putF
    split
    · simp
    · simpa using putF_length name v r
theorem dict_ne_tup : (Value.type "dict") ≠ .type "tuple" := by intro q; injection q with q; revert q; decide
theorem putF_good {C : Nat} {name : Str} {v x : AV} {ρ : Loc} {σ : Store} (h : (match x with
  | .ref i => (match σ[i]? with
    | some (.inst C' d) => if C' = C then (match σ[d]? with
      | some (.ns fs) => if fs.length ≤ 100 then .ok (.next, ρ) (σ.set d (.ns (putF name v fs))) else .stuck
      | _ => .stuck) else .stuck
    | _ => .stuck)
  | _ => .stuck : Res (Fl × Loc)).good tn) : ∃ i d fs, x = .ref i ∧ σ[i]? = some (.inst C d) ∧ σ[d]? = some (.ns fs) ∧ fs.length ≤ 100 ∧ (match (generalizing := false) x with
  | .ref i => (match σ[i]? with
    | some (.inst C' d) => if C' = C then (match σ[d]? with
      | some (.ns fs) => if fs.length ≤ 100 then .ok (.next, ρ) (σ.set d (.ns (putF name v fs))) else .stuck
      | _ => .stuck) else .stuck
    | _ => .stuck)
  | _ => .stuck : Res (Fl × Loc)) = .ok (.next, ρ) (σ.set d (.ns (putF name v fs))) := by
  cases x <;> first | exact h.elim | skip
  rename_i i
  dsimp only at h ⊢
  split at h <;> first | exact h.elim | skip
  rename_i C' d h1
  split at h <;> first | exact h.elim | skip
  rename_i hC
  subst hC
  split at h <;> first | exact h.elim | skip
  rename_i fs h2
  have h3 := good_if h
  exact ⟨i, d, fs, rfl, h1, h2, h3, (if_pos rfl).trans (if_pos h3)⟩
theorem FldIs.isSome {W : Wd} {v : Option AV} {o : Option (Option Value)} (h : FldIs c W v o) : o.isSome = true := by
  unfold FldIs at h
  split at h
  · obtain ⟨V', z, _⟩ := h; rw [z]; rfl
  · rw [h]; rfl
theorem sim_putF {o e : Expr} {name : Str} {pos' pos : Pos} {C : Nat} {mv mo : ME} (hp : PutOk c C name) (hv : SimE c n tn sc e mv) (ho : SimE c n tn sc o mo) (hsw : ∀ f : Fm, swapsWith e (some (.Attribute o name pos')) pos.line (f.env sc) = pure false) :
    Sim1 c n tn sc (.Assign [.Attribute o name pos'] e pos) (mPutF C name mv mo) := by
  intro f g₀ ρ σ W s hc hf hs hg Q E hE hq he
  refine plainObj_wpAny_Assign_Attribute (hv.bindS hc hf hs hg hq he fun v σ₁ V W₁ s₁ e1 l1 G1 r1 hg1 hq1 he1 => ?_) (hsw f)
  refine ho.bindS hc hf G1 hg1 hq1 he1 fun x σ₂ X W₂ s₂ e2 l2 G2 r2 hg2 hq2 he2 => ?_
  obtain ⟨i, d, fs, rfl, h1, h2, hlen, e⟩ := putF_good (v := v) hg2
  obtain ⟨a, rfl, hia⟩ := r2.ref_inv
  obtain ⟨g, m, G⟩ := G2
  obtain ⟨dx, es, k, q1, q2, q3, I⟩ := G.inst hc h1 h2 hia
  obtain ⟨N', U⟩ := turn_news G.N q2 (dictOf (putL name (PyData.keyHash c.w.params name) (.str name (s₂.toks + 1)) V es) (putN name es k))
  have r3 := q3.put name (PyData.keyHash c.w.params name) (s₂.toks + 1) (r1.mono l2)
  refine set_dict (ox := instObj C dx) G.F (G.X hc) N' I rfl hp.sa hp.po hp.tk hp.hd (q3.get name).isSome rfl U ?_ fun h' F' N'' => ?_
  · rw [r3.length]
    have := putF_length name v fs
    lia
  · exact hq2 _ _ _ _ _ _ e (.turn q1 _) (G.turn q1 (.ns (n := putN name es k) r3) F' N'' _) .next
end

/- S7 -/

section
variable {c : Cx} {n : Nat} {tn : Bool} {sc : Scope}
/-! ## an item stored -/
noncomputable def putIR (ρ : Loc) (v x k : AV) (σ : Store) : Res (Fl × Loc) := match x with
  | .ref i => (match k with
    | .int k => (match σ[i]? with
      | some (.list l) => if 0 ≤ k ∧ k < l.length ∧ l.length ≤ 100000 then .ok (.next, ρ) (σ.set i (.list (l.set k.toNat v))) else .stuck
      | _ => .stuck)
    | _ => .stuck)
  | _ => .stuck
theorem putIR_inv {tn : Bool} {ρ : Loc} {v x k : AV} {σ : Store} (h : (putIR ρ v x k σ).good tn) : ∃ i j l, x = .ref i ∧ k = .int j ∧ σ[i]? = some (.list l) ∧ (0 ≤ j ∧ j < l.length ∧ l.length ≤ 100000) ∧ putIR ρ v x k σ = .ok (.next, ρ) (σ.set i (.list (l.set j.toNat v))) := by
  cases x <;> first | exact h.elim | skip
  cases k <;> first | exact h.elim | skip
  rename_i i j
  cases q : σ[i]? with
  | none => simp only [putIR, q] at h; exact h.elim
  | some o =>
    cases o <;> first | (simp only [putIR, q] at h; exact h.elim) | skip
    rename_i l
    by_cases hk : 0 ≤ j ∧ j < l.length ∧ l.length ≤ 100000
    · exact ⟨i, j, l, rfl, rfl, q, hk, by simp only [putIR, q]; exact if_pos hk⟩
    · simp only [putIR, q, if_neg hk] at h; exact h.elim
noncomputable def mPutI (mv mo mi : ME) : MS := fun ρ σ => (mv ρ σ).bind fun v σ => (mo ρ σ).bind fun x σ => (mi ρ σ).bind fun k σ => putIR ρ v x k σ
theorem sim_putI {o e i : Expr} {pos' pos : Pos} {mv mo mi : ME} (hv : SimE c n tn sc e mv) (ho : SimE c n tn sc o mo) (hi : SimE c n tn sc i mi) (hsw : ∀ f : Fm, swapsWith e (some (.Subscript o i pos')) pos.line (f.env sc) = pure false) :
    Sim1 c n tn sc (.Assign [.Subscript o i pos'] e pos) (mPutI mv mo mi) := by
  intro f g₀ ρ σ W s hc hf hs hg Q E hE hq he
  refine wpAny_Assign_Subscript (hv.bindS hc hf hs hg hq he fun v σ₁ V W₁ s₁ e1 l1 G1 r1 hg1 hq1 he1 => ?_) (hsw f)
  refine ho.bindS hc hf G1 hg1 hq1 he1 fun x σ₂ X W₂ s₂ e2 l2 G2 r2 hg2 hq2 he2 => ?_
  refine hi.bindS hc hf G2 hg2 hq2 he2 fun k σ₃ Y W₃ s₃ e3 l3 G3 r3 hg3 hq3 he3 => ?_
  clear he3 he2 he1 he hq2 hq1 hq
  obtain ⟨ii, j, l, hx, hk', hl, hk, hres⟩ := putIR_inv hg3
  obtain ⟨u, rfl⟩ := r3.int_of hk'
  obtain ⟨da, rfl, hia⟩ := r2.ref_of hx
  have hia := l3.get hia
  obtain ⟨g, m, G⟩ := G3
  obtain ⟨vs, jj, hm, rl, hget⟩ := G.list hc hl hia
  have hlen := rl.length
  refine ki_setAt hget hk.1 (by lia) (by rw [List.size_toArray]; lia) ?_
  obtain ⟨N', U⟩ := turn_news G.N hm (PySem.W.listOf (vs.set j.toNat V).toArray jj)
  obtain ⟨pre, post, hp1, hp2, a, b⟩ := U.split
  have z := G.N _ hm
  have F' : Fr g f.L (s₃.heap.update da (Obj.mapSeq (·.setIfInBounds j.toNat V))) m := G.F.change (Heap.SameBut.update ..) z.2.1 z.2.2
  have N'' : News g f.L (s₃.heap.update da (Obj.mapSeq (·.setIfInBounds j.toNat V))) (Mine.turn da (PySem.W.listOf (vs.set j.toNat V).toArray jj) W₃.news) := by
    rw [hp2]
    rw [hp1] at N'
    refine ki_turn _ N' a b ?_ (by simp)
    apply Array.toList_inj.mp
    simp
  exact hq3 _ _ _ _ _ _ hres (.turn hia _) (G.turn hia (.list (n := jj) (rl.set ((r1.mono l2).mono l3))) F' N'' _) .next

/-! ## while -/
noncomputable def mWhileF (t : ME) (b : MS) : Nat → MS
  | 0 => fun _ _ => .stuck
  | k + 1 => fun ρ σ => (mTr t ρ σ).bind fun x σ => match x with
    | false => .ok (.next, ρ) σ
    | true => (b ρ σ).bind fun x σ => match x with
      | (.next, ρ) => mWhileF t b k ρ σ
      | (.ret v, ρ) => .ok (.ret v, ρ) σ
theorem sim_while {t : Expr} {body : List Stmt} {pos : Pos} {mt : ME} {b : MS} (k : Nat) (ht : SimT c n tn sc t (mTr mt)) (hb : SimB c n tn sc body b) : Sim1 c n tn sc (.While t body [] pos) (mWhileF mt b k) := by
  intro f g₀ ρ σ W s hc hf hs hg Q E hE hq he
  refine wpAny_While (codeAny_whileLoop (fun k s₁ => ∃ ρ₁ σ₁ W₁, W.Le W₁ ∧ St c f tn g₀ sc.names ρ₁ σ₁ W₁ s₁ ∧ (mWhileF mt b k ρ₁ σ₁).good tn ∧
      (∀ fl ρ' σ' F W' s', mWhileF mt b k ρ₁ σ₁ = .ok (fl, ρ') σ' → W₁.Le W' → St c f tn g₀ sc.names ρ' σ' W' s' → RFl c W' fl F → Q F s') ∧
      (∀ C σ' e W' s', mWhileF mt b k ρ₁ σ₁ = .exc C σ' → W₁.Le W' → Fly c f sc g₀ σ' W' C e s' → E (.ref e) s')) ?_ k ⟨ρ, σ, W, .refl _, hs, hg, hq, he⟩)
  rintro k s₁ ⟨ρ₁, σ₁, W₁, l₁, G₁, hg₁, hq₁, he₁⟩
  cases k with
  | zero => exact hg₁.elim
  | succ k =>
    unfold mWhileF at hg₁ hq₁ he₁
    refine wpAny_passesOwn hE (ht.bindS hc hf G₁ hg₁ hq₁ he₁ fun v σ₂ V W₂ s₂ e2 l2 G2 r2 hg2 hq2 he2 => ?_)
    subst r2
    cases v with
    | false => exact wpAny_execs_nil (hq2 _ _ _ _ _ _ rfl (.refl _) G2 .next)
    | true =>
      dsimp only at hg2 hq2 he2
      refine wpAny_passesOwn hE (hb.bindS hc hf G2 hg2 hE hq2 he2 fun fl ρ₃ σ₃ F W₃ s₃ e3 l3 G3 r3 hg3 hq3 he3 => ?_)
      cases r3 with
      | next => exact ⟨k, Nat.lt_succ_self k, ρ₃, σ₃, W₃, (l₁.trans l2).trans l3, G3, hg3, hq3, he3⟩
      | ret r => exact hq3 _ _ _ _ _ _ rfl (.refl _) G3 (.ret r)
end

/- S8 -/

/-- no iterator that lets a tuple of its own go -/
noncomputable def quietIt : Value → Bool
  | .type n => !["enumerate", "zip", "dict_itemiterator", "dict_reverseitemiterator", "odict_iterator", "itertools.zip_longest", "itertools.pairwise"].contains n
  | _ => true
theorem letOwned_load {M : Model} {A : Around} {r a : Addr} {s : Shared} {o : Obj} (ho : s.heap.get? r = some o) (h : quietIt o.cls = true) {Q : Unit → Shared → Prop} {E : Value → Shared → Prop} (hq : Q () s) : wpAny M A (letOwnedTupleGo (.Tuple [] 0 ⟨0, 0, 0, 0⟩) (.ref r) (.ref a)) Q E s := by
  refine wpAny_bind (wpAny_load ho ?_)
  obtain ⟨cls, dd, data, sl⟩ := o
  cases cls <;> first | exact wpAny_pure hq | skip
  cases data <;> first | exact wpAny_pure hq | skip
  dsimp only
  rw [if_neg]
  · exact wpAny_pure hq
  · intro q
    rw [Bool.and_eq_true] at q
    have z := (Bool.not_eq_true' _).mp h
    rw [q.1] at z
    cases z
theorem letOwned_quiet {M : Model} {A : Around} {target : Expr} {it : Addr} {V : Value} {s : Shared} {o : Obj} (ho : s.heap.get? it = some o) (h : quietIt o.cls = true) {Q : Unit → Shared → Prop} {E : Value → Shared → Prop} (hq : Q () s) : wpAny M A (letOwnedTupleGo target (.ref it) V) Q E s := by
  have key : wpAny M A (letOwnedTupleGo (.Tuple [] 0 ⟨0, 0, 0, 0⟩) (.ref it) V) Q E s := by
    cases V <;> first | exact letOwned_load ho h hq | exact wpAny_pure hq
  cases target <;> first | exact key | exact wpAny_pure hq
/-! ## for -/
structure IterK (c : Cx) (φ₀ : List Nat) (it : Addr) (P : Nat → Obj → Prop) (item : Store → Nat → Option (Option AV)) : Prop where
  nt : ∀ k o, P k o → o.cls ≠ .type "tuple"
  next : ∀ (n : Nat) (sc : Scope) (f : Fm) (tn : Bool) (g₀ : Heap) (names : List (Str × NameKind)) (ρ : Loc) (σ : Store) (W : Wd) (s : Shared) (k : Nat) (o : Obj) (v : AV), c.Ok → FOk n sc f → St c f tn g₀ names ρ σ W s → (it, o) ∈ W.news → (∃ l, W.φ = φ₀ ++ l) → P k o → item σ k = some (some v) →
    ∀ (Q : Option Value → Shared → Prop) (E : Value → Shared → Prop), (∀ V h' o' t, Heap.SameBut it s.heap h' → h'.get? it = some o' → P (k + 1) o' → RV c W v V → Q (some V) { s with heap := h', toks := t }) → wpAny c.M (f.A sc) (pyNext (.ref it)) Q E s
  stop : ∀ (n : Nat) (sc : Scope) (f : Fm) (tn : Bool) (g₀ : Heap) (names : List (Str × NameKind)) (ρ : Loc) (σ : Store) (W : Wd) (s : Shared) (k : Nat) (o : Obj), c.Ok → FOk n sc f → St c f tn g₀ names ρ σ W s → (it, o) ∈ W.news → (∃ l, W.φ = φ₀ ++ l) → P k o → item σ k = some none →
    ∀ (Q : Option Value → Shared → Prop) (E : Value → Shared → Prop), (∀ h', Heap.ExtBut it s.heap h' → Q none { s with heap := h' }) → wpAny c.M (f.A sc) (pyNext (.ref it)) Q E s
  quiet : ∀ (k : Nat) (o : Obj), P k o → quietIt o.cls = true

noncomputable def mForF (item : Store → Nat → Option (Option AV)) (tgt : AV → Loc → Option Loc) (b : MS) : Nat → Nat → MS
  | 0, _ => fun _ _ => .stuck
  | j + 1, k => fun ρ σ => match item σ k with
    | none => .stuck
    | some none => .ok (.next, ρ) σ
    | some (some v) => match tgt v ρ with
      | none => .stuck
      | some ρ => (b ρ σ).bind fun x σ => match x with
        | (.next, ρ) => mForF item tgt b j (k + 1) ρ σ
        | (.ret v, ρ) => .ok (.ret v, ρ) σ
section
variable {c : Cx} {n : Nat} {tn : Bool} {sc : Scope}
noncomputable def TgtOk (c : Cx) (n : Nat) (tn : Bool) (sc : Scope) (target : Expr) (tgt : AV → Loc → Option Loc) : Prop :=
  ∀ (f : Fm) (g₀ : Heap) (ρ ρ' : Loc) (σ : Store) (W : Wd) (s : Shared) (v : AV) (V : Value), c.Ok → FOk n sc f → St c f tn g₀ sc.names ρ σ W s → RV c W v V → tgt v ρ = some ρ' →
    ∀ (Q : Unit → Shared → Prop) (E : Value → Shared → Prop), (∀ s', St c f tn g₀ sc.names ρ' σ W s' → Q () s') → wpAny c.M (f.A sc) (assign target (f.env sc) V) Q E s
noncomputable def tgName (i : Nat) : AV → Loc → Option Loc := fun v ρ => some (ρ.set i (some v))
noncomputable def tgTup (is : List Nat) : AV → Loc → Option Loc := fun v ρ => match v with
  | .tup l => if l.length = is.length then some (setAll is l ρ) else none
  | _ => none
theorem tgt_name {x : Str} {p : Pos} {i : Nat} (hi : LocIdx sc x i) : TgtOk c n tn sc (.Name x p) (tgName i) := by
  intro f g₀ ρ ρ' σ W s v V hc hf hs r e Q E hq
  cases e
  exact wpAny_assign_Name (st_set hf hs hi r hq)
theorem tgt_tup {elts : List Expr} {k : Nat} {p : Pos} {is : List Nat} (ht : TupTgt sc elts is) : TgtOk c n tn sc (.Tuple elts k p) (tgTup is) := by
  intro f g₀ ρ ρ' σ W s v V hc hf hs r e Q E hq
  unfold tgTup at e
  split at e
  · split at e
    · rename_i hlen
      cases e
      obtain ⟨a, vs, j, rfl, ha, hl⟩ := r.tup_inv
      exact assign_tup hc hf hs ht ha hl hlen hq
    · cases e
  · cases e

theorem Fr.extBut' {g h h' : Heap} {L b : Addr} {m : Str → Option Value} (F : Fr g L h m) (hs : Heap.ExtBut b h h') (hL : b ≠ L) (hn : g.get? b = none) : Fr g L h' m :=
  ⟨F.ns.extBut hs hL.symm, fun a x e => hs a x (fun q => by rw [q, hn] at e; cases e) (F.keep a x e), F.above⟩

/-- the iterator goes on -/
theorem StG.step {f : Fm} {g₀ g : Heap} {names : List (Str × NameKind)} {ρ : Loc} {σ : Store} {W : Wd} {s : Shared} {m : Str → Option Value} (G : StG c f tn g₀ names ρ σ W s g m) {it : Addr} {o o' : Obj} (hm : (it, o) ∈ W.news) (hn : it ∉ W.φ) (ht : o.cls ≠ .type "tuple")
    {h' : Heap} (hs : Heap.SameBut it s.heap h') (ho : h'.get? it = some o') (t : Nat) : St c f tn g₀ names ρ σ ⟨W.φ, Mine.turn it o' W.news⟩ { s with heap := h', toks := t } ∧ Wd.Wk c W ⟨W.φ, Mine.turn it o' W.news⟩ := by
  have z := G.N _ hm
  have wk : Wd.Wk c W ⟨W.φ, Mine.turn it o' W.news⟩ := ⟨fun _ _ e => e, fun a vs k e => e.imp (fun ⟨e1, e2⟩ => ⟨turn_mem e1 fun q => by
    have q : a = it := q
    subst q
    exact ht (by rw [News.functional G.N hm e1]), e2⟩) id⟩
  refine ⟨⟨g, m, G.B, G.F.change hs z.2.1 z.2.2, fun p hp => ?_, G.D, G.T, G.T0, G.R.wk wk, G.S.wk wk rfl fun a o h1 h2 => turn_mem h1 fun q => hn ((show a = it from q) ▸ h2), G.e1, G.e2, G.e3⟩, wk⟩
  rcases List.mem_cons.mp hp with rfl | hp
  · exact ⟨ho, z.2⟩
  · have h2 := List.mem_filter.mp hp
    have h3 := G.N p h2.1
    exact ⟨(hs.2 _ (by simpa using h2.2)).trans h3.1, h3.2⟩
theorem StG.endIter {f : Fm} {g₀ g : Heap} {names : List (Str × NameKind)} {ρ : Loc} {σ : Store} {W : Wd} {s : Shared} {m : Str → Option Value} (G : StG c f tn g₀ names ρ σ W s g m) {it : Addr} {o : Obj} (hm : (it, o) ∈ W.news) (hn : it ∉ W.φ) (ht : o.cls ≠ .type "tuple")
    {h' : Heap} (hs : Heap.ExtBut it s.heap h') : St c f tn g₀ names ρ σ ⟨W.φ, W.news.filter (·.1 != it)⟩ { s with heap := h' } := by
  have z := G.N _ hm
  have sub : ∀ (a : Addr) (q : Obj), (a, q) ∈ W.news → a ≠ it → (a, q) ∈ W.news.filter (·.1 != it) := fun a q h1 h2 => List.mem_filter.mpr ⟨h1, by simpa using h2⟩
  have wk : Wd.Wk c W ⟨W.φ, W.news.filter (·.1 != it)⟩ := ⟨fun _ _ e => e, fun a vs k e => e.imp (fun ⟨e1, e2⟩ => ⟨sub _ _ e1 fun q => by
    subst q
    exact ht (by rw [News.functional G.N hm e1]), e2⟩) id⟩
  refine ⟨g, m, G.B, Fr.extBut' G.F hs z.2.1 z.2.2, fun p hp => ?_, G.D, G.T, G.T0, G.R.wk wk, G.S.wk wk rfl fun a o h1 h2 => sub _ _ h1 fun q => hn (q ▸ h2), G.e1, G.e2, G.e3⟩
  have h2 := List.mem_filter.mp hp
  have h3 := G.N p h2.1
  exact ⟨hs _ _ (by simpa using h2.2) h3.1, h3.2⟩

/-- what holds between two turns of a for -/
structure ForI (c : Cx) (f : Fm) (tn : Bool) (sc : Scope) (g₀ : Heap) (it : Addr) (P : Nat → Obj → Prop) (W : Wd) (r : Nat → Nat → Loc → Store → Res (Fl × Loc)) (Q : Flow → Shared → Prop) (E : Value → Shared → Prop) (j : Nat) (s₁ : Shared) (k : Nat) (ρ₁ : Loc) (σ₁ : Store) (W₁ : Wd) (o : Obj) : Prop where
  hm : (it, o) ∈ W₁.news
  hn : it ∉ W₁.φ
  hP : P k o
  l₁ : W.Le W₁
  hs : St c f tn g₀ sc.names ρ₁ σ₁ W₁ s₁
  hg : (r j k ρ₁ σ₁).good tn
  hq : ∀ fl ρ' σ' F W' s', r j k ρ₁ σ₁ = .ok (fl, ρ') σ' → W.Le W' → St c f tn g₀ sc.names ρ' σ' W' s' → RFl c W' fl F → Q F s'
  he : ∀ C σ' e W' s', r j k ρ₁ σ₁ = .exc C σ' → W.Le W' → Fly c f sc g₀ σ' W' C e s' → E (.ref e) s'
noncomputable def forK (item : Store → Nat → Option (Option AV)) (tgt : AV → Loc → Option Loc) (b : MS) (j k : Nat) : Fl × Loc → Store → Res (Fl × Loc) := fun x σ => match x with
  | (.next, ρ) => mForF item tgt b j k ρ σ
  | (.ret v, ρ) => .ok (.ret v, ρ) σ
theorem mForF_succ {item : Store → Nat → Option (Option AV)} {tgt : AV → Loc → Option Loc} {b : MS} {j k : Nat} {ρ : Loc} {σ : Store} : mForF item tgt b (j + 1) k ρ σ = (match item σ k with
    | none => .stuck
    | some none => .ok (.next, ρ) σ
    | some (some v) => match tgt v ρ with
      | none => .stuck
      | some ρ => (b ρ σ).bind (forK item tgt b j (k + 1))) := rfl
theorem forF_inv {item : Store → Nat → Option (Option AV)} {tgt : AV → Loc → Option Loc} {b : MS} {j k : Nat} {ρ : Loc} {σ : Store} {tn : Bool} (h : (mForF item tgt b (j + 1) k ρ σ).good tn) :
    (item σ k = some none ∧ mForF item tgt b (j + 1) k ρ σ = .ok (.next, ρ) σ) ∨ (∃ v ρ₂, item σ k = some (some v) ∧ tgt v ρ = some ρ₂ ∧ mForF item tgt b (j + 1) k ρ σ = (b ρ₂ σ).bind (forK item tgt b j (k + 1))) := by
  rw [mForF_succ] at h ⊢
  cases hi : item σ k with
  | none => rw [hi] at h; exact h.elim
  | some q =>
    cases q with
    | none => exact .inl ⟨rfl, rfl⟩
    | some v =>
      rw [hi] at h
      dsimp only at h ⊢
      cases ht : tgt v ρ with
      | none => rw [ht] at h; exact h.elim
      | some ρ₂ => exact .inr ⟨v, ρ₂, rfl, ht, rfl⟩
theorem for_loop {it : Addr} {P : Nat → Obj → Prop} {item : Store → Nat → Option (Option AV)} {W : Wd} (K : IterK c W.φ it P item) {target : Expr} {tgt : AV → Loc → Option Loc} {body : List Stmt} {b : MS} (ht : TgtOk c n tn sc target tgt) (hb : SimB c n tn sc body b)
    {f : Fm} {g₀ : Heap} {ρ : Loc} {σ : Store} {W₁ : Wd} {s : Shared} (hc : c.Ok) (hf : FOk n sc f) (j : Nat) {o : Obj} (hm : (it, o) ∈ W₁.news) (hn : it ∉ W₁.φ) (hP : P 0 o) (l₁ : W.Le W₁) (hfr : ∀ p ∈ W.news, p.1 ≠ it) (hs : St c f tn g₀ sc.names ρ σ W₁ s)
    (hg : (mForF item tgt b j 0 ρ σ).good tn) {Q : Flow → Shared → Prop} {E : Value → Shared → Prop} (hE : PassesOwn c.M (f.A sc) (f.env sc) E)
    (hq : ∀ fl ρ' σ' F W' s', mForF item tgt b j 0 ρ σ = .ok (fl, ρ') σ' → W.Le W' → St c f tn g₀ sc.names ρ' σ' W' s' → RFl c W' fl F → Q F s')
    (he : ∀ C σ' e W' s', mForF item tgt b j 0 ρ σ = .exc C σ' → W.Le W' → Fly c f sc g₀ σ' W' C e s' → E (.ref e) s') :
    codeAny c.M (f.A sc) (.forLoop target (.ref it) body [] (f.env sc)) (fun r s' => match r with | .ok f => Q f s' | .error e => cameBackBy c.M (f.A sc) (f.env sc) E e s') s := by
  refine codeAny_forLoop_any (fun j s₁ => ∃ k ρ₁ σ₁ W₁ o, ForI c f tn sc g₀ it P W (mForF item tgt b) Q E j s₁ k ρ₁ σ₁ W₁ o) ?_ j ⟨0, ρ, σ, W₁, o, hm, hn, hP, l₁, hs, hg, hq, he⟩
  clear he hq hg hs l₁ hP hn hm
  rintro j s₁ ⟨k, ρ₁, σ₁, W₁, o, I⟩
  have hm := I.hm
  have hn := I.hn
  have l₁ := I.l₁
  cases j with
  | zero => exact I.hg.elim
  | succ j =>
    rcases forF_inv I.hg with ⟨hi, hr⟩ | ⟨v, ρ₂, hi, ht2, hr⟩
    · refine K.stop n sc f tn g₀ sc.names ρ₁ σ₁ W₁ s₁ k o hc hf I.hs hm l₁.φ I.hP hi _ _ fun h' hx => ?_
      obtain ⟨g, m, G⟩ := I.hs
      refine wpAny_execs_nil (I.hq _ _ _ _ ⟨W₁.φ, W₁.news.filter (·.1 != it)⟩ _ hr ⟨l₁.φ, fun a q h1 h2 => ?_⟩ (G.endIter hm hn (K.nt _ _ I.hP) hx) .next)
      obtain ⟨q1, q2⟩ := l₁.keep a q h1 h2
      exact ⟨List.mem_filter.mpr ⟨q1, by simpa using hfr _ h1⟩, q2⟩
    · refine K.next n sc f tn g₀ sc.names ρ₁ σ₁ W₁ s₁ k o v hc hf I.hs hm l₁.φ I.hP hi _ _ fun V h' o' t hx ho hP' rv => ?_
      obtain ⟨g, m, G⟩ := I.hs
      obtain ⟨G', wk⟩ := G.step hm hn (K.nt _ _ I.hP) hx ho t
      have le : W.Le ⟨W₁.φ, Mine.turn it o' W₁.news⟩ := ⟨l₁.φ, fun a q h1 h2 => by
        obtain ⟨q1, q2⟩ := l₁.keep a q h1 h2
        exact ⟨turn_mem q1 (hfr _ h1), q2⟩⟩
      refine letOwned_quiet ho (K.quiet _ _ hP') ?_
      refine ht f g₀ ρ₁ ρ₂ σ₁ _ _ v V hc hf G' (rv.wk wk) ht2 _ _ fun s₂ G2 => ?_
      refine wpAny_passesOwn hE (hb.bindS (k := forK item tgt b j (k + 1)) hc hf G2 (hr ▸ I.hg) hE (fun fl ρ' σ' F W' s' e l G r => I.hq fl ρ' σ' F W' s' (hr.trans e) (le.trans l) G r) (fun C σ' e W' s' q l F => I.he C σ' e W' s' (hr.trans q) (le.trans l) F) fun fl ρ₃ σ₃ F W₃ s₃ e3 l3 G3 r3 hg3 hq3 he3 => ?_)
      cases r3 with
      | next =>
        obtain ⟨q1, q2⟩ := l3.keep it o' (.head _) hn
        refine ⟨j, Nat.lt_succ_self j, k + 1, ρ₃, σ₃, W₃, o', q1, q2, hP', le.trans l3, G3, hg3, ?_, ?_⟩
        · exact fun fl ρ' σ' F W' s' e l G r => I.hq fl ρ' σ' F W' s' ((hr.trans (by rw [e3]; rfl)).trans e) l G r
        · exact fun C σ' e W' s' q l F => I.he C σ' e W' s' ((hr.trans (by rw [e3]; rfl)).trans q) l F
      | ret r => exact hq3 _ _ _ _ _ _ rfl (.refl _) G3 (.ret r)

/-! ### over a list of the store, over a range -/
noncomputable def listItem (i : Nat) : Store → Nat → Option (Option AV) := fun σ k => match σ[i]? with
  | some (.list l) => some l[k]?
  | _ => none
theorem iterK_list {φ₀ : List Nat} {i a : Nat} (hi : φ₀[i]? = some a) (it : Addr) (hne : True) : IterK c φ₀ it (fun k o => o.cls = .type "list_iterator" ∧ o.data = .fields #[.ref a, .int k 0]) (listItem i) where
  nt := fun k o h => by rw [h.1]; decide
  next := by
    intro n sc f tn g₀ names ρ σ W s k o v hc hf hs hm hφ hP hit Q E hq
    obtain ⟨g, m, G⟩ := hs
    obtain ⟨l', hφ⟩ := hφ
    have hia : W.φ[i]? = some a := by
      rw [hφ, List.getElem?_append_left (List.getElem?_eq_some_iff.mp hi).1]; exact hi
    unfold listItem at hit
    split at hit
    · rename_i l hl
      obtain ⟨vs, j, hml, rl, hg⟩ := G.list hc hl hia
      obtain ⟨V, h1, h2⟩ := rl.get (Option.some.inj hit)
      refine wpAny_pyNext_list_item ⟨o, (G.N _ hm).1, hP⟩ ⟨_, hg, rfl, _, rfl⟩ (by simpa using h1) fun h' hx hs' => ?_
      obtain ⟨o', ho', hP'⟩ := hx
      exact hq V h' o' s.toks hs' ho' hP' h2
    · cases hit
  stop := by
    intro n sc f tn g₀ names ρ σ W s k o hc hf hs hm hφ hP hit Q E hq
    obtain ⟨g, m, G⟩ := hs
    obtain ⟨l', hφ⟩ := hφ
    have hia : W.φ[i]? = some a := by
      rw [hφ, List.getElem?_append_left (List.getElem?_eq_some_iff.mp hi).1]; exact hi
    unfold listItem at hit
    split at hit
    · rename_i l hl
      obtain ⟨vs, j, hml, rl, hg⟩ := G.list hc hl hia
      have h1 : l[k]? = none := Option.some.inj hit
      refine wpAny_pyNext_list_end hf.handled ⟨o, (G.N _ hm).1, hP⟩ ⟨_, hg, rfl, _, rfl⟩ ?_ hq
      rw [List.getElem?_eq_none_iff] at h1
      rw [rl.length] at h1
      simp [h1]
    · cases hit
  quiet := fun k o h => by rw [h.1]; rfl

noncomputable def mForL (tgt : AV → Loc → Option Loc) (b : MS) (mi : ME) : MS := fun ρ σ => (mi ρ σ).bind fun x σ => match x with
  | .ref i => (match σ[i]? with
    | some (.list l) => mForF (listItem i) tgt b (l.length + 1) 0 ρ σ
    | _ => .stuck)
  | _ => .stuck
theorem sim_forL {target iter : Expr} {body : List Stmt} {pos : Pos} {tgt : AV → Loc → Option Loc} {b : MS} {mi : ME} (hi : SimE c n tn sc iter mi) (ht : TgtOk c n tn sc target tgt) (hb : SimB c n tn sc body b) (hfo : ∀ (f : Fm) (x : Value), foldedSetIterable iter (f.env sc) x = pure x) :
    Sim1 c n tn sc (.For target iter body [] pos) (mForL tgt b mi) := by
  intro f g₀ ρ σ W s hc hf hs hg Q E hE hq he
  refine wpAny_For (hi.bindS hc hf hs hg hq he fun x σ₁ X W₁ s₁ e1 l1 G1 r1 hg1 hq1 he1 => ?_) (hfo f)
  obtain ⟨i, l, hxi, hl, e⟩ := good_list (F := fun i l σ => mForF (listItem i) tgt b (l.length + 1) 0 ρ σ) hg1
  obtain ⟨a, rfl, hia⟩ := r1.ref_of hxi
  have hg2 := Eq.mp (congrArg (Res.good tn) e) hg1
  obtain ⟨g, m, G⟩ := G1
  obtain ⟨vs, j, hml, rl, hget⟩ := G.list hc hl hia
  refine wpAny_pyIter_list ⟨_, hget, rfl, _, rfl⟩ ?_
  have hlt : ∀ p ∈ W₁.news, p.1 < s₁.heap.objs.size := fun p hp => Heap.lt_size (G.N p hp).1
  exact for_loop (W := W₁) (W₁ := ⟨W₁.φ, _ :: W₁.news⟩) (iterK_list hia _ trivial) ht hb hc hf _ (.head _) G.fresh ⟨rfl, rfl⟩ (.cons _ _) (fun p hp => Nat.ne_of_lt (hlt p hp)) (G.grow (G.F.push _) (News.push G.F G.N _ rfl) _) hg2 hE (fun fl ρ' σ' F W' s' q => hq1 fl ρ' σ' F W' s' (e.trans q)) fun C σ' z W' s' q => he1 C σ' z W' s' (e.trans q)

noncomputable def rangeItem (N : Nat) : Store → Nat → Option (Option AV) := fun _ k => some (if k < N then some (.int k) else none)
theorem iterK_range (φ₀ : List Nat) (N : Nat) (it : Addr) : IterK c φ₀ it (fun k o => o = { cls := .type "range_iterator", dict := none, data := .fields #[rawInt k, rawInt ((N : Int) - k), rawInt 1], slots := #[] }) (rangeItem N) where
  nt := fun k o h => by rw [h]; show Value.type "range_iterator" ≠ Value.type "tuple"; decide
  next := by
    intro n sc f tn g₀ names ρ σ W s k o v hc hf hs hm hφ hP hit Q E hq
    obtain ⟨g, m, G⟩ := hs
    subst hP
    unfold rangeItem at hit
    split at hit
    · rename_i hk
      cases hit
      refine wpAny_pyNext_range_item (G.N _ hm).1 (by lia) fun h' hx hs' => ?_
      refine hq _ h' _ (s.toks + 1) hs' hx ?_ (.int _ _)
      rw [show ((N : Int) - k) - 1 = (N : Int) - ((k + 1 : Nat) : Int) from by lia]
      rfl
    · cases hit
  stop := by
    intro n sc f tn g₀ names ρ σ W s k o hc hf hs hm hφ hP hit Q E hq
    obtain ⟨g, m, G⟩ := hs
    subst hP
    unfold rangeItem at hit
    split at hit
    · cases hit
    · rename_i hk
      exact wpAny_pyNext_range_end hf.handled (G.N _ hm).1 (by lia) hq
  quiet := fun k o h => by rw [h]; rfl
noncomputable def mForR (tgt : AV → Loc → Option Loc) (b : MS) (me : ME) : MS := fun ρ σ => (me ρ σ).bind fun x σ => match x with
  | .int k => if 0 ≤ k ∧ k ≤ 1000 then mForF (rangeItem k.toNat) tgt b (k.toNat + 1) 0 ρ σ else .stuck
  | _ => .stuck
theorem sim_forR {target e : Expr} {x : Str} {np cp : Pos} {body : List Stmt} {pos : Pos} {tgt : AV → Loc → Option Loc} {b : MS} {me : ME} (hr : SimE c n tn sc (.Name x np) (mVal (.lit (.type "range")))) (hi : SimE c n tn sc e me) (hn : notStar e = true) (ht : TgtOk c n tn sc target tgt) (hb : SimB c n tn sc body b)
    (hfo : ∀ (f : Fm) (v : Value), foldedSetIterable (.Call (.Name x np) [e] [] cp) (f.env sc) v = pure v) :
    Sim1 c n tn sc (.For target (.Call (.Name x np) [e] [] cp) body [] pos) (mForR tgt b me) := by
  intro f g₀ ρ σ W s hc hf hs hg Q E hE hq he
  refine wpAny_For (wpAny_Call_ofName (hr f g₀ ρ σ W s hc hf hs trivial _ E (fun v σ₁ V₁ W₁ s₁ e1 l1 G1 r1 => ?_) fun _ _ _ _ _ q _ _ => nomatch q)) (hfo f)
  cases e1
  cases r1.lit_inv
  refine callWith_any (by simp [hn]) (keep_type _) ?_
  rw [starEach_cons hn]
  refine spliced_cons (hi.bindS hc hf G1 hg (fun fl ρ' σ' F W' s' e l G r => hq fl ρ' σ' F W' s' e (l1.trans l) G r) (fun C σ' e W' s' q l F => he C σ' e W' s' q (l1.trans l) F) fun x σ₂ X W₂ s₂ e2 l2 G2 r2 hg2 hq2 he2 => ?_)
  refine spliced_nil ⟨G2.In hc, ?_⟩
  obtain ⟨k, rfl⟩ := good_int (F := fun k σ => if 0 ≤ k ∧ k ≤ 1000 then mForF (rangeItem k.toNat) tgt b (k.toNat + 1) 0 ρ σ else Res.stuck) hg2
  obtain ⟨u, rfl⟩ := r2.int_inv
  have hk := good_if hg2
  dsimp only at hg2 hq2 he2
  rw [if_pos hk] at hg2 hq2 he2
  obtain ⟨g, m, G⟩ := G2
  refine call_range_1 ?_
  have hsz : Builtin.Range.rangeSize 0 k 1 = k := by rw [rangeSize_one]; split <;> lia
  refine wpAny_pyIter_range (IsRange.new ..) (small_one (by decide) (by decide) (by lia) (by lia)) ?_
  rw [hsz]
  have G3 : St c f tn g₀ sc.names ρ σ₂ ⟨W₂.φ, W₂.news⟩ { s₂ with heap := s₂.heap.push { cls := .type "range", data := .fields #[.int 0 s₂.toks, .int k u, .int 1 (s₂.toks + 1)] }, toks := s₂.toks + 1 + 1 } := G.heap (G.F.push _) (fun p hp => ⟨Heap.get?_push_of_some _ (G.N p hp).1, (G.N p hp).2⟩) _
  obtain ⟨g, m, G⟩ := G3
  have hlt : ∀ p ∈ W₂.news, p.1 < (s₂.heap.push { cls := .type "range", data := .fields #[.int 0 s₂.toks, .int k u, .int 1 (s₂.toks + 1)] } : Heap).objs.size := fun p hp => Heap.lt_size (G.N p hp).1
  exact for_loop (W := W₂) (W₁ := ⟨W₂.φ, _ :: W₂.news⟩) (iterK_range W₂.φ k.toNat _) ht hb hc hf _ (.head _) G.fresh (by rw [show ((k.toNat : Int) - ((0 : Nat) : Int)) = k from by lia]; rfl) (.cons _ _) (fun p hp => Nat.ne_of_lt (hlt p hp)) (G.grow (G.F.push _) (News.push G.F G.N _ rfl) _) hg2 hE hq2 he2
end

/- S9 -/

/-! ## an exception leaves a frame -/
section
variable {M : Model} {A : Around} {E : Value → Shared → Prop} {s' : Shared} {base g g₂ h : Heap} {outer : List Env} {L a e : Addr} {C : Nat} {m : Str → Option Value} {name : Str} {scope : Scope} {cd : Value} {Q : Unit → Shared → Prop} {news : List (Addr × Obj)}
theorem MadeX.raised (K : Below A base outer g) (hx : MadeX h s'.heap e C) (F : Fr g L h m) (N : News g L h news)
    (hQ : ∀ h' t vs, RaisedS base g outer e (.ref C) t vs news h' → g.UpToSlots h' → Q () { s' with heap := h' }) (hk : scope.kind = .function) :
    wpAny M (A.deeper (envOf name scope L a cd)) (leaving (envOf name scope L a cd) (.ref e)) Q E s' := by
  have K' := K.push (name := name) (a := a) (cd := cd) F hk
  have hin : ∀ env ∈ (envOf name scope L a cd :: outer), ∀ b, env.frame = some b → b ∈ (envOf name scope L a cd :: outer).filterMap (·.frame) := fun env he b hb => List.mem_filterMap.mpr ⟨env, he, hb⟩
  have st : base.StaysIn (hideAll h ((envOf name scope L a cd :: outer).filterMap (·.frame))) := fun b o q => hideAll_get _ (K'.stays b o q) fun hm => by
    rw [(K'.frames.mem hm).1] at q; cases q
  have sg : ∀ b o, g.get? b = some o → b ∉ outer.filterMap (·.frame) → (hideAll h ((envOf name scope L a cd :: outer).filterMap (·.frame))).get? b = some o := fun b o q nm => hideAll_get _ (F.keep b o q) fun hm => by
    rcases kts_mem hm with z | z
    · rw [z, kts_self F] at q
      cases q
    · exact nm z
  have hl : ∀ q ∈ news, (hideAll h ((envOf name scope L a cd :: outer).filterMap (·.frame))).get? q.1 = some q.2 ∧ g.get? q.1 = none ∧ base.get? q.1 = none := fun q hq => by
    refine ⟨hideAll_get _ (N q hq).1 fun hm => ?_, (N q hq).2.2, fresh_of_stays K.stays (N q hq).2.2⟩
    obtain ⟨env, he, hf⟩ := List.mem_filterMap.mp hm
    rcases List.mem_cons.mp he with rfl | he
    · exact (N q hq).2.1 (Option.some.inj hf).symm
    · obtain ⟨o, ho, _⟩ := (K.frames.mem (List.mem_filterMap.mpr ⟨env, he, hf⟩)).2
      rw [(N q hq).2.2] at ho; cases ho
  obtain ⟨keeps, en, t, o, vs, hoe, hoc, hod, htn, ht⟩ := hx
  have hide_none : ∀ b, h.get? b = none → (hideAll h ((envOf name scope L a cd :: outer).filterMap (·.frame))).get? b = none := fun b hb => by
    cases q : (hideAll h ((envOf name scope L a cd :: outer).filterMap (·.frame))).get? b with
    | none => rfl
    | some o' => rw [of_hideAll _ q] at hb; cases hb
  have HF := funFrames_hide K'.frames hin
  refine wpAny_leaving_firstW (base := hideAll h ((envOf name scope L a cd :: outer).filterMap (·.frame))) (a0 := .ref t) K'.stack (HF.of_keeps fun b o hb _ => ⟨o, keeps b o hb, rfl⟩) rfl hoe (fun b o hb => keeps b o (of_hideAll _ hb)) (hide_none e en) hod rfl rfl fun h' hL => ?_
  obtain ⟨k1, ⟨_, _, k2⟩, k3, k4⟩ := hL
  rw [hoc] at k3
  refine hQ h' t vs ⟨⟨_, st, sg, hl, ⟨k1, hide_none e en, k2, k3⟩, hide_none t htn⟩, ht.of_slots k4⟩ ?_
  exact ((Heap.UpToSlots.of_keeps F.keep).trans (Heap.UpToSlots.of_keeps keeps)).trans k4
end

/-! ## into a frame and out of it -/
theorem mem_frames {env : Env} {outer : List Env} {L b : Addr} (hf : env.frame = some L) (hm : b ∈ (env :: outer).filterMap (·.frame)) : b = L ∨ b ∈ outer.filterMap (·.frame) := by
  obtain ⟨env', he, hf'⟩ := List.mem_filterMap.mp hm
  rcases List.mem_cons.mp he with rfl | he
  · exact .inl (Option.some.inj (hf'.symm.trans hf))
  · exact .inr (List.mem_filterMap.mpr ⟨env', he, hf'⟩)
section
variable {A₀ A : Around} {s : Shared} {base h₀ g₀ : Heap} {outer : List Env} {L : Addr} {m : Str → Option Value} {env : Env} {news : List (Addr × Obj)} {K : Frag} {p : Program} {loose : List Str} {mean : ExcName → Option Value} {mg mb : Str → Option Value} {R : Result → Shared → Prop}
theorem enterX (B : Below A₀ base outer h₀) (F : Fr h₀ L s.heap m) (X₀ : K.In h₀) (N : News h₀ L s.heap news) (T : Top p loose mean mg mb h₀) (XB : K.In base) (TB : Top p loose mean mg mb base) (D : KtsDicts (outer.filterMap (·.frame)) h₀)
    (T0 : KtsTurn (outer.filterMap (·.frame)) g₀ h₀) (hA : A.frames = some (env :: outer)) (hf : env.frame = some L) (hke : env.scope.kind = .function) :
    Fr h₀ L (hideAll s.heap (news.map (·.1))) m ∧ Below A base (env :: outer) (hideAll s.heap (news.map (·.1))) ∧ h₀.StaysIn (hideAll s.heap (news.map (·.1))) ∧ KtsDicts ((env :: outer).filterMap (·.frame)) (hideAll s.heap (news.map (·.1))) ∧
      ∀ v s', LeaveS ((env :: outer).filterMap (·.frame)) A₀ base outer K p loose mean mg mb g₀ h₀ L m (hideAll s.heap (news.map (·.1))) R v s' → R (.ok (.ret v)) s' := by
  have nm : ∀ b o, h₀.get? b = some o → b ∉ news.map (·.1) := fun b o e q => by
    obtain ⟨p, hp, rfl⟩ := List.mem_map.mp q
    rw [(N p hp).2.2] at e; cases e
  have st : h₀.StaysIn (hideAll s.heap (news.map (·.1))) := fun b o e => hideAll_get _ (F.keep b o e) (nm b o e)
  obtain ⟨oL, es, ep, hL, hLd, hLk, hLf⟩ := F.ns
  have nL : L ∉ news.map (·.1) := fun q => by
    obtain ⟨p, hp, e⟩ := List.mem_map.mp q
    exact (N p hp).2.1 e
  have hLg := hideAll_get (news.map (·.1)) hL nL
  have B₁ := pushX B F hf hke
  have nL₀ : h₀.get? L = none := kts_self F
  refine ⟨⟨⟨oL, es, ep, hLg, hLd, hLk, hLf⟩, st, F.above⟩, ⟨hA, fun b o e => st b o (B.stays b o e), funFrames_hideAll B₁.frames fun env' he b hb hf' => ?_⟩, st, fun b hb => ?_, fun v s' hl => ?_⟩
  · cases he with
    | head => exact nL ((Option.some.inj (hf.symm.trans hf') : L = b) ▸ hb)
    | tail _ he =>
      obtain ⟨L₁, o₁, hf₁, ho₁⟩ := funFrames_in B.frames env' he
      rw [hf₁] at hf'
      exact nm L₁ o₁ ho₁ ((Option.some.inj hf' : L₁ = b) ▸ hb)
  · rcases mem_frames hf hb with rfl | hb
    · exact ⟨oL, es, ep, hLg, hLd⟩
    · obtain ⟨o, es', n', ho', hd'⟩ := D b hb
      exact ⟨o, es', n', st b o ho', hd'⟩
  rcases hl with ⟨L', m', news', F', N', k⟩ | ⟨g', L', m', news', T', F', N', k⟩
  · refine k ⟨⟨oL, es, ep, F'.keep _ _ hLg, hLd, hLk, hLf⟩, fun b o e => F'.keep b o (st b o e), F.above⟩ fun p hp => ⟨(N' p hp).1, fun q => ?_, ?_⟩
    · have := (N' p hp).2.2; rw [q, hLg] at this; cases this
    · cases q : h₀.get? p.1 with
      | none => rfl
      | some o => have := (N' p hp).2.2; rw [st _ _ q] at this; cases this
  obtain ⟨sl, hs⟩ := T'.up hLg
  obtain ⟨T₁, S₁⟩ := kts_turn_at (h := s'.heap) (fs := outer.filterMap (·.frame)) (g := h₀)
    (fun b hb => by
      obtain ⟨_, o, ho', _⟩ := B.frames.mem hb
      exact ⟨o, ho'⟩)
    (fun b o e nmem => F'.keep b o (T'.other b o (st b o e) (fun q => by
      rcases mem_frames hf q with z | z
      · rw [z, nL₀] at e
        cases e
      · exact nmem z)))
    (fun b o e hm => by
      obtain ⟨sl', hs'⟩ := T'.up (st b o e)
      exact ⟨sl', F'.keep _ _ hs'⟩)
  have B₃ : Below A₀ base outer (ktsHeap s'.heap (outer.filterMap (·.frame)) h₀) := ⟨B.stack, fun b o e => T₁.other b o (B.stays b o e) (fun hm => by
    rw [(B.frames.mem hm).1] at e
    cases e), B.frames.of_keeps fun b o e _ => by
    obtain ⟨sl', hs'⟩ := T₁.up e
    exact ⟨_, hs', rfl⟩⟩
  refine k _ (T0.trans T₁) ⟨⟨_, es, ep, F'.keep _ _ hs, hLd, hLk, hLf⟩, S₁, by rw [T₁.size]; exact F.above⟩ (fun p hp => ⟨(N' p hp).1, fun q => ?_, ?_⟩) B₃ (XB.keeps B₃.stays) (TB.keeps B₃.stays) (D.turn T₁)
  · have := (N' p hp).2.2; rw [q, hs] at this; cases this
  · refine T₁.none_ _ ?_
    cases q : h₀.get? p.1 with
    | none => rfl
    | some o =>
      obtain ⟨sl', hs'⟩ := T'.up (st _ _ q)
      have := (N' p hp).2.2
      rw [hs'] at this
      cases this
end
section
variable {prog : Program} {w : World} {A₀ A : Around} {s : Shared} {base h₀ g₀ : Heap} {outer : List Env} {L : Addr} {m : Str → Option Value} {env : Env} {news : List (Addr × Obj)} {K : Frag} {p : Program} {loose : List Str} {mean : ExcName → Option Value} {mg mb : Str → Option Value} {R : Result → Shared → Prop}
  {name qual : Str} {params : Arguments} {body : List Stmt} {scope : Scope} {dV kV doc pm cdv ct oc : Value} {an od : Option Addr} {osl : Array (Option Value)} {f : Addr} {args : Args} {binds : List (Str × Value)}
theorem code_defX (B : Below A₀ base outer h₀) (F : Fr h₀ L s.heap m) (X₀ : K.In h₀) (N : News h₀ L s.heap news) (T : Top p loose mean mg mb h₀) (XB : K.In base) (TB : Top p loose mean mg mb base) (D : KtsDicts (outer.filterMap (·.frame)) h₀)
    (T0 : KtsTurn (outer.filterMap (·.frame)) g₀ h₀) (hA : A.frames = some (env :: outer)) (hf : env.frame = some L) (hke : env.scope.kind = .function)
    (ho : K.lookup f = some ⟨oc, od, .func (fnOf name qual params body scope dV kV doc pm an cdv ct), osl⟩) (hcd : codeIn K cdv qual = true) (hroom : A.depth < recursionLimit)
    (hbind : BindsTo s (fnOf name qual params body scope dV kV doc pm an cdv ct) args binds) (hloc : ∀ y ∈ binds, scope.names.lookup y.1 = some .local)
    (h : ∀ g L' h₁, Fr h₀ L g m → Fr g L' h₁ (fun y => binds.reverse.lookup y) → News g L' h₁ news → Below A base (env :: outer) g → K.In g → Top p loose mean mg mb g → KtsDicts ((env :: outer).filterMap (·.frame)) g →
      wpAny (model prog w) (A.deeper (envOf qual scope L' f cdv)) (execs body (envOf qual scope L' f cdv))
        (fun fl s' => LeaveS ((env :: outer).filterMap (·.frame)) A₀ base outer K p loose mean mg mb g₀ h₀ L m g R (match fl with | .ret v => v | _ => .none) s')
        (fun e s' => wpAny (model prog w) (A.deeper (envOf qual scope L' f cdv)) (leaving (envOf qual scope L' f cdv) e) (fun _ s'' => R (.error e) s'') (fun e' s'' => R (.error e') s'') s')
        { s with heap := h₁, toks := s.toks + binds.length })
    (hco : scope.isCoroutine = false) (hgen : scope.isGenerator = false) (hk : scope.kind = .function)
    (hcell : ∀ x ∈ scope.names, x.2 ≠ .cell) : codeAny (model prog w) A (.call (.ref f) args) R s := by
  have X := X₀.keeps F.keep
  refine codeAny_call_def (fd := fnOf name qual params body scope dV kV doc pm an cdv ct) (body := body) (binds := binds) hroom (X _ _ ho) rfl (T.nolimit.keeps F.keep) (codeRec_of X hcd) rfl hbind hcell hloc (fun h₁ hns hk₁ => ?_) hco hgen hk
  obtain ⟨FG, B₂, st, D₂, lv⟩ := enterX (R := R) B F X₀ N T XB TB D T0 hA hf hke
  exact wpAny_mono (h _ s.heap.objs.size h₁ FG ⟨hns, fun b o e => hk₁ b o (of_hideAll _ e), Nat.le_of_eq (hideAll_size _ _)⟩
    (fun p hp => ⟨hk₁ _ _ (N p hp).1, Nat.ne_of_lt (Heap.lt_size (N p hp).1), hideAll_none _ (List.mem_map_of_mem hp)⟩) B₂ (X₀.keeps st) (T.keeps st) D₂) (fun fl s' hl => lv _ _ hl) fun _ _ y => y
theorem code_defXC (B : Below A₀ base outer h₀) (F : Fr h₀ L s.heap m) (X₀ : K.In h₀) (N : News h₀ L s.heap news) (T : Top p loose mean mg mb h₀) (XB : K.In base) (TB : Top p loose mean mg mb base) (D : KtsDicts (outer.filterMap (·.frame)) h₀)
    (T0 : KtsTurn (outer.filterMap (·.frame)) g₀ h₀) (hA : A.frames = some (env :: outer)) (hf : env.frame = some L) (hke : env.scope.kind = .function)
    (ho : K.lookup f = some ⟨oc, od, .func (fnOf name qual params body scope dV kV doc pm an cdv ct), osl⟩) (hcd : codeIn K cdv qual = true) (hroom : A.depth < recursionLimit)
    (hbind : BindsTo s (fnOf name qual params body scope dV kV doc pm an cdv ct) args binds)
    (hkind : ∀ n, ∀ x ∈ binds, scope.names.lookup x.1 = some .local ∨ (scope.names.lookup x.1 = some .cell ∧ ((cellsFrom n scope.names []).lookup x.1).isSome = true))
    (hnd : ((cellsFrom 0 scope.names []).map (·.1)).Nodup)
    (h : ∀ g L' h₁ tk cells, Fr h₀ L g m → Fr g L' h₁ (bindL (envOfC qual scope L' f cdv).kindOf binds fun _ => none) → News g L' h₁ (cells ++ news) →
      CellsAre (bindC (envOfC qual scope L' f cdv).kindOf binds fun _ => none) (cellsFrom (L' + 1) scope.names []) cells → (∀ q ∈ news, q.1 < L') → Below A base (env :: outer) g → K.In g → Top p loose mean mg mb g → KtsDicts ((env :: outer).filterMap (·.frame)) g →
      wpAny (model prog w) (A.deeper (envOfC qual scope L' f cdv)) (execs body (envOfC qual scope L' f cdv))
        (fun fl s' => LeaveS ((env :: outer).filterMap (·.frame)) A₀ base outer K p loose mean mg mb g₀ h₀ L m g R (match fl with | .ret v => v | _ => .none) s')
        (fun e s' => wpAny (model prog w) (A.deeper (envOfC qual scope L' f cdv)) (leaving (envOfC qual scope L' f cdv) e) (fun _ s'' => R (.error e) s'') (fun e' s'' => R (.error e') s'') s')
        { s with heap := h₁, toks := tk })
    (hco : scope.isCoroutine = false) (hgen : scope.isGenerator = false) (hk : scope.kind = .function) : codeAny (model prog w) A (.call (.ref f) args) R s := by
  have X := X₀.keeps F.keep
  obtain ⟨FG, B₂, st, D₂, lv⟩ := enterX (R := R) B F X₀ N T XB TB D T0 hA hf hke
  refine codeAny_call_function (fd := fnOf name qual params body scope dV kV doc pm an cdv ct) hroom (X _ _ ho) rfl hco hgen rfl (codeRec_of X hcd) (hbind _ _ _ _ ?_)
  refine wpAny_newFunctionEnv_cells hk (hkind _) fun env' he s' x => ?_
  subst he
  refine ⟨(T.nolimit.keeps F.keep).keeps x.toInCall.keep, codeAny_func ?_⟩
  obtain ⟨h₁, tk, rfl, _⟩ := x.done
  have hk₁ := x.toInCall.keep
  obtain ⟨cells, NC, Y⟩ := Cl.news (h₀ := s.heap) (Nat.le_refl _) fun n c hm => ⟨x.cell n c (lookup_of_mem_nodup (cellsFrom_names scope.names 0 (s.heap.objs.size + 1) [] [] rfl ▸ hnd) hm), x.above n c hm⟩
  refine wpAny_mono (h _ s.heap.objs.size h₁ tk cells FG ⟨x.toInCall.ns, fun b o e => hk₁ b o (of_hideAll _ e), Nat.le_of_eq (hideAll_size _ _)⟩ (fun p hp => ?_) Y (fun q hq => Heap.lt_size (N q hq).1) B₂ (X₀.keeps st) (T.keeps st) D₂) (fun fl s' hl => lv _ _ hl) fun _ _ y => y
  rcases List.mem_append.mp hp with hp | hp
  · refine ⟨(NC p hp).1, (NC p hp).2.1, ?_⟩
    cases q : (hideAll s.heap (news.map (·.1))).get? p.1 with
    | none => rfl
    | some o => have := of_hideAll _ q; rw [(NC p hp).2.2] at this; cases this
  · exact ⟨hk₁ _ _ (N p hp).1, Nat.ne_of_lt (Heap.lt_size (N p hp).1), hideAll_none _ (List.mem_map_of_mem hp)⟩
end

/-! ## a call of a function of the text's -/
noncomputable def mFn (k : Nat) (ext : List AV) (r : Nat) (m : MS) : List AV → Store → Res AV := fun as σ => if as.length = k then (m ((as ++ ext).map some ++ List.replicate r none) σ).bind fun x σ => match x with
  | (.ret v, _) => .ok v σ
  | (.next, _) => .ok .none σ else .stuck

theorem FOk.room1 {n : Nat} {sc : Scope} {f : Fm} (h : FOk (n + 1) sc f) : (f.A sc).depth < recursionLimit := by
  have := h.depth
  lia
theorem FOk.call {n : Nat} {sc sc' : Scope} {f : Fm} (h : FOk (n + 1) sc f) (hk : sc'.kind = .function) (hn : (sc'.names.map (·.1)).Nodup) (name : Str) (L a : Addr) (cd : Value) :
    FOk n sc' ⟨f.A sc, f.env sc :: f.outer, name, L, a, cd, []⟩ := by
  refine ⟨hk, hn, ?_, ?_, h.handled, h.guards, fun _ => rfl⟩
  · have := h.depth
    show (f.A sc).depth + 1 + n < recursionLimit
    lia
  · have := h.units
    show (f.A sc).units + 3 + 8 * n + 80 < cLine
    lia

theorem lookup_zip {x : Str} {V : Value} : ∀ {ps : List Str} {Vs : List Value} {i : Nat}, ps.Nodup → ps[i]? = some x → Vs[i]? = some V → (ps.zip Vs).reverse.lookup x = some V := by
  intro ps
  induction ps with
  | nil => intro Vs i _ h; cases h
  | cons p ps ih =>
    intro Vs i hn h1 h2
    obtain ⟨hp, hn⟩ := List.nodup_cons.mp hn
    cases Vs with
    | nil => cases h2
    | cons v Vs =>
      rw [List.zip_cons_cons, List.reverse_cons, List.lookup_append]
      cases i with
      | zero =>
        cases h1
        cases h2
        have : (ps.zip Vs).reverse.lookup x = none := by
          rw [List.lookup_eq_none_iff]
          intro q hq
          rw [List.mem_reverse] at hq
          have := List.of_mem_zip hq
          rw [bne_iff_ne]
          intro z
          exact hp (z ▸ this.1)
        rw [this]
        simp
      | succ i =>
        rw [ih hn (i := i) (by simpa using h1) (by simpa using h2)]
        rfl

section
variable {c : Cx} {n : Nat} {tn : Bool}
inductive HasFn (c : Cx) (fa : Nat) (qual : Str) (cdv : Value) (body : List Stmt) (sc : Scope) (P : FuncData → Prop) : Prop
  | mk (oc : Value) (od : Option Addr) (osl : Array (Option Value)) (name : Str) (params : Arguments) (dV kV doc pm : Value) (an : Option Addr) (ct : Value)
    (ho : c.K.lookup fa = some ⟨oc, od, .func (fnOf name qual params body sc dV kV doc pm an cdv ct), osl⟩) (hb : P (fnOf name qual params body sc dV kV doc pm an cdv ct))
structure FnIs (c : Cx) (fa : Nat) (k : Nat) (qual : Str) (cdv : Value) (ps : List Str) (r : Nat) (ext : List AV) (extV : List Value) (body : List Stmt) (sc : Scope) : Prop where
  ho : HasFn c fa qual cdv body sc fun fd => ∀ (s : Shared), c.K.In s.heap → ∀ Vs : List Value, Vs.length = k → BindsTo s fd ⟨Vs, []⟩ (ps.zip (Vs ++ extV))
  code : codeIn c.K cdv qual = true
  kind : sc.kind = .function
  co : sc.isCoroutine = false
  gen : sc.isGenerator = false
  nodup : (sc.names.map (·.1)).Nodup
  len : ps.length = k + ext.length
  pars : ∀ (i : Nat) (x : Str), ps[i]? = some x → sc.names[i]? = some (x, NameKind.local)
  cell : ∀ x ∈ sc.names, x.2 ≠ NameKind.cell
  total : sc.names.length = ps.length + r
  ext : ∀ W, RVs c W ext extV

theorem names_lookup : ∀ {l : List (Str × NameKind)} {i : Nat} {x : Str} {k : NameKind}, (l.map (·.1)).Nodup → l[i]? = some (x, k) → l.lookup x = some k := by
  intro l
  induction l with
  | nil => intro i x k _ h; cases h
  | cons p l ih =>
    intro i x k hn h
    rw [List.map_cons, List.nodup_cons] at hn
    cases i with
    | zero =>
      cases h
      simp [List.lookup]
    | succ i =>
      have h' : l[i]? = some (x, k) := by simpa using h
      have : x ≠ p.1 := by
        rintro rfl
        exact hn.1 (List.mem_map.mpr ⟨_, List.mem_of_getElem? h', rfl⟩)
      obtain ⟨y, k'⟩ := p
      rw [List.lookup_cons, show (x == y) = false from by simpa using this]
      exact ih hn.2 h'

noncomputable def FlyR (c : Cx) (f : Fm) (sc : Scope) (g₀ : Heap) (W : Wd) (C : Nat) (e : Addr) (s : Shared) : Prop :=
  ∃ G m t vs, Fr g₀ f.L G m ∧ RaisedS c.base G (f.env sc :: f.outer) e (.ref C) t vs W.news s.heap ∧ G.UpToSlots s.heap
noncomputable def FnX (c : Cx) (k : Nat) (tn : Bool) (V : Value) (F : List AV → Store → Res AV) : Prop :=
  ∀ (sc : Scope) (f : Fm) (g₀ : Heap) (ρ : Loc) (σ : Store) (W : Wd) (s : Shared), c.Ok → FOk k sc f → St c f tn g₀ sc.names ρ σ W s → ∀ (as : List AV) (Vs : List Value), RVs c W as Vs → (F as σ).good tn →
    ∀ (Q E : Value → Shared → Prop),
      (∀ v σ' V' W' s', F as σ = .ok v σ' → W.Le W' → St c f tn g₀ sc.names ρ σ' W' s' → RV c W' v V' → Q V' s') →
      (∀ C σ' e W' s', F as σ = .exc C σ' → W.Le W' → Fly c f sc g₀ σ' W' C e s' → FlyR c f sc g₀ W' C e s' → E (.ref e) s') →
      wpAny c.M (f.A sc) (call V Vs) Q E s
theorem FnX.v {k : Nat} {V : Value} {F : List AV → Store → Res AV} (h : FnX c k tn V F) : FnV c k tn V F :=
  fun sc f g₀ ρ σ W s hc hf hs as Vs r hg Q E hq he => h sc f g₀ ρ σ W s hc hf hs as Vs r hg Q E hq fun C σ' e W' s' q l F _ => he C σ' e W' s' q l F

theorem nodup_pars {l : List (Str × NameKind)} {ps : List Str} (hn : (l.map (·.1)).Nodup) (hp : ∀ (i : Nat) (x : Str), ps[i]? = some x → l[i]? = some (x, NameKind.local)) : ps.Nodup := by
  have hsub : ps = (l.map (·.1)).take ps.length := by
    apply List.ext_getElem?
    intro i
    by_cases hi : i < ps.length
    · rw [List.getElem?_take_of_lt hi, List.getElem?_map, hp i _ (List.getElem?_eq_getElem hi)]
      exact List.getElem?_eq_getElem hi
    · rw [List.getElem?_eq_none (Nat.le_of_not_lt hi), List.getElem?_eq_none (Nat.le_trans (List.length_take_le ..) (Nat.le_of_not_lt hi))]
  rw [hsub]
  exact hn.sublist (List.take_sublist ..)
theorem RVs.args_at {W : Wd} {as : List AV} {Vs : List Value} {r i : Nat} {v : AV} (ra : RVs c W as Vs) (q : (as.map some ++ List.replicate r none)[i]? = some (some v)) : ∃ V, Vs[i]? = some V ∧ RV c W v V ∧ i < as.length := by
  by_cases hi : i < as.length
  · rw [List.getElem?_append_left (by simpa using hi), List.getElem?_map] at q
    cases hx : as[i]? with
    | none => rw [hx] at q; cases q
    | some v' =>
      rw [hx] at q
      cases q
      obtain ⟨V, h1, h2⟩ := ra.get hx
      exact ⟨V, h1, h2, hi⟩
  · rw [List.getElem?_append_right (by simpa using Nat.le_of_not_lt hi), List.getElem?_replicate] at q
    split at q <;> cases q
theorem LocR.args {W : Wd} {names : List (Str × NameKind)} {ps : List Str} {as : List AV} {Vs : List Value} {r : Nat} (hn : (names.map (·.1)).Nodup) (hp : ∀ (i : Nat) (x : Str), ps[i]? = some x → names[i]? = some (x, NameKind.local)) (hl : ps.length = Vs.length) (ra : RVs c W as Vs) :
    LocR c W names [] (as.map some ++ List.replicate r none) (fun y => (ps.zip Vs).reverse.lookup y) := by
  intro i x kd v e q
  obtain ⟨V, h1, h2, hi⟩ := ra.args_at q
  have hip : i < ps.length := by rw [hl, ← ra.length]; exact hi
  have hpx := List.getElem?_eq_getElem hip
  cases e.symm.trans (hp i _ hpx)
  exact ⟨V, fun _ => lookup_zip (nodup_pars hn hp) hpx h1, (fun q => absurd q (by decide)), h2⟩
theorem StG.leave {f f' : Fm} {g₀ g g' gg : Heap} {m₀ mm : Str → Option Value} {names names' : List (Str × NameKind)} {ρ ρ' : Loc} {σ σ' : Store} {W W' : Wd} {s s' : Shared} {R : Result → Shared → Prop} {V : Value}
    (G : StG c f tn g₀ names ρ σ W s g m₀) (le : W.Le W') (G1 : StG c f' tn g' names' ρ' σ' W' s' gg mm) (hq : St c f tn g₀ names ρ σ' W' s' → R (.ok (.ret V)) s') :
    LeaveS (f'.outer.filterMap (·.frame)) f.A₀ c.base f.outer c.K c.p c.loose c.mean c.mg c.mb g₀ g f.L m₀ g' R V s' := by
  cases tn with
  | false =>
    cases G1.T0 rfl
    exact leaveS_l G1.F G1.N fun Fb Nb => hq ⟨g, m₀, G.B, Fb, Nb, G.D, G.T, G.T0, G.R.mono le, G1.S, G1.e1, G1.e2, G1.e3⟩
  | true =>
    exact leaveS_r G1.F G1.N G1.T fun h₀' T₀ Fb Nb Bb Xb Tb Db => hq ⟨h₀', m₀, Bb, Fb, Nb, Db, T₀, fun q => (Bool.noConfusion q), G.R.mono le, G1.S, G1.e1, G1.e2, G1.e3⟩
theorem Fly.out {f f' : Fm} {g₀ g g' : Heap} {m₀ : Str → Option Value} {sc sc' : Scope} {names : List (Str × NameKind)} {ρ : Loc} {σ σ' : Store} {W W' : Wd} {s s' : Shared} {C : Nat} {e : Addr} {R : Result → Shared → Prop} (ho : f'.outer = f.env sc :: f.outer) (hcl : f'.cl = []) (hk : sc'.kind = .function)
    (G : StG c f false g₀ names ρ σ W s g m₀) (FG : Fr g f.L g' m₀) (F1 : Fly c f' sc' g' σ' W' C e s') (he : ∀ s'', Fly c f sc g₀ σ' W' C e s'' → FlyR c f sc g₀ W' C e s'' → R (.error (.ref e)) s'') :
    wpAny c.M (f'.A sc') (leaving (f'.env sc') (.ref e)) (fun _ s'' => R (.error (.ref e)) s'') (fun e' s'' => R (.error e') s'') s' := by
  obtain rfl := G.T0 rfl
  have fin : ∀ h' t vs, RaisedS c.base g' f'.outer e (.ref C) t vs W'.news h' → g'.UpToSlots h' → R (.error (.ref e)) { s' with heap := h' } := fun h' t vs Ra Ua =>
    have q : FlyR c f sc _ W' C e { s' with heap := h' } := ⟨g', m₀, t, vs, FG, ho ▸ Ra, Ua⟩
    he _ ⟨F1.S, F1.e1, F1.e2, F1.e3, G.B, G.D, .inr q⟩ q
  have B := F1.B
  have how := F1.how
  clear F1 he
  obtain ⟨A', o', q', L', a', d', cl'⟩ := f'
  cases (show cl' = [] from hcl)
  rcases how with ⟨h, m₁, Fa, Na, Ma⟩ | ⟨GG, m₁, t, vs, Fa, Ra, Ua⟩
  · refine Ma.raised (K := B) Fa Na (fun h' t vs R U => ?_) hk
    exact fin h' t vs R U
  · refine leave_onS (K := B) Fa Ra Ua fun h' R _ U => ?_
    exact fin h' t vs R U
/-- a called def's body, from the frame's start to the frame's end -/
theorem callee_run {f f' : Fm} {sc sc' : Scope} {g₀ g g' : Heap} {m₀ : Str → Option Value} {ρ ρ₁ : Loc} {σ σ₁ : Store} {W W₁ : Wd} {s s₁ : Shared} {body : List Stmt} {m : MS} (ho : f'.outer = f.env sc :: f.outer) (hcl : tn = false → f'.cl = []) (hk : sc'.kind = .function)
    (hb : SimB c n tn sc' body m) (hc : c.Ok) (hf' : FOk n sc' f') (G : StG c f tn g₀ sc.names ρ σ W s g m₀) (FG : Fr g f.L g' m₀) (le : W.Le W₁) (S' : St c f' tn g' sc'.names ρ₁ σ₁ W₁ s₁)
    {z : Res AV} (hz : z = (m ρ₁ σ₁).bind fun x σ => match x with | (.ret v, _) => .ok v σ | (.next, _) => .ok .none σ) (hg : z.good tn) {R : Result → Shared → Prop}
    (hq : ∀ v σ' V' W' s', z = .ok v σ' → W.Le W' → St c f tn g₀ sc.names ρ σ' W' s' → RV c W' v V' → R (.ok (.ret V')) s')
    (he : ∀ C σ' e W' s', z = .exc C σ' → W.Le W' → Fly c f sc g₀ σ' W' C e s' → FlyR c f sc g₀ W' C e s' → R (.error (.ref e)) s') :
    wpAny c.M (f'.A sc') (execs body (f'.env sc')) (fun fl s' => LeaveS (f'.outer.filterMap (·.frame)) f.A₀ c.base f.outer c.K c.p c.loose c.mean c.mg c.mb g₀ g f.L m₀ g' R (match fl with | .ret v => v | _ => .none) s')
      (fun e s' => wpAny c.M (f'.A sc') (leaving (f'.env sc') e) (fun _ s'' => R (.error e) s'') (fun e' s'' => R (.error e') s'') s') s₁ := by
  subst hz
  refine hb f' g' ρ₁ σ₁ W₁ s₁ hc hf' S' (Res.good_bind hg) _ _ PassesOwn.leaving (fun fl ρ' σ' Fl W' s' e1 l1 G1 r1 => ?_) fun C σ' e W' s' e1 l1 F1 => ?_
  · rw [e1] at hg hq
    obtain ⟨gg, mm, G1⟩ := G1
    cases r1 with
    | next => exact G.leave (le.trans l1) G1 fun S => hq _ _ _ _ _ rfl (le.trans l1) S .none
    | ret h => exact G.leave (le.trans l1) G1 fun S => hq _ _ _ _ _ rfl (le.trans l1) S h
  · rw [e1] at hg he
    have q : tn = false := hg
    subst q
    exact F1.out ho (hcl rfl) hk G FG fun s'' => he _ _ _ _ _ rfl (le.trans l1)
theorem FnIs.codeAny {fa k : Nat} {qual : Str} {cdv : Value} {ps : List Str} {r : Nat} {ext : List AV} {extV : List Value} {body : List Stmt} {sc' : Scope} {m : MS} (I : FnIs c fa k qual cdv ps r ext extV body sc') (hb : SimB c n tn sc' body m) : ∀ (sc : Scope) (f : Fm) (g₀ : Heap) (ρ : Loc) (σ : Store) (W : Wd) (s : Shared), c.Ok → FOk (n + 1) sc f → St c f tn g₀ sc.names ρ σ W s → ∀ (as : List AV) (Vs : List Value), RVs c W as Vs → (mFn k ext r m as σ).good tn →
    ∀ (R : Result → Shared → Prop),
      (∀ v σ' V' W' s', mFn k ext r m as σ = .ok v σ' → W.Le W' → St c f tn g₀ sc.names ρ σ' W' s' → RV c W' v V' → R (.ok (.ret V')) s') →
      (∀ C σ' e W' s', mFn k ext r m as σ = .exc C σ' → W.Le W' → Fly c f sc g₀ σ' W' C e s' → FlyR c f sc g₀ W' C e s' → R (.error (.ref e)) s') →
      codeAny c.M (f.A sc) (.call (.ref fa) ⟨Vs, []⟩) R s := by
  intro sc f g₀ ρ σ W s hc hf hs as Vs ra hg R hq he
  unfold mFn at hg hq he
  split at hg
  · rename_i hk
    rw [if_pos hk] at hq he
    have hVk : Vs.length = k := ra.length ▸ hk
    obtain ⟨g, m₀, G⟩ := hs
    obtain ⟨oc, od, osl, name, params, dV, kV, doc, pm, an, ct, ho, hbind⟩ := I.ho
    have rext := I.ext W
    have rall := ra.append rext
    have hl2 : ps.length = (Vs ++ extV).length := by rw [I.len, List.length_append, hVk, ← rext.length]
    refine (code_defX (A := f.A sc) (env := f.env sc) G.B G.F (G.X hc) G.N (G.Tp hc) hc.XB hc.TB G.D G.T ?_ rfl hf.kind ho I.code hf.room1 (hbind s (G.Xs hc) Vs hVk) ?_ ?_ I.co I.gen I.kind I.cell)
    · show (f.A₀.frames.map _) = _
      rw [G.B.stack]
      rfl
    · intro y hy
      obtain ⟨i, hi⟩ := List.getElem?_of_mem (List.of_mem_zip hy).1
      exact names_lookup I.nodup (I.pars i _ hi)
    · intro g' L' h₁ FG F' N' B' X' T' D'
      exact callee_run (f' := ⟨f.A sc, f.env sc :: f.outer, qual, L', fa, cdv, []⟩) (s₁ := { s with heap := h₁, toks := s.toks + (ps.zip (Vs ++ extV)).length }) rfl (fun _ => rfl) I.kind hb hc (hf.call I.kind I.nodup ..) G FG (.refl _)
        ⟨g', _, B', F', N', D', .refl, fun _ => rfl, .args I.nodup I.pars hl2 rall, G.S, G.e1, G.e2, G.e3⟩ rfl hg hq he
  · exact hg.elim
theorem FnIs.fnX {fa k : Nat} {qual : Str} {cdv : Value} {ps : List Str} {r : Nat} {ext : List AV} {extV : List Value} {body : List Stmt} {sc' : Scope} {m : MS} (I : FnIs c fa k qual cdv ps r ext extV body sc') (hb : SimB c n tn sc' body m) : FnX c (n + 1) tn (.ref fa) (mFn k ext r m) :=
  fun sc f g₀ ρ σ W s hc hf hs as Vs ra hg Q E hq he => wpAny_call (I.codeAny hb sc f g₀ ρ σ W s hc hf hs as Vs ra hg (fun r s' => match r with | .ok (.ret v) => Q v s' | .ok _ => False | .error e => E e s') hq he)
theorem FnIs.fn {fa k : Nat} {qual : Str} {cdv : Value} {ps : List Str} {r : Nat} {ext : List AV} {extV : List Value} {body : List Stmt} {sc' : Scope} {m : MS} (I : FnIs c fa k qual cdv ps r ext extV body sc') (hb : SimB c n tn sc' body m) : FnV c (n + 1) tn (.ref fa) (mFn k ext r m) := (I.fnX hb).v
end

/- S10 -/
section
open PySem.Builtin PySem.Builtin.ObjectAttr

/-! ## an exception of a class of the text's, with an `__init__` further up -/
noncomputable def goodMro (bm : List Value) (B : String) : Bool := bm.contains (.type B) && bm.contains (.type "BaseException") && !bm.contains (.type "AttributeError") && !bm.contains (.type "NameError") && bm.contains (.type "object")
section
variable {prog : Program} {w : World} {A : Around} {E : Value → Shared → Prop} {R : Result → Shared → Prop} {h : Heap} {g : Array GenState} {d : Drawn} {t : Nat} {os : OsState}
variable {nm q : Str} {C N : Addr} {bs bm bmB : List Value} {hdct : Bool} {sn : List Str} {sub : List Value} {ab : Bool} {col : Option Bool} {dd : Option Addr} {k0 k1 k2 k3 k5 : Option Value} {B newId initId : String}

theorem x_check_new (F : ExcBaseFacts B newId initId bmB) (T : goodMro bm B = true) {rest : List Value} {Q : Unit → Shared → Prop} (hC : h.get? C = some (excClassObj nm q C N bs bm hdct sn sub ab col dd k0 k1 k2 k3 k5 newId))
    (hq : Q () ⟨h, g, d, t, os⟩) : wpAny (model prog w) A (checkBuiltinCall newId ⟨.ref C :: rest, []⟩) Q E ⟨h, g, d, t, os⟩ := by
  simp only [goodMro, Bool.and_eq_true, Bool.not_eq_true'] at T
  have hcont : (Value.ref C :: bm).contains (.type B) = true := by rw [List.contains_cons, T.1.1.1.1, Bool.or_true]
  have hstar := F.noStar
  simp only [checkBuiltinCall, F.newKind, F.newSplit, F.newRow]
  repeat (first | refine wpAny_loadPart_at hC ?_ | (refine wpAny_isSubtype_exc hC ?_; rw [hcont]) | refine wpAny_staticBase_exc hC ?_ | refine wpAny_madeBy_exc hC ?_ | simp only [bne_self_eq_false, Bool.false_eq_true, if_false] | wp_step)
  exact hq

theorem x_new (F : ExcBaseFacts B newId initId bmB) (T : goodMro bm B = true) {rest : List Value} (hC : h.get? C = some (excClassObj nm q C N bs bm hdct sn sub ab col dd k0 k1 k2 k3 k5 newId))
    (hq : R (.ok (.ret (.ref (h.objs.size + 1)))) ⟨(h.push { cls := .type "tuple", data := .seq rest.toArray }).push
      { cls := .ref C, data := .fields #[.ref h.objs.size, .none, .none, .none, .bool false, .none] }, g, d, t, os⟩) (hrest : rest.length ≤ sizeLine := by size_fits) :
    codeAny (model prog w) A (.builtin newId ⟨.ref C :: rest, []⟩) R ⟨h, g, d, t, os⟩ := by
  have hends := F.ends
  simp only [goodMro, Bool.and_eq_true, Bool.not_eq_true'] at T
  have hcB : (Value.ref C :: bm).contains (.type B) = true := by rw [List.contains_cons, T.1.1.1.1, Bool.or_true]
  have hcA : (Value.ref C :: bm).contains (.type "AttributeError") = false := by rw [List.contains_cons, T.1.1.2]; rfl
  have hcN : (Value.ref C :: bm).contains (.type "NameError") = false := by rw [List.contains_cons, T.1.2]; rfl
  refine codeAny_builtinAt F.entry ?_
  unfold Builtin.«BaseException.__new__»
  refine PySem.wpAt_bind ?_
  show PySem.wpAt _ _ _ (stack >>= _) _ _ _
  refine PySem.wpAt_bind (PySem.wpAt_stack fun p below => PySem.wpAt_of_wpAny ?_)
  wp_walk
  refine PySem.wpAt_of_wpAny ?_
  rw [F.owner]
  repeat (first | with_reducible refine wpAny_madeHere_exc F.canon hC ?_ | with_reducible refine wpAny_loadPart_at hC ?_ | (with_reducible refine wpAny_isSubtype_exc hC ?_; first | rw [hcB] | rw [hcA] | rw [hcN]) | wp_step)
  show R _ _
  rw [Heap.size_push]
  exact hq

theorem x_type_call (F : ExcBaseFacts B newId initId bmB) (T : goodMro bm B = true) {rest : List Value} {fI : Addr} {oI : Obj} {Q : Fin → Shared → Prop}
    (hC : h.get? C = some (excClassObj nm q C N bs bm hdct sn sub ab col dd k0 k1 k2 k3 k5 newId)) (hi : Looks (model prog w) h (typeLookup (.ref C) "__init__") (some (.ref fI)))
    (hfI : h.get? fI = some oI) (hfc : oI.cls = .type "function")
    (hq : ∀ h' e, Heap.MadeExcOf h h' e (.ref C) rest →
      wpAny (model prog w) A (call (.ref fI) (.ref e :: rest)) (fun r s' => r = .none ∧ Q (.done (.ret (.ref e))) s') E ⟨h', g, d, t, os⟩) (hrest : rest.length ≤ sizeLine := by size_fits) :
    wpAny (model prog w) A (Builtin.«type.__call__» ⟨.ref C :: rest, []⟩) Q E ⟨h, g, d, t, os⟩ := by
  repeat (first | with_reducible refine wpAny_loadPart_at hC ?_ | with_reducible refine wpAny_madeBy_exc hC ?_ | wp_step)
  refine codeAny_call_builtin_code (Code.quiet_builtin _ F.quiet) (x_check_new F T hC ?_)
  refine x_new F T hC ?_ hrest
  show wpAny _ _ _ _ _ _
  have hC₁ := Heap.get?_push_of_some { cls := .ref C, data := .fields #[.ref h.objs.size, .none, .none, .none, .bool false, .none] }
    (Heap.get?_push_of_some { cls := .type "tuple", data := .seq rest.toArray } hC)
  have hfI₁ := Heap.get?_push_of_some { cls := .ref C, data := .fields #[.ref h.objs.size, .none, .none, .none, .bool false, .none] }
    (Heap.get?_push_of_some { cls := .type "tuple", data := .seq rest.toArray } hfI)
  have hget : ((h.push { cls := .type "tuple", data := .seq rest.toArray }).push
      { cls := .ref C, data := .fields #[.ref h.objs.size, .none, .none, .none, .bool false, .none] }).get? (h.objs.size + 1) = some
      { cls := .ref C, data := .fields #[.ref h.objs.size, .none, .none, .none, .bool false, .none] } := by heap_get
  have hcC : (Value.ref C :: bm).contains (.ref C) = true := by simp
  unfold isInstance
  repeat (first | with_reducible refine wpAny_loadPart_at hget ?_ | (with_reducible refine wpAny_isSubtype_exc hC₁ ?_; rw [hcC]) | wp_step)
  show wpAny _ _ (typeLookup (.ref C) _) _ _ _
  refine (hi.keeps fun b o hb => Heap.get?_push_of_some _ (Heap.get?_push_of_some _ hb)).at ?_
  refine wpAny_holding (wpAny_bind ?_)
  unfold bindSpecial
  refine wpAny_bind (wpAny_typeOf (T := "function") ⟨_, hfI₁, hfc⟩ ?_)
  rw [if_pos (by decide)]
  refine wpAny_pure (wpAny_bind (wpAny_mono (hq _ (h.objs.size + 1) ⟨fun b o hb => Heap.get?_push_of_some _ (Heap.get?_push_of_some _ hb), Heap.get?_none_of_le (Nat.le_succ _), h.objs.size, hget, Heap.get?_none_of_le (Nat.le_refl _), ?_⟩) (fun r s' hr => ?_) fun _ _ x => x))
  · exact Heap.get?_push_of_some _ (Heap.get?_push_at rfl rfl)
  · obtain ⟨rfl, hQ⟩ := hr
    wp_walk
    exact hQ

theorem x_call (F : ExcBaseFacts B newId initId bmB) (T : goodMro bm B = true) {rest : List Value} {fI : Addr} {oI : Obj} {Q : Value → Shared → Prop}
    (hC : h.get? C = some (excClassObj nm q C N bs bm hdct sn sub ab col dd k0 k1 k2 k3 k5 newId)) (hi : Looks (model prog w) h (typeLookup (.ref C) "__init__") (some (.ref fI)))
    (hfI : h.get? fI = some oI) (hfc : oI.cls = .type "function")
    (hq : ∀ h' e, Heap.MadeExcOf h h' e (.ref C) rest →
      wpAny (model prog w) (A.under (.builtin "type.__call__" ⟨.ref C :: rest, []⟩)) (call (.ref fI) (.ref e :: rest)) (fun r s' => r = .none ∧ Q (.ref e) s') E ⟨h', g, d, t, os⟩) (hrest : rest.length ≤ sizeLine := by size_fits) :
    wpAny (model prog w) A (call (.ref C) rest) Q E ⟨h, g, d, t, os⟩ := by
  have f1 := tc_lookup
  have f2 := tc_bind (.ref C)
  have hT : (⟨h, g, d, t, os⟩ : Shared).TypeIs (.ref C) "type" := ⟨_, hC, rfl⟩
  refine wpAny_call (codeAny_of_tree ?_)
  show wpAny _ _ (callAny (.ref C) _) _ _ _
  repeat (any_goals (first | assumption | with_reducible refine wpAny_loadPart_at hC ?_ | wp_step))
  refine ⟨rfl, ?_⟩
  refine codeAny_call_builtin_at (Code.quiet_builtin _ (by decide +kernel)) entry_typeCall (wpAny_check_type_call_sub hC (x_type_call (hrest := hrest) F T hC hi hfI hfc fun h' e hm => ?_))
  exact hq h' e hm

theorem x_raiseStmt {M : Model} {s : Shared} {x : Sem Value} {env : Env} {Q : Flow → Shared → Prop} (hbase : bm.contains (.type "BaseException") = true) (hh : A.handled = none)
    (h : wpAny M A x (fun v s₁ => ∃ e o, v = .ref e ∧ s₁.heap.get? C = some (excClassObj nm q C N bs bm hdct sn sub ab col dd k0 k1 k2 k3 k5 newId) ∧
      s₁.heap.get? e = some o ∧ o.cls = .ref C ∧ (∃ t : Addr, o.data = .fields #[.ref t, .none, .none, .none, .bool false, .none]) ∧ E (.ref e) s₁) E s) :
    wpAny M A (raiseStmt env (some x) none) Q E s := by
  have hcB : (Value.ref C :: bm).contains (.type "BaseException") = true := by rw [List.contains_cons, hbase, Bool.or_true]
  unfold raiseStmt
  refine wpAny_bind (wpAny_mono h (fun v s₁ h₁ => ?_) fun _ _ x => x)
  obtain ⟨e, o, rfl, hC, he, hoc, ⟨vs, hod⟩, hE⟩ := h₁
  obtain ⟨hp, g, d, tk, os⟩ := s₁
  obtain ⟨oc, odi, oda, osl⟩ := o
  simp only at hoc hod
  subst hoc hod
  repeat (first | with_reducible refine wpAny_loadPart_at he ?_ | with_reducible refine wpAny_loadPart_at hC ?_ | (with_reducible refine wpAny_isSubtype_exc hC ?_; rw [hcB]) | wp_step)
  exact wpAny_raiseNew_none hh hE
end

/-! ## its first field stored -/
section
variable {c : Cx} {A : Around} {R : Result → Shared → Prop} {s : Shared} {x C : Addr}
theorem x_store {ox : Obj} {name : Str} {tk : Tok} {v : Value} {cd : ClassData} (X : c.K.In s.heap) (hx : s.heap.get? x = some ox) (hcx : ox.cls = .ref C) (hdx : ox.dict = none) {fv : Array Value} (hno : ox.data = .fields fv)
    (hcl : clsIn c.K C = some cd) (hdct : cd.hasDict = true) (hobj : cd.mro.contains (.type "object") = true) (hne : cd.mro.isEmpty = false) (hpass : ∀ self, refuseLoop self "__setattr__" cd.mro = pure ())
    (ht : takerIn c.K C name = some none)
    (h : ∀ h' tk' dx, (∀ b o, b ≠ x → s.heap.get? b = some o → h'.get? b = some o) → h'.get? x = some { ox with dict := some dx } → R (.ok (.ret .none)) { s with heap := h', toks := tk' }) :
    codeAny c.M A (.call (.builtin "object.__setattr__") ⟨[.ref x, .str name tk, v], []⟩) R s := by
  have SF := PySem.F.store_object
  have Ty : Looks c.M s.heap (typeOf (.ref x)) (.ref C) := by
    have := (Looks.ld (M := c.M) (part := some headPart) hx).andThen (f := fun o => pure o.cls) .now
    rw [hcx] at this
    exact this
  have sub : Looks c.M s.heap (isInstance (.ref x) (.type "object")) true := Ty.andThen (looks_mroIn X (by unfold mroIn; rw [hcl, Option.bind_some, if_neg (by rw [hne]; decide), hobj]))
  refine codeAny_call_builtin SF.slot.plain SF.entry (@check_slot c.M _ _ s "object.__setattr__" "object" "__setattr__" (.ref x) [.str name tk, v] [] _ SF.kind SF.split sub (SF.args (.ref x) (.str name tk) v) ?_)
  obtain ⟨attr, ha, hr⟩ := Option.bind_eq_some_iff.mp ht
  have hm : Looks c.M s.heap (mroOf (.ref C)) cd.mro := (looks_clsIn X hcl).andThen .now
  have L3 : Looks c.M s.heap (storeTaker? attr) none := by
    cases attr with
    | none => exact .now
    | some a =>
      obtain ⟨b, hb, hr⟩ := Option.map_eq_some_iff.mp hr
      refine (looks_takesIn X hb).andThen ?_
      cases b
      · exact .now
      · cases hr
  rw [osa_eq, refuse_eq]
  refine wpAny_bind (wpAny_bind (Ty.here (wpAny_bind (hm.here ?_))))
  rw [hpass]
  refine wpAny_pure (wpAny_bind (Ty.here (wpAny_bind ((looks_findIn X ha).here (wpAny_bind (L3.here ?_))))))
  show wpAny _ _ (storeInOwnDict (.ref x) (.ref C) (.str name tk) name v attr.isSome) _ _ _
  obtain ⟨oc, odi, oda, osl⟩ := ox
  simp only at hcx hdx hno
  subst hcx hdx hno
  refine wpAny_bind (wpAny_pure (wpAny_bind (wpAny_bind (wpAny_loadPart hx (wpAny_bind ((looks_clsIn X hcl).here ?_))))))
  rw [hdct]
  rw [if_neg (by decide), if_neg (by simp [typeHasDict])]
  have hx₁ : (s.heap.push { cls := .type "dict", data := .dict #[] }).get? x = some { cls := .ref C, dict := none, data := .fields fv, slots := osl } := Heap.get?_push_of_some _ hx
  have hxs : x ≠ s.heap.objs.size := Nat.ne_of_lt (Heap.lt_size hx)
  obtain ⟨hh, g, d, t, os⟩ := s
  refine wpAny_bind (wpAny_alloc' ?_)
  refine wpAny_bind (wpAny_update' hx₁ ?_)
  refine wpAny_pure ?_
  have hgd : ((hh.push { cls := .type "dict", data := .dict #[] }).update x fun o => { cls := o.cls, dict := some hh.objs.size, data := o.data, slots := o.slots }).get? hh.objs.size
      = some { cls := .type "dict", data := .dict #[] } :=
    (Heap.get?_update_ne _ _ _ _ hxs.symm).trans (Heap.get?_push_at rfl rfl)
  have hnd : ((hh.push { cls := .type "dict", data := .dict #[] }).update x fun o => { cls := o.cls, dict := some hh.objs.size, data := o.data, slots := o.slots }).Ns hh.objs.size (fun _ => none) :=
    ⟨_, #[], _, hgd, rfl, fun e he => absurd he (by simp), fun _ => rfl⟩
  show wpAny _ _ (storeInDict hh.objs.size (.str name tk) name v) _ _ _
  unfold storeInDict newKeyGuard
  refine wpAny_bind (wpAny_pure (wpAny_bind (wpAny_nsSet1 (Heap.Ns1.of_empty hnd) fun h' hn' hs => ?_)))
  obtain ⟨oD, esD, epD, hoD, hdD, hcD⟩ := hn'.count (Within.cons name v Within.nil)
  refine wpAny_bind (wpAny_lookBehind hoD (by rw [hdD]; exact pastItsLine_dict (Nat.le_trans hcD (by rw [List.length_cons, List.length_nil, sizeLine_eq]; lia))) ?_)
  wp_walk
  refine h h' _ hh.objs.size (fun b ob hbx hb => ?_) ?_
  · exact (hs.2 b (Nat.ne_of_lt (Heap.lt_size hb))).trans ((Heap.get?_update_ne _ _ _ _ hbx).trans (Heap.get?_push_of_some _ hb))
  · exact (hs.2 x hxs).trans (Heap.get?_update_self _ hx₁ rfl)
end

end

/- S11 -/
section
open PySem.Builtin PySem.Builtin.ObjectAttr

noncomputable def xType : Value → Bool
  | .type n => n == "type"
  | _ => false
noncomputable def xMro (C : Addr) : List Value → Bool
  | .ref C' :: bm => C' == C && goodMro bm "ValueError"
  | _ => false
noncomputable def xData (C : Addr) : Data → Bool
  | .cls cd => xMro C cd.mro && !cd.hasDel
  | _ => false
noncomputable def xNew : Option Value → Bool
  | some (.builtin n) => n == "ValueError.__new__"
  | _ => false
noncomputable def xTl (f : List (Option Value) → Bool) : List (Option Value) → Bool
  | _ :: l => f l
  | [] => false
noncomputable def xHd : List (Option Value) → Bool
  | a :: l => xNew a && xTl (fun l => l.isEmpty) l
  | [] => false
noncomputable def xSlots : List (Option Value) → Bool := xTl (xTl (xTl (xTl xHd)))
noncomputable def xObj (C : Addr) (o : Obj) : Bool := xType o.cls && xData C o.data && xSlots o.slots.toList
noncomputable def xIn (K : Frag) (C : Addr) : Bool := (K.lookup C).any (xObj C)
inductive IsExc (h : Heap) (C : Addr) : Prop
  | mk (nm qn : Str) (N : Addr) (bs bm : List Value) (hdct : Bool) (sn : List Str) (sub : List Value) (ab : Bool) (col : Option Bool) (dd : Option Addr) (k0 k1 k2 k3 k5 : Option Value)
    (at_ : h.get? C = some (excClassObj nm qn C N bs bm hdct sn sub ab col dd k0 k1 k2 k3 k5 "ValueError.__new__")) (good : goodMro bm "ValueError" = true)
theorem xType_inv {v : Value} (h : xType v = true) : v = .type "type" := by
  unfold xType at h
  split at h
  · rw [beq_iff_eq.mp h]
  · cases h
theorem xMro_inv {C : Addr} {l : List Value} (h : xMro C l = true) : ∃ bm, l = .ref C :: bm ∧ goodMro bm "ValueError" = true := by
  unfold xMro at h
  split at h
  · rw [Bool.and_eq_true] at h
    exact ⟨_, by rw [beq_iff_eq.mp h.1], h.2⟩
  · cases h
theorem xData_inv {C : Addr} {d : Data} (h : xData C d = true) : ∃ cd, d = .cls cd ∧ cd.hasDel = false ∧ ∃ bm, cd.mro = .ref C :: bm ∧ goodMro bm "ValueError" = true := by
  unfold xData at h
  split at h
  · rw [Bool.and_eq_true, Bool.not_eq_true'] at h
    exact ⟨_, rfl, h.2, xMro_inv h.1⟩
  · cases h
theorem xNew_inv {o : Option Value} (h : xNew o = true) : o = some (.builtin "ValueError.__new__") := by
  unfold xNew at h
  split at h
  · rw [beq_iff_eq.mp h]
  · cases h
theorem xTl_inv {f : List (Option Value) → Bool} : ∀ {l : List (Option Value)}, xTl f l = true → ∃ a t, l = a :: t ∧ f t = true
  | a :: t, h => ⟨a, t, rfl, h⟩
  | [], h => nomatch h
theorem xHd_inv : ∀ {l : List (Option Value)}, xHd l = true → ∃ k, l = [some (.builtin "ValueError.__new__"), k]
  | a :: t, h => by
    obtain ⟨h1, h2⟩ := Bool.and_eq_true_iff.mp h
    obtain ⟨k, t, rfl, h3⟩ := xTl_inv h2
    cases List.isEmpty_iff.mp h3
    exact ⟨k, by rw [xNew_inv h1]⟩
  | [], h => nomatch h
theorem xSlots_inv {l : List (Option Value)} (h : xSlots l = true) : ∃ k0 k1 k2 k3 k5, l = [k0, k1, k2, k3, some (.builtin "ValueError.__new__"), k5] := by
  obtain ⟨k0, _, rfl, h0⟩ := xTl_inv h
  obtain ⟨k1, _, rfl, h1⟩ := xTl_inv h0
  obtain ⟨k2, _, rfl, h2⟩ := xTl_inv h1
  obtain ⟨k3, _, rfl, h3⟩ := xTl_inv h2
  obtain ⟨k5, rfl⟩ := xHd_inv h3
  exact ⟨k0, k1, k2, k3, k5, rfl⟩
theorem any_inv {α : Type} {p : α → Bool} : ∀ {o : Option α}, o.any p = true → ∃ x, o = some x ∧ p x = true
  | some x, h => ⟨x, rfl, h⟩
  | none, h => nomatch h
theorem x_cls {K : Frag} {h : Heap} {C : Addr} (X : K.In h) (q : xIn K C = true) : IsExc h C := by
  obtain ⟨⟨cls, dd, data, ⟨sl⟩⟩, ho, q⟩ := any_inv q
  simp only [xObj, Bool.and_eq_true] at q
  obtain ⟨⟨q1, q2⟩, q3⟩ := q
  obtain ⟨⟨nm, bs, mro, ns, qn, hd, sn, sub, ab, col, del⟩, rfl, hdel, bm, hm, hg⟩ := xData_inv q2
  obtain ⟨k0, k1, k2, k3, k5, rfl⟩ := xSlots_inv q3
  cases xType_inv q1
  cases hm
  cases hdel
  exact ⟨nm, qn, ns, bs, bm, hd, sn, sub, ab, col, dd, k0, k1, k2, k3, k5, X _ _ ho, hg⟩

structure ExcOk (c : Cx) (x : Str) (C fI : Nat) (qual : Str) (cdv : Value) (sc' : Scope) (p1 p2 p3 p4 : Pos) : Prop where
  ex : nsIn c.K mainGlobals x = some (some (.ref C))
  cls : xIn c.K C = true
  init : findIn c.K (.ref C) "__init__" = some (some (.ref fI))
  ifn : FnIs c fI 2 qual cdv ["self", "reason"] 0 [] [] [.Assign [.Attribute (.Name "self" p1) "reason" p2] (.Name "reason" p3) p4] sc'
  fn : isFn c.K (.ref fI) = true
  sa : findIn c.K (.ref C) "__setattr__" = some (some (.builtin "object.__setattr__"))
  cd : ∃ cd C2, clsIn c.K C = some cd ∧ cd.hasDict = true ∧ cd.mro = [.ref C, .ref C2, .type "ValueError", .type "Exception", .type "BaseException", .type "object"]
  tk : takerIn c.K C "reason" = some none
  k1 : ∀ f : Fm, (f.env sc').kindOf "self" = some .local
  k2 : ∀ f : Fm, (f.env sc').kindOf "reason" = some .local
  sw : ∀ f : Fm, swapsWith (.Name "reason" p3) (some (.Attribute (.Name "self" p1) "reason" p2)) p4.line (f.env sc') = pure false

section
variable {c : Cx} {n : Nat} {tn : Bool} {sc : Scope}
theorem isFn_at {K : Frag} {h : Heap} {a : Addr} (X : K.In h) (q : isFn K (.ref a) = true) : ∃ o, h.get? a = some o ∧ o.cls = .type "function" := by
  have q : typeIn K (.ref a) = some (.type "function") := beq_iff_eq.mp q
  unfold typeIn at q
  obtain ⟨o, ho, hc⟩ := Option.map_eq_some_iff.mp q
  exact ⟨o, X _ _ ho, hc⟩

theorem get_ne {h : Heap} {a b : Addr} {o : Obj} (h1 : h.get? a = some o) (h2 : h.get? b = none) : a ≠ b := by
  rintro rfl
  cases h1.symm.trans h2
theorem Fr.ne {g h : Heap} {L e : Addr} {m : Str → Option Value} (F : Fr g L h m) (h0 : h.get? e = none) : e ≠ L := by
  obtain ⟨o, es, ep, e1, e2⟩ := F.ns
  exact (get_ne e1 h0).symm
theorem Fr.kept {g h h' : Heap} {L : Addr} {m : Str → Option Value} (F : Fr g L h m) (k : ∀ b o, h.get? b = some o → h'.get? b = some o) : Fr g L h' m := by
  obtain ⟨⟨o, es, ep, e1, e2⟩, kp, ab⟩ := F
  exact ⟨⟨o, es, ep, k _ _ e1, e2⟩, fun b o q => k _ _ (kp b o q), ab⟩
theorem Fr.part {g h h' : Heap} {L : Addr} {m : Str → Option Value} (F : Fr g L h m) {x : Addr} (hx : x ≠ L) (hn : g.get? x = none) (k : ∀ b o, b ≠ x → h.get? b = some o → h'.get? b = some o) : Fr g L h' m := by
  obtain ⟨⟨o, es, ep, e1, e2⟩, keep, above⟩ := F
  refine ⟨⟨o, es, ep, k _ _ hx.symm e1, e2⟩, fun b o e => k b o (fun q => ?_) (keep b o e), above⟩
  rw [q, hn] at e
  cases e

theorem not_mem2 {a b x : Addr} (h1 : x ≠ a) (h2 : x ≠ b) : x ∉ [a, b] := by simp [h1, h2]
theorem Fr.hide2 {g h : Heap} {L a b : Addr} {m : Str → Option Value} (F : Fr g L h m) (h1 : a ≠ L) (h2 : b ≠ L) (n1 : g.get? a = none) (n2 : g.get? b = none) : Fr g L (hideAll h [a, b]) m := by
  obtain ⟨⟨o, es, ep, e1, e2⟩, kb, ab⟩ := F
  exact ⟨⟨o, es, ep, hideAll_get _ e1 (not_mem2 h1.symm h2.symm), e2⟩, fun x o q => hideAll_get _ (kb x o q) (not_mem2 (get_ne q n1) (get_ne q n2)), ab⟩
theorem x_init {x : Str} {C fI : Nat} {qual : Str} {cdv : Value} {sc' : Scope} {p1 p2 p3 p4 : Pos} (I : ExcOk c x C fI qual cdv sc' p1 p2 p3 p4) {f : Fm} {g₀ : Heap} {ρ : Loc} {σ : Store} {W : Wd} {s : Shared} (hc : c.Ok) (hf : FOk (n + 2) sc f) {m : Str → Option Value}
    (G : StG c f tn g₀ sc.names ρ σ W s g₀ m) {V : Value} {h' : Heap} {e : Addr} (hm : Heap.MadeExcOf s.heap h' e (.ref C) [V]) {Q : Value → Shared → Prop} {E : Value → Shared → Prop}
    (hq : ∀ s', StG c f tn g₀ sc.names ρ σ W s' g₀ m → (∃ h, Fr g₀ f.L h m ∧ News g₀ f.L h W.news ∧ MadeX h s'.heap e C) → Q .none s') :
    wpAny c.M ((f.A sc).under (.builtin "type.__call__" ⟨.ref C :: [V], []⟩)) (call (.ref fI) [.ref e, V]) Q E { s with heap := h' } := by
  obtain ⟨oc, od, osl, name, params, dV, kV, doc, pm, an, ct, ho, hbind⟩ := I.ifn.ho
  obtain ⟨t, he, htn, ht⟩ := hm.there
  have hne : g₀.get? e = none := kts_none G.F.keep hm.new
  have hnt : g₀.get? t = none := kts_none G.F.keep htn
  have F₁ : Fr g₀ f.L h' m := Fr.kept G.F hm.keeps
  have heL : e ≠ f.L := Fr.ne G.F hm.new
  have htL : t ≠ f.L := Fr.ne G.F htn
  have N₁ : News g₀ f.L h' ((e, { cls := .ref C, data := .fields #[.ref t, .none, .none, .none, .bool false, .none] }) :: (t, { cls := .type "tuple", data := .seq [V].toArray }) :: W.news) := by
    intro q hq
    rcases List.mem_cons.mp hq with rfl | hq
    · exact ⟨he, heL, hne⟩
    rcases List.mem_cons.mp hq with rfl | hq
    · exact ⟨ht, htL, hnt⟩
    · exact ⟨hm.keeps _ _ (G.N q hq).1, (G.N q hq).2⟩
  have X₁ : c.K.In h' := (G.X hc).keeps F₁.keep
  refine wpAny_call (code_defX (A := (f.A sc).under (.builtin "type.__call__" ⟨.ref C :: [V], []⟩)) (s := { s with heap := h' }) (env := f.env sc) G.B F₁ (G.X hc) N₁ (G.Tp hc) hc.XB hc.TB G.D (KtsTurn.refl (g := g₀)) ?_ rfl hf.kind ho I.ifn.code ?_ (hbind { s with heap := h' } X₁ [.ref e, V] rfl) ?_ ?_ I.ifn.co I.ifn.gen I.ifn.kind I.ifn.cell)
  · show (f.A sc).frames = _
    show (f.A₀.frames.map _) = _
    rw [G.B.stack]
    rfl
  · have := hf.depth
    rw [depth_under_make]
    lia
  · intro y hy
    obtain ⟨y1, y2⟩ := List.of_mem_zip hy
    obtain ⟨i, hi⟩ := List.getElem?_of_mem y1
    exact names_lookup I.ifn.nodup (I.ifn.pars i _ hi)
  intro g' L' h₁ FG F' N' B' X' T' D'
  obtain ⟨cd, C2, hcd, hdict, hmro⟩ := I.cd
  let f' : Fm := ⟨(f.A sc).under (.builtin "type.__call__" ⟨.ref C :: [V], []⟩), f.env sc :: f.outer, qual, L', fI, cdv, []⟩
  refine wpAny_execs_cons (plainObj_wpAny_Assign_Attribute (ld F' (v := V) rfl (ld F' (v := .ref e) rfl ?_ I.ifn.kind (I.k1 f')) I.ifn.kind (I.k2 f')) (I.sw f'))
  have hee := (N' _ (.head _))
  refine set_plain (X'.keeps F'.keep) (ox := { cls := .ref C, data := .fields #[.ref t, .none, .none, .none, .bool false, .none] }) (od := none) ⟨hee.1, rfl, rfl, trivial⟩ I.sa ?_
  refine x_store (X'.keeps F'.keep) hee.1 rfl rfl (fv := _) rfl hcd hdict (by rw [hmro]; simp) (by rw [hmro]; rfl) (fun self => ?_) I.tk fun h₂ tk₂ dx kp hx => ?_
  · rw [hmro, refuseLoop_ref, refuseLoop_ref]
    exact PySem.F.store_ValueError.passes self
  have Nt := N' _ (.tail _ (.head _))
  have hte : t ≠ e := fun z => by
    cases (z ▸ ht : h'.get? e = _).symm.trans he
  have hWe : ∀ q ∈ W.news, q.1 ≠ e := fun q hq => get_ne (G.N q hq).1 hm.new
  have hWt : ∀ q ∈ W.news, q.1 ≠ t := fun q hq => get_ne (G.N q hq).1 htn
  have F₂ : Fr g' L' h₂ _ := Fr.part F' hee.2.1 hee.2.2 kp
  have N₂ : News g' L' h₂ ((t, { cls := .type "tuple", data := .seq [V].toArray }) :: W.news) := by
    intro q hq
    rcases List.mem_cons.mp hq with rfl | hq
    · exact ⟨kp _ _ hte Nt.1, Nt.2⟩
    · have z := N' _ (.tail _ (.tail _ hq))
      exact ⟨kp _ _ (hWe q hq) z.1, z.2⟩
  refine wpAny_execs_nil (leaveS_l F₂ N₂ fun Fb Nb => ?_)
  refine hq _ ⟨G.B, Fb, fun q hq => Nb q (.tail _ hq), G.D, G.T, G.T0, G.R, G.S, G.e1, G.e2, G.e3⟩ ⟨hideAll h₂ [e, t], ?_, ?_, fun b o q => of_hideAll _ q, hideAll_none _ (.head _), t, _, [V], hx, rfl, rfl, hideAll_none _ (.tail _ (.head _)), ⟨_, _, (Nb _ (.head _)).1, rfl, rfl⟩⟩
  · exact Fr.hide2 Fb heL htL hne hnt
  · intro q hq
    have z := Nb q (.tail _ hq)
    exact ⟨hideAll_get _ z.1 (not_mem2 (hWe q hq) (hWt q hq)), z.2⟩

noncomputable def mRaise (C : Nat) : MS := fun _ σ => .exc C σ
theorem sim_raise {x : Str} {C fI : Nat} {qual : Str} {cdv : Value} {sc' : Scope} {p1 p2 p3 p4 : Pos} (I : ExcOk c x C fI qual cdv sc' p1 p2 p3 p4) {np cpos pos : Pos} {e : Expr} {l : List Nat} (hx : ∀ f : Fm, (f.env sc).kindOf x = some .globalImplicit) (hd : (x == ("__debug__" : Str)) = false) (hn : notStar e = true)
    (ha : SimE c (n + 2) tn sc e (mVal (.str l))) : Sim1 c (n + 2) tn sc (.Raise (some (.Call (.Name x np) [e] [] cpos)) none pos) (mRaise C) := by
  intro f g₀ ρ σ W s hc hf hs hg Q E hE hq he
  have htn : tn = false := hg
  subst htn
  rw [arm_exec_Raise]
  have X₀ : c.K.In s.heap := hs.In hc
  obtain ⟨g, m, G⟩ := hs
  obtain rfl := G.T0 rfl
  obtain ⟨nm, q, N, bs, bm, hdct, sn, sub, ab, col, dd, k0, k1, k2, k3, k5, hC₀, hgood⟩ := x_cls (G.X hc) I.cls
  have hbase : bm.contains (.type "BaseException") = true := by
    simp only [goodMro, Bool.and_eq_true, Bool.not_eq_true'] at hgood
    exact hgood.1.1.1.2
  refine wpAny_bind (wpAny_standAt (x_raiseStmt (C := C) (nm := nm) (q := q) (N := N) (bs := bs) (bm := bm) (hdct := hdct) (sn := sn) (sub := sub) (ab := ab) (col := col) (dd := dd) (k0 := k0) (k1 := k1) (k2 := k2) (k3 := k3) (k5 := k5) (newId := "ValueError.__new__") hbase hf.handled ?_))
  refine wpAny_bind (wpAny_mono (wpAny_Call_ofName (nameX_K G.F (G.X hc) (topRead_of (G.Tp hc)) I.ex ?_ hf.kind (hx f) hd)) (fun v s₃ h₃ => wpAny_bind (wpAny_standAt (wpAny_pure h₃))) fun _ _ x => x)
  refine callWith_any (by simp [hn]) (fun h X => ?_) ?_
  · obtain ⟨nm, q, N, bs, bm, hdct, sn, sub, ab, col, dd, k0, k1, k2, k3, k5, hC, _⟩ := x_cls X I.cls
    refine ⟨.machine, .inr (.inl rfl), fun A Q E s₁ k q => ?_⟩
    obtain ⟨hh, gg, dr, tk, os⟩ := s₁
    exact wpAny_keeperOf_exc (k _ _ hC) q
  rw [starEach_cons hn]
  refine spliced_cons (ha f g ρ σ W s hc hf G.st trivial _ E (fun v σ₂ V W₂ s₂ e2 l2 G2 r2 => ?_) fun _ _ _ _ _ q _ _ => nomatch q)
  obtain ⟨g2, m2, G2⟩ := G2
  obtain rfl := G2.T0 rfl
  cases e2
  refine spliced_nil ⟨G2.Xs hc, ?_⟩
  obtain ⟨oI, hfI, hfc⟩ := isFn_at (G2.Xs hc) I.fn
  have hC₂ := (G2.F.keep _ _ hC₀)
  have Lk : Looks c.M s₂.heap (typeLookup (.ref C) "__init__") (some (.ref fI)) := looks_findIn (G2.Xs hc) I.init
  obtain ⟨hh, gg, dr, tk, os⟩ := s₂
  refine x_call (PySem.F.excBase_ValueError) hgood (rest := [V]) hC₂ Lk hfI hfc (fun h' e' hm => ?_) (by show 1 ≤ sizeLine; rw [sizeLine_eq]; decide)
  refine x_init I hc hf G2 hm fun s' Gs hmade => ⟨rfl, ?_⟩
  obtain ⟨h, F', N', M'⟩ := hmade
  obtain ⟨kp, en, t, o, vs, hoe, hoc, hod, htn, htt⟩ := M'
  exact ⟨e', o, rfl, Gs.F.keep _ _ hC₀, hoe, hoc, ⟨t, hod⟩, he C σ e' W₂ s' rfl l2 ⟨Gs.S, Gs.e1, Gs.e2, Gs.e3, Gs.B, Gs.D, .inl ⟨h, _, F', N', kp, en, t, o, vs, hoe, hoc, hod, htn, htt⟩⟩⟩
end

end

/- S12 -/

/-! ## a call tried -/
noncomputable def mTry (i : Nat) (F : List AV → Store → Res AV) (ma : ME) (C : Nat) (l : List Nat) : MS := fun ρ σ => (ma ρ σ).bind fun v σ => match F [v] σ with
  | .ok r σ => .ok (.next, ρ.set i (some r)) σ
  | .exc C' σ => if C' = C then .ok (.ret (.str l), []) σ else .stuck
  | .stuck => .stuck
section
variable {c : Cx} {n : Nat} {sc : Scope}
theorem sim_try {x fn y : Str} {i k C : Nat} {F : List AV → Store → Res AV} {ma : ME} {e : Expr} {l : List Nat} {kk : Nat} {p1 np cp ap xp kp rp hp pos : Pos} {V : Value} {msg : Str}
    (hi : LocIdx sc x i) (hV : SimE c n true sc (.Name fn np) (mVal (.lit V))) (hK : KeepV c V) (hF : FnX c k false V F) (hk : k ≤ n) (hn : notStar e = true) (ha : SimE c n true sc e ma)
    (hsw : ∀ f : Fm, swapsWith (.Call (.Name fn np) [e] [] cp) (some (.Name x p1)) ap.line (f.env sc) = pure false)
    (ex : nsIn c.K mainGlobals y = some (some (.ref C))) (q : ktsIn c.K C "BaseException" = true) (hcell : ∀ x ∈ sc.names, x.2 ≠ NameKind.cell) (hy : ∀ f : Fm, (f.env sc).kindOf y = some .globalImplicit) (hd : (y == ("__debug__" : Str)) = false) (hl : msg = sOf l) :
    Sim1 c n true sc (.Try [.Assign [.Name x p1] (.Call (.Name fn np) [e] [] cp) ap] [.ExceptHandler (some (.Name y xp)) none [.Return (some (.Constant (.str msg) kk kp)) rp] hp] [] [] pos) (mTry i F ma C l) := by
  subst hl
  intro f g₀ ρ σ W s hc hf hs hg Q E hE hq he
  obtain ⟨A₀, outer, name, L, a, cd, cl⟩ := f
  obtain rfl : cl = [] := hf.cells hcell
  generalize hfe : (⟨A₀, outer, name, L, a, cd, []⟩ : Fm) = f at *
  refine wpAny_Try_except (wpAny_execs_cons (wpAny_Assign_Name ?_ (hsw f)))
  refine wpAny_Call_ofName (hV f g₀ ρ σ W s hc hf hs trivial _ _ (fun v σ₁ V₁ W₁ s₁ e1 l1 G1 r1 => ?_) fun _ _ _ _ _ q _ _ => nomatch q)
  cases e1
  cases r1.lit_inv
  refine callWith_any (by simp [hn]) hK ?_
  rw [starEach_cons hn]
  have hga := Res.good_bind hg
  refine spliced_cons (ha f g₀ ρ σ W₁ s₁ hc hf G1 hga _ _ (fun v σ₂ V₂ W₂ s₂ e2 l2 G2 r2 => ?_) fun C σ' e W' s' q _ _ => by rw [q] at hga; cases hga)
  unfold mTry at hg hq
  rw [e2] at hg hq
  refine spliced_nil ⟨G2.In hc, ?_⟩
  obtain ⟨g, m, G⟩ := G2
  have hgF : (F [v] σ₂).good false := by
    cases z : F [v] σ₂ with
    | ok => trivial
    | exc => exact rfl
    | stuck => simp only [Res.bind, z] at hg; exact hg
  refine hF sc f g ρ σ₂ W₂ s₂ hc (hf.mono hk) G.down.st [v] [V₂] (.cons r2 .nil) hgF _ _ ?_ ?_
  · intro r σ' V' W' s' z l G' rr
    simp only [Res.bind, z] at hq
    exact st_set hf (G.up G') hi rr fun s'' G'' => wpAny_execs_nil (wpAny_execs_nil (hq _ _ _ _ W' s'' rfl ((l1.trans l2).trans l) G'' .next))
  · intro C' σ' e W' s' z l FF FR
    simp only [Res.bind, z] at hg hq
    by_cases hC : C' = C
    · subst hC
      rw [if_pos rfl] at hq
      obtain ⟨GG, mm, t, vs, Fa, Ra, Ua⟩ := FR
      subst hfe
      refine wpAny_mono (caught_SO0 (E := fun _ _ => False) Ra Fa FF.B Ua hc.XB hc.TB FF.D G.T ex q (fun h' g' news₂ T' F' N₂ _ N' B' X' P' D' => ?_) hf.kind (hy ⟨A₀, outer, name, L, a, cd, []⟩) hd .never) (fun _ _ z => wpAny_mono z (fun _ _ z => wpAny_mono z (fun _ _ z => z) fun _ _ z => z.elim) fun _ _ z => z.elim) fun _ _ z => z.elim
      refine wpAny_execs_cons (wpAny_Return_some (Constant_str ?_))
      exact hq _ _ _ _ W' _ rfl ((l1.trans l2).trans l) ⟨g', mm, B', F', N', D', T', fun q => Bool.noConfusion q, fun i x k v _ e => (nomatch e), FF.S, FF.e1, FF.e2, FF.e3⟩ (.ret (.str _ _))
    · rw [if_neg hC] at hg
      exact hg.elim
end

/- S13 -/

/-! ## objects that stand beside the store -/
section
variable {c : Cx} {tn : Bool} {f : Fm} {g₀ g : Heap} {names : List (Str × NameKind)} {ρ : Loc} {σ : Store} {W : Wd} {s : Shared} {m : Str → Option Value}
theorem News.turnAt {L : Addr} {h h' : Heap} {news : List (Addr × Obj)} {d : Addr} {o o' : Obj} (N : News g L h news) (h1 : (d, o) ∈ news) (hs : Heap.SameBut d h h') (ho : h'.get? d = some o') : News g L h' (Mine.turn d o' news) := by
  intro p hp
  have z := N _ h1
  rcases List.mem_cons.mp hp with rfl | hp
  · exact ⟨ho, z.2⟩
  · have h2 := List.mem_filter.mp hp
    have h3 := N p h2.1
    exact ⟨(hs.2 _ (by simpa using h2.2)).trans h3.1, h3.2⟩
noncomputable def notTup (o : Obj) : Prop := ∀ vs n, o ≠ tupO vs n
theorem StG.turnO (G : StG c f tn g₀ names ρ σ W s g m) {it : Addr} {o o' : Obj} (hm : (it, o) ∈ W.news) (hn : it ∉ W.φ) (ht : notTup o)
    {h' : Heap} (hs : Heap.SameBut it s.heap h') (ho : h'.get? it = some o') (t : Nat) : StG c f tn g₀ names ρ σ ⟨W.φ, Mine.turn it o' W.news⟩ { s with heap := h', toks := t } g m ∧ Wd.Wk c W ⟨W.φ, Mine.turn it o' W.news⟩ := by
  have z := G.N _ hm
  have wk : Wd.Wk c W ⟨W.φ, Mine.turn it o' W.news⟩ := ⟨fun _ _ e => e, fun a vs k e => e.imp (fun ⟨e1, e2⟩ => ⟨turn_mem e1 fun q => by
    have q : a = it := q
    subst q
    exact ht _ _ (News.functional G.N hm e1), e2⟩) id⟩
  exact ⟨⟨G.B, G.F.change hs z.2.1 z.2.2, News.turnAt G.N hm hs ho, G.D, G.T, G.T0, G.R.wk wk, G.S.wk wk rfl fun a o h1 h2 => turn_mem h1 fun q => hn ((show a = it from q) ▸ h2), G.e1, G.e2, G.e3⟩, wk⟩
theorem StG.dropO (G : StG c f tn g₀ names ρ σ W s g m) {it : Addr} {o : Obj} (hm : (it, o) ∈ W.news) (hn : it ∉ W.φ) (ht : notTup o)
    {h' : Heap} (hs : Heap.ExtBut it s.heap h') : StG c f tn g₀ names ρ σ ⟨W.φ, W.news.filter (·.1 != it)⟩ { s with heap := h' } g m ∧ Wd.Wk c W ⟨W.φ, W.news.filter (·.1 != it)⟩ := by
  have z := G.N _ hm
  have sub : ∀ (a : Addr) (q : Obj), (a, q) ∈ W.news → a ≠ it → (a, q) ∈ W.news.filter (·.1 != it) := fun a q h1 h2 => List.mem_filter.mpr ⟨h1, by simpa using h2⟩
  have wk : Wd.Wk c W ⟨W.φ, W.news.filter (·.1 != it)⟩ := ⟨fun _ _ e => e, fun a vs k e => e.imp (fun ⟨e1, e2⟩ => ⟨sub _ _ e1 fun q => by
    subst q
    exact ht _ _ (News.functional G.N hm e1), e2⟩) id⟩
  refine ⟨⟨G.B, Fr.extBut' G.F hs z.2.1 z.2.2, fun p hp => ?_, G.D, G.T, G.T0, G.R.wk wk, G.S.wk wk rfl fun a o h1 h2 => sub _ _ h1 fun q => hn (q ▸ h2), G.e1, G.e2, G.e3⟩, wk⟩
  have h2 := List.mem_filter.mp hp
  have h3 := G.N p h2.1
  exact ⟨hs _ _ (by simpa using h2.2) h3.1, h3.2⟩
theorem Wd.Le.turnO {W' : Wd} (l : W.Le W') {it : Addr} {o' : Obj} (hfr : ∀ p ∈ W.news, p.1 ≠ it) : W.Le ⟨W'.φ, Mine.turn it o' W'.news⟩ := ⟨l.φ, fun a q h1 h2 => by
  obtain ⟨q1, q2⟩ := l.keep a q h1 h2
  exact ⟨turn_mem q1 (hfr _ h1), q2⟩⟩
theorem Wd.Le.dropO {W' : Wd} (l : W.Le W') {it : Addr} (hfr : ∀ p ∈ W.news, p.1 ≠ it) : W.Le ⟨W'.φ, W'.news.filter (·.1 != it)⟩ := ⟨l.φ, fun a q h1 h2 => by
  obtain ⟨q1, q2⟩ := l.keep a q h1 h2
  exact ⟨List.mem_filter.mpr ⟨q1, by simpa using hfr _ h1⟩, q2⟩⟩
theorem notTup_of_data {o : Obj} (h : ∀ vs n, o.data ≠ .seq vs n) : notTup o := fun vs n q => h vs.toArray n (by rw [q])
theorem notTup_of_cls {o : Obj} (h : o.cls ≠ .type "tuple") : notTup o := fun vs n q => h (by rw [q])
theorem Ns_notTup {h : Heap} {a : Addr} {o : Obj} {m : Str → Option Value} (n : h.Ns a m) (e : h.get? a = some o) : notTup o := by
  obtain ⟨o', es, ep, e1, e2, _⟩ := n
  rw [e] at e1
  cases e1
  exact notTup_of_data fun vs n q => by rw [e2] at q; cases q
end

/-! ## cells -/
noncomputable def mLocC (i : Nat) : ME := fun ρ σ => match ρ[i]? with
  | some (some (.ref j)) => (match σ[j]? with
    | some (.cell (some v)) => .ok v σ
    | _ => .stuck)
  | _ => .stuck
noncomputable def mSetC (i : Nat) (m : ME) : MS := fun ρ σ => (m ρ σ).bind fun v σ => match ρ[i]? with
  | some (some (.ref j)) => (match σ[j]? with
    | some (.cell _) => .ok (.next, ρ) (σ.set j (.cell (some v)))
    | _ => .stuck)
  | _ => .stuck
section
variable {c : Cx} {n : Nat} {tn : Bool} {sc : Scope}
theorem StG.cellAt {f : Fm} {g₀ g : Heap} {names : List (Str × NameKind)} {ρ : Loc} {σ : Store} {W : Wd} {s : Shared} {m : Str → Option Value} (G : StG c f tn g₀ names ρ σ W s g m) {x : Str} {i j : Nat} {v : Option AV} (e : names[i]? = some (x, .cell)) (q : ρ[i]? = some (some (.ref j))) (hj : σ[j]? = some (.cell v)) :
    ∃ a ob, f.cl.lookup x = some a ∧ W.φ[j]? = some a ∧ (a, ob) ∈ W.news ∧ RO c W (.cell v) ob := by
  obtain ⟨V, _, h1, h2⟩ := G.R i x .cell _ e q
  obtain ⟨a, ha, rfl⟩ := h1 rfl
  cases h2 with
  | ref hφ =>
    obtain ⟨a', ob, z1, z2, z3⟩ := G.S.obj j _ hj
    rw [hφ] at z1
    cases z1
    exact ⟨a, ob, ha, hφ, z2, z3⟩
theorem sim_locC {x : Str} {pos : Pos} {i : Nat} (e : sc.names[i]? = some (x, .cell)) (hl : ∀ f : Fm, (f.env sc).kindOf x = some .cell) (hd : (x == ("__debug__" : Str)) = false) : SimE c n tn sc (.Name x pos) (mLocC i) := by
  intro f g₀ ρ σ W s hc hf hs hg Q E hq he
  obtain ⟨g, m, G⟩ := hs
  unfold mLocC at hg hq
  split at hg
  · rename_i j hj
    split at hg
    · rename_i v hv
      rw [hj] at hq
      dsimp only at hq
      rw [hv] at hq
      obtain ⟨a, ob, h1, h2, h3, h4⟩ := G.cellAt e hj hv
      obtain ⟨V, hd', hr⟩ := h4.cell_inv
      exact nameX_C G.N h1 h3 hd' (hq v σ _ W s rfl (.refl W) G.st hr) hf.kind (hl f) hd
    · exact hg.elim
  · exact hg.elim
theorem sim_setC {x : Str} {pos' pos : Pos} {e : Expr} {i : Nat} {m : ME} (en : sc.names[i]? = some (x, .cell)) (hl : ∀ f : Fm, (f.env sc).kindOf x = some .cell) (h : SimE c n tn sc e m) (hsw : ∀ f : Fm, swapsWith e (some (.Name x pos')) pos.line (f.env sc) = pure false) : Sim1 c n tn sc (.Assign [.Name x pos'] e pos) (mSetC i m) := by
  intro f g₀ ρ σ W s hc hf hs hg Q E hE hq he
  refine wpAny_Assign_Name (h.bindS hc hf hs hg hq he fun v σ₁ V W₁ s₁ e1 l1 G1 r1 hg1 hq1 he1 => ?_) (hsw f)
  split at hg1
  · rename_i j hj
    split at hg1
    · rename_i v₀ hv
      rw [hj] at hq1
      dsimp only at hq1
      rw [hv] at hq1
      obtain ⟨g, m, G⟩ := G1
      obtain ⟨a, ob, h1, h2, h3, h4⟩ := G.cellAt en hj hv
      obtain ⟨v', hd⟩ := h4.cell_data
      have z := G.N _ h3
      refine wpAny_storeName_cell hf.kind (hl f) h1 ⟨ob, z.1, hd⟩ fun h' hv' hs' => ?_
      obtain ⟨o', ho', hd'⟩ := hv'
      exact hq1 _ _ _ _ _ _ rfl (.turn h2 _) (G.turn h2 (.cell hd' r1) (G.F.change hs' z.2.1 z.2.2) (News.turnAt G.N h3 hs' ho') s₁.toks) .next
    · exact hg1.elim
  · exact hg1.elim
end

/- S14 -/

/-! ## over a text -/
noncomputable def strItem (x : List Nat) : Store → Nat → Option (Option AV) := fun _ k => some (x[k]?.map fun ch => .str [ch])
theorem iterK_str {c : Cx} (φ₀ : List Nat) {x : List Nat} {t : Tok} (hx : x.all (· < 128) = true) (it : Addr) : IterK c φ₀ it (fun k o => o.cls = .type "str_ascii_iterator" ∧ o.data = .fields #[.str (sOf x) t, .int k 0]) (strItem x) where
  nt := fun k o h => by rw [h.1]; decide
  next := by
    intro n sc f tn g₀ names ρ σ W s k o v hc hf hs hm hφ hP hit Q E hq
    obtain ⟨g, m, G⟩ := hs
    unfold strItem at hit
    obtain ⟨ch, h1, rfl⟩ := Option.map_eq_some_iff.mp (Option.some.inj hit)
    refine wpAny_pyNext_ascii_item ⟨o, (G.N _ hm).1, hP⟩ (c := ch) (by simpa [sOf] using h1) fun h' hx' hs' => ?_
    obtain ⟨o', ho', hP'⟩ := hx'
    exact hq _ h' o' _ hs' ho' hP' (.str [ch] _)
  stop := by
    intro n sc f tn g₀ names ρ σ W s k o hc hf hs hm hφ hP hit Q E hq
    obtain ⟨g, m, G⟩ := hs
    unfold strItem at hit
    have h1 : x[k]? = none := Option.map_eq_none_iff.mp (Option.some.inj hit)
    exact wpAny_pyNext_ascii_end hf.handled ⟨o, (G.N _ hm).1, hP⟩ (by simpa [sOf] using h1) hq
  quiet := fun k o h => by rw [h.1]; rfl

/-! ## list comprehensions -/
structure InC (c : Cx) (W : Wd) (s : Shared) (C : Addr) (x : Str) (v : AV) : Prop where
  intro ::
  how : ∃ oC m V, (C, oC) ∈ W.news ∧ C ∉ W.φ ∧ s.heap.Ns C m ∧ m x = some V ∧ RV c W v V
noncomputable def EltOk (c : Cx) (n : Nat) (sc scope : Scope) (cl : Fm → List (Str × Addr)) (x : Str) (elt : Expr) (fe : Loc → AV → Store → Res AV) : Prop :=
  ∀ (f : Fm) (g₀ : Heap) (ρ : Loc) (σ : Store) (W : Wd) (s : Shared) (C : Addr) (v : AV), c.Ok → FOk n sc f → St c f true g₀ sc.names ρ σ W s → InC c W s C x v → (fe ρ v σ).good true →
    ∀ (Q : Value → Shared → Prop) (E : Value → Shared → Prop), (∀ y σ' V W' s', fe ρ v σ = .ok y σ' → W.Le W' → St c f true g₀ sc.names ρ σ' W' s' → RV c W' y V → Q V s') →
      wpAny c.M (f.A sc) (eval elt (compEnvC scope (cl f) C (f.env sc))) Q E s
noncomputable def mCompF (item : Store → Nat → Option (Option AV)) (fe : AV → Store → Res AV) (acc : Nat) : Nat → Nat → Store → Res Unit
  | 0, _ => fun _ => .stuck
  | j + 1, k => fun σ => match item σ k with
    | none => .stuck
    | some none => .ok () σ
    | some (some v) => (fe v σ).bind fun y σ => match σ[acc]? with
      | some (.list l) => if l.length ≤ 1000 then mCompF item fe acc j (k + 1) (σ.set acc (.list (l ++ [y]))) else .stuck
      | _ => .stuck
section
variable {c : Cx} {n : Nat} {sc : Scope}
/-- what holds between two turns of a comprehension -/
structure CompI (c : Cx) (f : Fm) (sc : Scope) (g₀ : Heap) (ρ : Loc) (it : Addr) (P : Nat → Obj → Prop) (C D : Addr) (acc : Nat) (W : Wd) (item : Store → Nat → Option (Option AV)) (fe : AV → Store → Res AV) (R : Result → Shared → Prop) (j : Nat) (s₁ : Shared) (k : Nat) (σ₁ : Store) (W₁ : Wd) (o oC : Obj) (mC : Str → Option Value) : Prop where
  hm : (it, o) ∈ W₁.news
  hn : it ∉ W₁.φ
  hP : P k o
  hCm : (C, oC) ∈ W₁.news
  hCn : C ∉ W₁.φ
  hCN : s₁.heap.Ns C mC
  hD : W₁.φ[acc]? = some D
  l₁ : W.Le W₁
  hs : St c f true g₀ sc.names ρ σ₁ W₁ s₁
  hg : (mCompF item fe acc j k σ₁).good true
  hq : ∀ σ' W' s', mCompF item fe acc j k σ₁ = .ok () σ' → W.Le W' → St c f true g₀ sc.names ρ σ' W' s' → W'.φ[acc]? = some D → (∃ oC mC, (C, oC) ∈ W'.news ∧ C ∉ W'.φ ∧ s'.heap.Ns C mC) → R (.ok .next) s'
theorem mCompF_succ {item : Store → Nat → Option (Option AV)} {fe : AV → Store → Res AV} {acc j k : Nat} {σ : Store} : mCompF item fe acc (j + 1) k σ = (match item σ k with
    | none => .stuck
    | some none => .ok () σ
    | some (some v) => (fe v σ).bind fun y σ => match σ[acc]? with
      | some (.list l) => if l.length ≤ 1000 then mCompF item fe acc j (k + 1) (σ.set acc (.list (l ++ [y]))) else .stuck
      | _ => .stuck) := rfl
theorem compF_inv {item : Store → Nat → Option (Option AV)} {fe : AV → Store → Res AV} {acc j k : Nat} {σ : Store} {tn : Bool} (h : (mCompF item fe acc (j + 1) k σ).good tn) :
    (item σ k = some none ∧ mCompF item fe acc (j + 1) k σ = .ok () σ) ∨ (∃ v, item σ k = some (some v) ∧ (fe v σ).good tn ∧ ∀ y σ', fe v σ = .ok y σ' → ∃ l, σ'[acc]? = some (.list l) ∧ l.length ≤ 1000 ∧ mCompF item fe acc (j + 1) k σ = mCompF item fe acc j (k + 1) (σ'.set acc (.list (l ++ [y])))) := by
  rw [mCompF_succ] at h ⊢
  cases hi : item σ k with
  | none => rw [hi] at h; exact h.elim
  | some q =>
    cases q with
    | none => exact .inl ⟨rfl, rfl⟩
    | some v =>
      rw [hi] at h
      refine .inr ⟨v, rfl, Res.good_bind h, fun y σ' e => ?_⟩
      dsimp only at h ⊢
      rw [e] at h ⊢
      dsimp only [Res.bind] at h ⊢
      cases ho : σ'[acc]? with
      | none => rw [ho] at h; exact h.elim
      | some o =>
        rw [ho] at h
        cases o <;> first | exact h.elim | skip
        rename_i l
        dsimp only at h ⊢
        by_cases hl : l.length ≤ 1000
        · exact ⟨l, rfl, hl, if_pos hl⟩
        · rw [if_neg hl] at h; exact h.elim
theorem comp_loop {it : Addr} {P : Nat → Obj → Prop} {item : Store → Nat → Option (Option AV)} {W : Wd} (K : IterK c W.φ it P item) {scope : Scope} {cl : Fm → List (Str × Addr)} {x : Str} {px : Pos} {elt iter : Expr} {pos : Pos} {fe : Loc → AV → Store → Res AV}
    (he : EltOk c n sc scope cl x elt fe) (hk : scope.kind = .function) (hx : scope.names.lookup x = some .local)
    {f : Fm} {g₀ : Heap} {ρ : Loc} {σ : Store} {W₁ : Wd} {s : Shared} (hc : c.Ok) (hf : FOk n sc f) (j : Nat) {o : Obj} {acc : Nat} {C D : Addr} {oC : Obj} {mC : Str → Option Value} (hitC : it ≠ C)
    (hm : (it, o) ∈ W₁.news) (hn : it ∉ W₁.φ) (hP : P 0 o) (hCm : (C, oC) ∈ W₁.news) (hCn : C ∉ W₁.φ) (hCN : s.heap.Ns C mC) (hD : W₁.φ[acc]? = some D) (l₁ : W.Le W₁) (hfr : ∀ p ∈ W.news, p.1 ≠ it ∧ p.1 ≠ C) (hs : St c f true g₀ sc.names ρ σ W₁ s)
    (hg : (mCompF item (fe ρ) acc j 0 σ).good true) {R : Result → Shared → Prop}
    (hq : ∀ σ' W' s', mCompF item (fe ρ) acc j 0 σ = .ok () σ' → W.Le W' → St c f true g₀ sc.names ρ σ' W' s' → W'.φ[acc]? = some D → (∃ oC mC, (C, oC) ∈ W'.news ∧ C ∉ W'.φ ∧ s'.heap.Ns C mC) → R (.ok .next) s') :
    codeAny c.M (f.A sc) (.compLoop (.ListComp elt [⟨.Name x px, iter, [], 0⟩] scope pos) 0 (.ref it) (.ref D) (compEnvC scope (cl f) C (f.env sc))) R s := by
  refine codeAny_compLoop_tests (fun j s₁ => ∃ k σ₁ W₁ o oC mC, CompI c f sc g₀ ρ it P C D acc W item (fe ρ) R j s₁ k σ₁ W₁ o oC mC) ?_ j ⟨0, σ, W₁, o, oC, mC, ⟨hm, hn, hP, hCm, hCn, hCN, hD, l₁, hs, hg, hq⟩⟩
  clear hq hg hs l₁ hD hCN hCn hCm hP hn hm
  rintro j s₁ ⟨k, σ₁, W₁, o, oC, mC, I⟩
  have hm := I.hm
  have hn := I.hn
  have hCm := I.hCm
  have hCn := I.hCn
  have l₁ := I.l₁
  cases j with
  | zero => exact I.hg.elim
  | succ j =>
    rcases compF_inv I.hg with ⟨hi, hr⟩ | ⟨v, hi, hgv, hr⟩
    · refine K.stop n sc f true g₀ sc.names ρ σ₁ W₁ s₁ k o hc hf I.hs hm l₁.φ I.hP hi _ _ fun h' hx => ?_
      obtain ⟨g, m, G⟩ := I.hs
      obtain ⟨G', _⟩ := G.dropO hm hn (notTup_of_cls (K.nt _ _ I.hP)) hx
      exact I.hq _ _ _ hr (l₁.dropO fun p hp => (hfr p hp).1) G'.st I.hD ⟨oC, mC, List.mem_filter.mpr ⟨hCm, by simpa using hitC.symm⟩, hCn, I.hCN.extBut hx hitC.symm⟩
    · refine K.next n sc f true g₀ sc.names ρ σ₁ W₁ s₁ k o v hc hf I.hs hm l₁.φ I.hP hi _ _ fun V h' o' t hx' ho hP' rv => ?_
      obtain ⟨g, m, G⟩ := I.hs
      obtain ⟨G', wk⟩ := G.turnO hm hn (notTup_of_cls (K.nt _ _ I.hP)) hx' ho t
      have hCN' : h'.Ns C mC := I.hCN.sameBut hx' hitC.symm
      have hCm' : (C, oC) ∈ Mine.turn it o' W₁.news := turn_mem hCm hitC.symm
      refine wpAny_assign_Name (wpAny_storeName_local (lookup_relabel_local hx) hCN' (fun h₂ hn₂ hs₂ => ?_) (by simp [compEnvC, relabel, hk]))
      have hC2 := hn₂
      obtain ⟨oC₂, _, _, eC₂, _⟩ := hC2
      obtain ⟨G₂, wk₂⟩ := G'.turnO hCm' hCn (Ns_notTup hCN' (G'.N _ hCm').1) hs₂ eC₂ (t + 1)
      have le₂ : W.Le ⟨W₁.φ, Mine.turn C oC₂ (Mine.turn it o' W₁.news)⟩ := Wd.Le.turnO (W' := ⟨W₁.φ, Mine.turn it o' W₁.news⟩) (Wd.Le.turnO l₁ fun p hp => (hfr p hp).1) fun p hp => (hfr p hp).2
      refine wpAny_tests_nil ?_
      rw [if_pos rfl]
      refine he f g₀ ρ σ₁ _ _ C v hc hf G₂.st ⟨oC₂, _, V, .head _, hCn, hn₂, if_pos rfl, (rv.wk wk).wk wk₂⟩ hgv _ _ fun y σ' Y W' s' e l G3 ry => ?_
      obtain ⟨ll, hll, hlen, hstep⟩ := hr y σ' e
      obtain ⟨g3, m3, G3⟩ := G3
      have hD3 : W'.φ[acc]? = some D := l.get I.hD
      obtain ⟨ws, k2, hm2, rl, hg3⟩ := G3.list hc hll hD3
      obtain ⟨N', U⟩ := turn_news G3.N hm2 (PySem.W.listOf (ws.toArray.push Y) (k2 + 1))
      refine append_K G3.F N' U (fun h4 F4 N4 => ?_) (by rw [List.size_toArray, ← rl.length]; have := sizeLine_big; lia)
      obtain ⟨q1, q2⟩ := l.keep it o' (turn_mem (.head _) hitC) hn
      obtain ⟨q3, q4⟩ := l.keep C oC₂ (.head _) hCn
      have hCD : C ≠ D := fun z => q4 (z ▸ List.mem_of_getElem? hD3)
      have hiD : it ≠ D := fun z => q2 (z ▸ List.mem_of_getElem? hD3)
      have G4 := G3.turn hD3 (.list (l := ll ++ [y]) (vs := ws ++ [Y]) (n := k2 + 1) (rl.append (.cons ry .nil))) F4 (by rw [show (ws ++ [Y]).toArray = ws.toArray.push Y from by simp]; exact N4) s'.toks
      have hC4 : h4.Ns C (fun y => if y = x then some V else mC y) := by
        obtain ⟨oc, es, ep, e1, e2⟩ := hn₂
        rw [eC₂] at e1
        cases e1
        exact ⟨oC₂, es, ep, (N4 _ (turn_mem q3 hCD)).1, e2⟩
      exact ⟨j, Nat.lt_succ_self j, k + 1, _, ⟨W'.φ, Mine.turn D (PySem.W.listOf (ws ++ [Y]).toArray (k2 + 1)) W'.news⟩, o', oC₂, _, ⟨turn_mem q1 hiD, q2, hP', turn_mem q3 hCD, q4, hC4, hD3, le₂.trans (l.trans (.turn hD3 _)), G4, hstep ▸ I.hg, hstep ▸ I.hq⟩⟩

/-- from the block's start: the iterator, the list, the block's own names -/
theorem comp_block {it : Addr} {P : Nat → Obj → Prop} {item : Store → Nat → Option (Option AV)} {W : Wd} (K : IterK c W.φ it P item) {scope : Scope} {cl : Fm → List (Str × Addr)} {x : Str} {px : Pos} {elt iter : Expr} {pos : Pos} {fe : Loc → AV → Store → Res AV}
    (he : EltOk c n sc scope cl x elt fe) (hk : scope.kind = .function) (hx : scope.names.lookup x = some .local) (hcell : ∀ y ∈ scope.names, y.2 ≠ .cell)
    {f : Fm} {g₀ : Heap} {ρ : Loc} {σ : Store} {s : Shared} (hc : c.Ok) (hf : FOk n sc f) (j : Nat) {o : Obj} (hlt : ∀ p ∈ W.news, p.1 < it) (hP : P 0 o) (hs : St c f true g₀ sc.names ρ σ ⟨W.φ, (it, o) :: W.news⟩ s) (hitn : it ∉ W.φ)
    (hit : ∀ (s' : Shared) (Q : Value → Shared → Prop) (E : Value → Shared → Prop), s'.heap.get? it = some o → Q (.ref it) s' → wpAny c.M (f.A sc) (pyIter (.ref it)) Q E s')
    (hg : (mCompF item (fe ρ) σ.length j 0 (σ ++ [.list []])).good true) {RR : Value → Addr → Result → Shared → Prop} {E : Value → Shared → Prop}
    (hq : ∀ σ' W' s' D C oC mC, mCompF item (fe ρ) σ.length j 0 (σ ++ [.list []]) = .ok () σ' → W.Le W' → St c f true g₀ sc.names ρ σ' W' s' → W'.φ[σ.length]? = some D → (C, oC) ∈ W'.news → C ∉ W'.φ → s'.heap.Ns C mC → (∀ p ∈ W.news, p.1 ≠ C) → RR (.ref D) C (.ok .next) s') :
    wpAny c.M (f.A sc) (newList []) (fun acc s₃ => wpAny c.M (f.A sc) (newFunctionEnv scope (f.env sc).globals (cl f) [] (f.env sc).qual none .none (some (f.env sc))) (fun cenv s₄ =>
      codeAny c.M (f.A sc) (.compStart (.ListComp elt [⟨.Name x px, iter, [], 0⟩] scope pos) 0 (.ref it) acc { cenv with scope := relabel scope (f.env sc) }) (RR acc cenv.locals) s₄) E s₃) E s := by
  obtain ⟨g, m, G⟩ := hs
  refine newList_K G.F G.N (fun D h' F' N' hltD => ?_) (by show 0 ≤ sizeLine; exact Nat.zero_le _)
  have G₁ := G.alloc (o := .list []) F' N' hltD (.list .nil) s.toks
  obtain ⟨g₁, m₁, G₁⟩ := G₁
  refine wpAny_newFunctionEnv hcell (by intro y hy; simp at hy) (fun h₁ hns hsb => ?_) hk
  dsimp only at hns hsb ⊢
  have N2 := News.push G₁.F G₁.N { cls := .type "dict", data := .dict #[] } rfl
  have z := N2 _ (.head _)
  have hCget := hns
  obtain ⟨oC, _, _, eC, _⟩ := hCget
  have hltC : ∀ p ∈ ((D, PySem.W.listOf ([] : List Value).toArray 0) :: (it, o) :: W.news), p.1 < h'.objs.size := fun p hp => Heap.lt_size (G₁.N p hp).1
  have F3 : Fr g₁ f.L h₁ m₁ := (G₁.F.push _).change hsb z.2.1 z.2.2
  have N3 : News g₁ f.L h₁ ((h'.objs.size, oC) :: (D, PySem.W.listOf ([] : List Value).toArray 0) :: (it, o) :: W.news) := by
    intro p hp
    rcases List.mem_cons.mp hp with rfl | hp
    · exact ⟨eC, z.2⟩
    · have y := N2 p (.tail _ hp)
      exact ⟨(hsb.2 _ (Nat.ne_of_lt (hltC p hp))).trans y.1, y.2⟩
  have G₂ := G₁.grow F3 N3 (s.toks + ([] : List (Str × Value)).length)
  have hCφ : h'.objs.size ∉ W.φ ++ [D] := G₁.fresh
  have hitφ : it ∉ W.φ ++ [D] := by
    simp only [List.mem_append, List.mem_singleton, not_or]
    exact ⟨hitn, Nat.ne_of_lt (hltD _ (.head _))⟩
  have hDφ : (W.φ ++ [D])[σ.length]? = some D := phi_last G.S.len D
  have loop : codeAny c.M (f.A sc) (.compLoop (.ListComp elt [⟨.Name x px, iter, [], 0⟩] scope pos) 0 (.ref it) (.ref D) (compEnvC scope (cl f) h'.objs.size (f.env sc))) (RR (.ref D) h'.objs.size) { s with heap := h₁, toks := s.toks + ([] : List (Str × Value)).length } := by
    have hitne : it ≠ h'.objs.size := Nat.ne_of_lt (hltC _ (.tail _ (.head _)))
    refine comp_loop (W := W) (W₁ := ⟨W.φ ++ [D], (h'.objs.size, oC) :: (D, PySem.W.listOf ([] : List Value).toArray 0) :: (it, o) :: W.news⟩) K he hk hx hc hf j hitne (.tail _ (.tail _ (.head _))) hitφ hP (.head _) hCφ hns hDφ
      ⟨⟨[D], rfl⟩, fun a q h1 h2 => ⟨.tail _ (.tail _ (.tail _ h1)), fun hh => ?_⟩⟩ (fun p hp => ⟨Nat.ne_of_lt (hlt p hp), Nat.ne_of_lt (hltC p (.tail _ (.tail _ hp)))⟩) G₂ hg fun σ' W' s' e l Gs hDs hC => ?_
    · simp only [List.mem_append, List.mem_singleton] at hh
      rcases hh with hh | hh
      · exact h2 hh
      · have := hltD _ (.tail _ h1)
        exact absurd hh (Nat.ne_of_lt this)
    · obtain ⟨oC', mC', c1, c2, c3⟩ := hC
      exact hq σ' W' s' D _ oC' mC' e l Gs hDs c1 c2 c3 fun p hp => Nat.ne_of_lt (hltC p (.tail _ (.tail _ hp)))
  exact codeAny_compStart_list loop (hit _ _ _ (N3 _ (.tail _ (.tail _ (.head _)))).1 loop)

noncomputable def mComp (fe : Loc → AV → Store → Res AV) (mi : ME) : ME := fun ρ σ => (mi ρ σ).bind fun x σ => match x with
  | .ref i => (match σ[i]? with
    | some (.list l) => (mCompF (listItem i) (fe ρ) σ.length (l.length + 1) 0 (σ ++ [.list []])).bind fun _ σ' => .ok (.ref σ.length) σ'
    | _ => .stuck)
  | .str t => if t.all (· < 128) then (mCompF (strItem t) (fe ρ) σ.length (t.length + 1) 0 (σ ++ [.list []])).bind fun _ σ' => .ok (.ref σ.length) σ' else .stuck
  | _ => .stuck
structure CompOk (sc scope : Scope) (cl : Fm → List (Str × Addr)) (x : Str) (iter : Expr) (Wx : Fm → Prop) : Prop where
  clos : ∀ f : Fm, Wx f → closureFor scope (f.env sc) = pure (cl f)
  kind : scope.kind = .function
  names : ∀ y ∈ scope.names, y.2 = .local → scope.names.lookup y.1 = some .local
  x : scope.names.lookup x = some .local
  cell : ∀ y ∈ scope.names, y.2 ≠ .cell
  fo : ∀ (f : Fm) (v : Value), foldedSetIterable iter (f.env sc) v = pure v

theorem comp_good {α : Type} {tn : Bool} {x : AV} {σ : Store} {F : Nat → List AV → Store → Res α} {G : List Nat → Store → Res α} (h : (match x with | .ref i => (match σ[i]? with | some (.list l) => F i l σ | _ => .stuck) | .str t => if t.all (· < 128) then G t σ else .stuck | _ => .stuck : Res α).good tn) :
    (∃ i l, x = .ref i ∧ σ[i]? = some (.list l) ∧ (match (generalizing := false) x with | .ref i => (match σ[i]? with | some (.list l) => F i l σ | _ => .stuck) | .str t => if t.all (· < 128) then G t σ else .stuck | _ => .stuck : Res α) = F i l σ) ∨
    (∃ t, x = .str t ∧ t.all (· < 128) = true ∧ (match (generalizing := false) x with | .ref i => (match σ[i]? with | some (.list l) => F i l σ | _ => .stuck) | .str t => if t.all (· < 128) then G t σ else .stuck | _ => .stuck : Res α) = G t σ) := by
  cases x <;> first | exact h.elim | skip
  · have q := good_if h
    exact .inr ⟨_, rfl, q, if_pos q⟩
  · obtain ⟨_, l, q, hl, e⟩ := good_list (σ := σ) (x := AV.ref _) (F := F) h
    cases q
    exact .inl ⟨_, l, rfl, hl, e⟩
/-- the block, whatever is done behind it -/
theorem comp_any {scope : Scope} {cl : Fm → List (Str × Addr)} {x : Str} {px : Pos} {elt iter : Expr} {pos : Pos} {fe : Loc → AV → Store → Res AV} {mi : ME}
    (he : EltOk c n sc scope cl x elt fe) (hi : SimE c n true sc iter mi) (hk : scope.kind = .function) (hx : scope.names.lookup x = some .local) (hcell : ∀ y ∈ scope.names, y.2 ≠ .cell)
    {f : Fm} {g₀ : Heap} {ρ : Loc} {σ : Store} {W : Wd} {s : Shared} (hc : c.Ok) (hf : FOk n sc f) (hs : St c f true g₀ sc.names ρ σ W s) (hg : (mComp fe mi ρ σ).good true) {RR : Value → Addr → Result → Shared → Prop} {E : Value → Shared → Prop}
    (hq : ∀ σ' W' s' i D C oC mC, mComp fe mi ρ σ = .ok (.ref i) σ' → W.Le ⟨W'.φ, W'.news.filter (·.1 != C)⟩ → St c f true g₀ sc.names ρ σ' W' s' → W'.φ[i]? = some D → (C, oC) ∈ W'.news → C ∉ W'.φ → s'.heap.Ns C mC → RR (.ref D) C (.ok .next) s') :
    wpAny c.M (f.A sc) (eval iter (f.env sc)) (fun xv s₁ => wpAny c.M (f.A sc) (pyIter xv) (fun it s₂ => wpAny c.M (f.A sc) (newList []) (fun acc s₃ => wpAny c.M (f.A sc) (newFunctionEnv scope (f.env sc).globals (cl f) [] (f.env sc).qual none .none (some (f.env sc))) (fun cenv s₄ =>
      codeAny c.M (f.A sc) (.compStart (.ListComp elt [⟨.Name x px, iter, [], 0⟩] scope pos) 0 it acc { cenv with scope := relabel scope (f.env sc) }) (RR acc cenv.locals) s₄) E s₃) E s₂) E s₁) E s := by
  have hgi := Res.good_bind hg
  refine hi f g₀ ρ σ W s hc hf hs hgi _ _ (fun v σ₁ V W₁ s₁ e1 l1 G1 r1 => ?_) fun C σ' e W' s' q _ _ => by rw [q] at hgi; cases hgi
  unfold mComp at hg hq
  rw [e1] at hg hq
  dsimp only [Res.bind] at hg hq
  obtain ⟨g, m, G⟩ := G1
  have hlt : ∀ p ∈ W₁.news, p.1 < s₁.heap.objs.size := fun p hp => Heap.lt_size (G.N p hp).1
  rcases comp_good (F := fun i l σ => (mCompF (listItem i) (fe ρ) σ.length (l.length + 1) 0 (σ ++ [AO.list []])).bind fun _ σ' => Res.ok (AV.ref σ.length) σ') (G := fun t σ => (mCompF (strItem t) (fe ρ) σ.length (t.length + 1) 0 (σ ++ [AO.list []])).bind fun _ σ' => Res.ok (AV.ref σ.length) σ') hg with ⟨i, l, rfl, hl, z⟩ | ⟨t, rfl, ha, z⟩
  · obtain ⟨a, rfl, hia⟩ := r1.ref_inv
    replace hg := Eq.mp (congrArg (Res.good true) z) hg
    replace hq := fun σ' W' s' i D C oC mC q => hq σ' W' s' i D C oC mC (z.trans q)
    · obtain ⟨vs, j, hml, rl, hget⟩ := G.list hc hl hia
      refine wpAny_pyIter_list ⟨_, hget, rfl, _, rfl⟩ ?_
      refine comp_block (W := W₁) (iterK_list hia _ trivial) he hk hx hcell hc hf (l.length + 1) hlt ⟨rfl, rfl⟩ (G.grow (G.F.push _) (News.push G.F G.N _ rfl) _) G.fresh (fun s' Q E h q => wpAny_pyIter_listiter ⟨_, h, rfl, rfl⟩ q) (Res.good_bind hg) fun σ' W' s' D C oC mC e l Gs hD c1 c2 c3 hne => ?_
      exact hq σ' W' s' _ D C oC mC (by rw [e]; rfl) (l1.trans (l.dropO hne)) Gs hD c1 c2 c3
  · obtain ⟨u, rfl⟩ := r1.str_inv
    replace hg := Eq.mp (congrArg (Res.good true) z) hg
    replace hq := fun σ' W' s' i D C oC mC q => hq σ' W' s' i D C oC mC (z.trans q)
    · refine wpAny_pyIter_ascii (by simpa [sOf] using ha) ?_
      refine comp_block (W := W₁) (iterK_str W₁.φ (t := u) ha _) he hk hx hcell hc hf (t.length + 1) hlt ⟨rfl, rfl⟩ (G.grow (G.F.push _) (News.push G.F G.N _ rfl) _) G.fresh (fun s' Q E h q => (Walks.strAscii (show (f.A sc).handled = none from hf.handled) s₁.heap.objs.size (sOf t) u).self 0 _ _ _ ⟨_, h, rfl, rfl⟩ q) (Res.good_bind hg) fun σ' W' s' D C oC mC e l Gs hD c1 c2 c3 hne => ?_
      exact hq σ' W' s' _ D C oC mC (by rw [e]; rfl) (l1.trans (l.dropO hne)) Gs hD c1 c2 c3

theorem compDrop {f : Fm} {g₀ : Heap} {ρ : Loc} {σ : Store} {W' : Wd} {s : Shared} {names : List (Str × NameKind)} (hs : St c f true g₀ names ρ σ W' s) {C : Addr} {oC : Obj} {mC : Str → Option Value} (c1 : (C, oC) ∈ W'.news) (c2 : C ∉ W'.φ) (c3 : s.heap.Ns C mC) {h' : Heap} (hx : Heap.SameBut C s.heap h') :
    St c f true g₀ names ρ σ ⟨W'.φ, W'.news.filter (·.1 != C)⟩ { s with heap := h' } := by
  obtain ⟨g, m, G⟩ := hs
  exact (G.dropO c1 c2 (Ns_notTup c3 (G.N _ c1).1) hx.extBut).1.st
theorem sim_comp {scope : Scope} {cl : Fm → List (Str × Addr)} {x : Str} {px : Pos} {elt iter : Expr} {pos : Pos} {fe : Loc → AV → Store → Res AV} {mi : ME} (I : CompOk sc scope cl x iter fun _ => True)
    (he : EltOk c n sc scope cl x elt fe) (hi : SimE c n true sc iter mi) : SimE c n true sc (.ListComp elt [⟨.Name x px, iter, [], 0⟩] scope pos) (mComp fe mi) := by
  intro f g₀ ρ σ W s hc hf hs hg Q E hq hx
  rw [eval_ListComp]
  refine wpAny_comprehension_free (use := none) rfl (I.fo f) (I.clos f trivial) I.kind I.names ?_
  refine comp_any (RR := fun acc C => compPost c.M (f.A sc) E none Q acc C) he hi I.kind I.x I.cell hc hf hs hg fun σ' W' s' i D C oC mC e l Gs hD c1 c2 c3 => ?_
  exact ⟨mC, c3, fun h' hx' => hq _ σ' _ _ _ e l (compDrop Gs c1 c2 c3 hx') (.ref hD)⟩
/-- the list assigned: the names of the block are let go behind it -/
theorem setComp_at {scope : Scope} {cl : Fm → List (Str × Addr)} {x y : Str} {px py : Pos} {elt iter : Expr} {pos spos : Pos} {fe : Loc → AV → Store → Res AV} {mi : ME} {k : Nat} (Wx : Fm → Prop) (I : CompOk sc scope cl x iter Wx)
    (he : EltOk c n sc scope cl x elt fe) (hi : SimE c n true sc iter mi) (hy : LocIdx sc y k) (hsw : ∀ f : Fm, swapsWith (.ListComp elt [⟨.Name x px, iter, [], 0⟩] scope pos) (some (.Name y py)) spos.line (f.env sc) = pure true)
    {f : Fm} {g₀ : Heap} {ρ : Loc} {σ : Store} {W : Wd} {s : Shared} (hc : c.Ok) (hf : FOk n sc f) (hs : St c f true g₀ sc.names ρ σ W s) (hW : Wx f) (hg : (mSet k (mComp fe mi) ρ σ).good true)
    {Q : Flow → Shared → Prop} {E : Value → Shared → Prop}
      (hq : ∀ fl ρ' σ' F W' s', mSet k (mComp fe mi) ρ σ = .ok (fl, ρ') σ' → W.Le W' → St c f true g₀ sc.names ρ' σ' W' s' → RFl c W' fl F → Q F s') :
      wpAny c.M (f.A sc) (exec (.Assign [.Name y py] (.ListComp elt [⟨.Name x px, iter, [], 0⟩] scope pos) spos) (f.env sc)) Q E s := by
  have hgm := Res.good_bind hg
  rw [exec_Assign_Name_used _ _ _ _ (hsw f)]
  refine wpAny_bind (wpAny_standAt (wpAny_bind ?_))
  show wpAny _ (f.A sc) (do let _ ← comprehension (.ListComp elt [⟨.Name x px, iter, [], 0⟩] scope pos) scope (f.env sc) _ (newList []) false (eval iter (f.env sc)) (some (assign (.Name y py) (f.env sc)))) _ _ s
  refine wpAny_bind (wpAny_mono (wpAny_comprehension_free (use := some (assign (.Name y py) (f.env sc))) (Q := fun _ s' => Q .next s') rfl (I.fo f) (I.clos f hW) I.kind I.names
    ?_) (fun _ s' hq => wpAny_pure (wpAny_pure hq)) fun _ _ e => e)
  refine comp_any (RR := fun acc C => compPost c.M (f.A sc) E (some (assign (.Name y py) (f.env sc))) (fun _ s' => Q .next s') acc C) he hi I.kind I.x I.cell hc hf hs hgm fun σ' W' s' i D C oC mC e l Gs hD c1 c2 c3 => ?_
  show wpAny _ (f.A sc) (assign (.Name y py) (f.env sc) (.ref D)) _ _ _
  have Gs' := Gs
  obtain ⟨g', m', G'⟩ := Gs'
  refine wpAny_assign_Name (st_set hf Gs hy (.ref hD) fun s'' G'' => ?_)
  have G''' := G''
  obtain ⟨g3, m3, G3⟩ := G'''
  have c4 : s''.heap.Ns C mC := by
    obtain ⟨o, es, ep, e1, e2⟩ := c3
    rw [(G'.N _ c1).1] at e1
    cases e1
    exact ⟨_, es, ep, (G3.N _ c1).1, e2⟩
  exact ⟨mC, c4, fun h' hx' => hq _ _ σ' _ _ _ (by unfold mSet; rw [e]; rfl) l (compDrop G'' c1 c2 c4 hx') .next⟩
end

/- S15 -/

/-! ## the items of a comprehension -/
noncomputable abbrev EF := Loc → AV → Store → Res AV
section
variable {c : Cx} {n : Nat} {sc scope : Scope} {cl : Fm → List (Str × Addr)} {x : Str}
theorem InC.mono {f : Fm} {g₀ : Heap} {names : List (Str × NameKind)} {ρ : Loc} {σ σ' : Store} {W W' : Wd} {s s' : Shared} {C : Addr} {v : AV} (I : InC c W s C x v) (l : W.Le W') (G : St c f true g₀ names ρ σ W s) (G' : St c f true g₀ names ρ σ' W' s') : InC c W' s' C x v := by
  obtain ⟨oC, m, V, h1, h2, h3, h4, h5⟩ := I
  obtain ⟨q1, q2⟩ := l.keep C oC h1 h2
  obtain ⟨_, _, G⟩ := G
  obtain ⟨_, _, G'⟩ := G'
  refine ⟨oC, m, V, q1, q2, ?_, h4, h5.mono l⟩
  obtain ⟨o, es, ep, e1, e2⟩ := h3
  rw [(G.N _ h1).1] at e1
  cases e1
  exact ⟨_, es, ep, (G'.N _ q1).1, e2⟩
theorem EltOk.bind {α : Type} {e : Expr} {fe : EF} (h : EltOk c n sc scope cl x e fe) {f : Fm} {g₀ : Heap} {ρ : Loc} {σ : Store} {W : Wd} {s : Shared} {C : Addr} {v : AV} (hc : c.Ok) (hf : FOk n sc f) (hs : St c f true g₀ sc.names ρ σ W s) (I : InC c W s C x v)
    {k : AV → Store → Res α} (hg : ((fe ρ v σ).bind k).good true) {P E : Value → Shared → Prop} (next : ∀ y σ₁ Y W₁ s₁, fe ρ v σ = .ok y σ₁ → W.Le W₁ → St c f true g₀ sc.names ρ σ₁ W₁ s₁ → InC c W₁ s₁ C x v → RV c W₁ y Y → (k y σ₁).good true → P Y s₁) :
    wpAny c.M (f.A sc) (eval e (compEnvC scope (cl f) C (f.env sc))) P E s := by
  refine h f g₀ ρ σ W s C v hc hf hs I (Res.good_bind hg) _ _ fun y σ' V W' s' e l G r => ?_
  rw [e] at hg
  exact next y σ' V W' s' e l G (I.mono l hs G) r hg

theorem ce_x {p : Pos} (hk : scope.kind = .function) (hx : scope.names.lookup x = some .local) (hd : (x == ("__debug__" : Str)) = false) : EltOk c n sc scope cl x (.Name x p) (fun _ v σ => .ok v σ) := by
  intro f g₀ ρ σ W s C v hc hf hs I hg Q E hq
  obtain ⟨oC, m, V, h1, h2, h3, h4, h5⟩ := I
  exact wpAny_Name (wpAny_loadName_local (by simpa [compEnvC, relabel] using hk) (lookup_relabel_local hx) h3 h4 (hq v σ V W s rfl (.refl _) hs h5)) hd
theorem ce_int {i : Int} {k : Nat} {p : Pos} : EltOk c n sc scope cl x (.Constant (.int i) k p) (fun _ _ σ => .ok (.int i) σ) := by
  intro f g₀ ρ σ W s C v hc hf hs I hg Q E hq
  exact wpAny_Constant_int (hq _ σ _ W _ rfl (.refl _) (hs.toks _) (.int i _))
theorem ce_str {y : Str} {k : Nat} {p : Pos} {l : List Nat} (e : y = sOf l) : EltOk c n sc scope cl x (.Constant (.str y) k p) (fun _ _ σ => .ok (.str l) σ) := by
  subst e
  intro f g₀ ρ σ W s C v hc hf hs I hg Q E hq
  exact Constant_str (hq _ σ _ W _ rfl (.refl _) (hs.toks _) (.str l _))
noncomputable def eOp2 (op : Store → AV → AV → Option AV) (a b : EF) : EF := fun ρ v σ => (a ρ v σ).bind fun y σ => (b ρ v σ).bind fun z σ => .ofO (op σ y z) σ
theorem ce_op2 {e₁ e₂ e' : Expr} {a b : EF} {op : Store → AV → AV → Option AV} {t : Value → Value → Sem Value} (ha : EltOk c n sc scope cl x e₁ a) (hb : EltOk c n sc scope cl x e₂ b) (hp : Pure2 c t op (RV c))
    (he' : ∀ (A : Around) (env : Env) (s : Shared) (Q : Value → Shared → Prop) (E : Value → Shared → Prop), wpAny c.M A (eval e₁ env) (fun V s₁ => wpAny c.M A (eval e₂ env) (fun Y s₂ => wpAny c.M A (t V Y) Q E s₂) E s₁) E s → wpAny c.M A (eval e' env) Q E s) :
    EltOk c n sc scope cl x e' (eOp2 op a b) := by
  intro f g₀ ρ σ W s C v hc hf hs I hg Q E hq
  refine he' _ _ s Q E (ha.bind hc hf hs I hg fun y σ₁ Y W₁ s₁ e1 l1 G1 I1 r1 hg1 => ?_)
  refine hb.bind hc hf G1 I1 hg1 fun z σ₂ Z W₂ s₂ e2 l2 G2 I2 r2 hg2 => ?_
  obtain ⟨r, hr⟩ := good_ofO hg2
  refine hp n sc f true g₀ sc.names ρ σ₂ W₂ s₂ hc hf G2 y z Y Z r (r1.mono l2) r2 hr Q E fun V W' s' l G rr => hq r σ₂ V W' s' ?_ ((l1.trans l2).trans l) G rr
  unfold eOp2
  rw [e1]
  dsimp only [Res.bind]
  rw [e2]
  dsimp only [Res.bind]
  rw [hr]
  rfl
theorem ce_bin {l r : Expr} {op : Operator} {pos : Pos} {a b : EF} {o : Store → AV → AV → Option AV} (ha : EltOk c n sc scope cl x l a) (hb : EltOk c n sc scope cl x r b) (hp : Pure2 c (binaryOp op) o (RV c)) : EltOk c n sc scope cl x (.BinOp l op r pos) (eOp2 o a b) :=
  ce_op2 ha hb hp fun A env s Q E h => wpAny_BinOp h
theorem ce_item {value slice : Expr} {pos : Pos} {a b : EF} (hp : plainIdx slice) (ha : EltOk c n sc scope cl x value a) (hb : EltOk c n sc scope cl x slice b) : EltOk c n sc scope cl x (.Subscript value slice pos) (eOp2 oItem a b) :=
  ce_op2 ha hb (p_item hp) fun A env s Q E h => Subscript_ h
/-- if x == y then a else b -/
noncomputable def eIfEq (y z a b : EF) : EF := fun ρ v σ => (y ρ v σ).bind fun p σ => (z ρ v σ).bind fun q σ => match eqA σ p q with
  | some true => a ρ v σ
  | some false => b ρ v σ
  | none => .stuck
theorem ce_ifeq {l r e₁ e₂ : Expr} {p1 p2 : Pos} {y z a b : EF} (hy : EltOk c n sc scope cl x l y) (hz : EltOk c n sc scope cl x r z) (ha : EltOk c n sc scope cl x e₁ a) (hb : EltOk c n sc scope cl x e₂ b) (hm : behindInMarks CmpOp.Eq r = false := by rfl) :
    EltOk c n sc scope cl x (.IfExp (.Compare l [.Eq] [r] p1) e₁ e₂ p2) (eIfEq y z a b) := by
  intro f g₀ ρ σ W s C v hc hf hs I hg Q E hq
  refine IfExp_ (wpAny_isTrue_Compare1 (hy.bind hc hf hs I hg fun p σ₁ P W₁ s₁ e1 l1 G1 I1 r1 hg1 => ?_) hm)
  refine hz.bind hc hf G1 I1 hg1 fun q σ₂ Z W₂ s₂ e2 l2 G2 I2 r2 hg2 => ?_
  have hE : ∀ t, eqA σ₂ p q = some t → eIfEq y z a b ρ v σ = if t then a ρ v σ₂ else b ρ v σ₂ := by
    intro t ht
    unfold eIfEq
    rw [e1]
    dsimp only [Res.bind]
    rw [e2]
    dsimp only [Res.bind]
    rw [ht]
    cases t <;> rfl
  cases ht : eqA σ₂ p q with
  | none => rw [ht] at hg2; exact hg2.elim
  | some t =>
    rw [ht] at hg2
    rw [hE t ht] at hq
    refine p_eq n sc f true g₀ sc.names ρ σ₂ W₂ s₂ hc hf G2 p q P Z (.bool t) (r1.mono l2) r2 (by unfold oEq; rw [ht]; rfl) _ _ fun V W' s' l G rr => ?_
    cases rr
    refine wpAny_truthy_bool ?_
    cases t with
    | true => exact ha f g₀ ρ σ₂ W' s' C v hc hf G (I2.mono l G2 G) hg2 _ _ fun y σ' V W'' s'' e l' G' r => hq y σ' V W'' s'' e (((l1.trans l2).trans l).trans l') G' r
    | false => exact hb f g₀ ρ σ₂ W' s' C v hc hf G (I2.mono l G2 G) hg2 _ _ fun y σ' V W'' s'' e l' G' r => hq y σ' V W'' s'' e (((l1.trans l2).trans l).trans l') G' r
/-- a pair -/
noncomputable def eTup2 (a b : EF) : EF := fun ρ v σ => (a ρ v σ).bind fun y σ => (b ρ v σ).bind fun z σ => .ok (.tup [y, z]) σ
theorem ce_tup2 {e₁ e₂ : Expr} {k : Nat} {pos : Pos} {a b : EF} (h1 : notStar e₁ = true) (h2 : notStar e₂ = true) (ha : EltOk c n sc scope cl x e₁ a) (hb : EltOk c n sc scope cl x e₂ b) : EltOk c n sc scope cl x (.Tuple [e₁, e₂] k pos) (eTup2 a b) := by
  intro f g₀ ρ σ W s C v hc hf hs I hg Q E hq
  refine Tuple_ ?_
  rw [starEach_cons h1, starEach_cons h2]
  refine spliced_cons (ha.bind hc hf hs I hg fun y σ₁ Y W₁ s₁ e1 l1 G1 I1 r1 hg1 => ?_)
  refine spliced_cons (hb.bind hc hf G1 I1 hg1 fun z σ₂ Z W₂ s₂ e2 l2 G2 I2 r2 hg2 => ?_)
  refine spliced_nil ?_
  obtain ⟨g, m, G⟩ := G2
  refine newTuple_N G.F G.N (fun h' F' N' => ?_) (by show 2 ≤ sizeLine; have := sizeLine_big; lia)
  refine hq _ σ₂ _ _ _ ?_ ((l1.trans l2).trans (.cons _ _)) (G.grow F' N' _) (.tup (n := 0) (.inl ⟨.head _, G.fresh⟩) (.cons ((r1.mono l2).mono (.cons _ _)) (.cons (r2.mono (.cons _ _)) .nil)))
  unfold eTup2
  rw [e1]
  dsimp only [Res.bind]
  rw [e2]
/-- a call of a built-in of the run's, or of a function of the text's -/
noncomputable def eCall (F : List AV → Store → Res AV) (a : EF) : EF := fun ρ v σ => (a ρ v σ).bind fun y σ => F [y] σ
theorem ce_call {y : Str} {np pos : Pos} {e : Expr} {a : EF} {V : Value} {F : List AV → Store → Res AV} {k : Nat} (hn : notStar e = true) (hK : KeepV c V) (hF : FnV c k true V F) (hk : k ≤ n)
    (hV : ∀ (f : Fm) (C : Addr) (s : Shared) (g : Heap) (m : Str → Option Value), c.Ok → Fr g f.L s.heap m → c.K.In g → Top c.p c.loose c.mean c.mg c.mb g → ∀ (Q E : Value → Shared → Prop), Q V s → wpAny c.M (f.A sc) (eval (.Name y np) (compEnvC scope (cl f) C (f.env sc))) Q E s)
    (ha : EltOk c n sc scope cl x e a) : EltOk c n sc scope cl x (.Call (.Name y np) [e] [] pos) (eCall F a) := by
  intro f g₀ ρ σ W s C v hc hf hs I hg Q E hq
  have hs' := hs
  obtain ⟨g, m, G⟩ := hs'
  refine wpAny_Call_ofName (hV f C s g m hc G.F (G.X hc) (G.Tp hc) _ E ?_)
  refine callWith_any (by simp [hn]) hK ?_
  rw [starEach_cons hn]
  refine spliced_cons (ha.bind hc hf hs I hg fun z σ₁ Z W₁ s₁ e1 l1 G1 I1 r1 hg1 => ?_)
  refine spliced_nil ⟨G1.In hc, ?_⟩
  refine hF sc f g₀ ρ σ₁ W₁ s₁ hc (hf.mono hk) G1 [z] [Z] (.cons r1 .nil) hg1 Q E (fun r σ' V' W' s' e l G r' => hq r σ' V' W' s' ?_ (l1.trans l) G r') fun C' σ' e W' s' q l F => ?_
  · unfold eCall
    rw [e1]
    exact e
  · rw [q] at hg1
    cases hg1
theorem ceV_blt {y : Str} {np : Pos} {V : Value} (h : BV c y V) (hk : scope.kind = .function) (hx : ∀ (f : Fm) (C : Addr), (compEnvC scope (cl f) C (f.env sc)).kindOf y = some .globalImplicit) (hd : (y == ("__debug__" : Str)) = false) (f : Fm) (C : Addr) (s : Shared) (g : Heap) (m : Str → Option Value) (hc : c.Ok) (F : Fr g f.L s.heap m) (X : c.K.In g) (T : Top c.p c.loose c.mean c.mg c.mb g)
    (Q E : Value → Shared → Prop) (q : Q V s) : wpAny c.M (f.A sc) (eval (.Name y np) (compEnvC scope (cl f) C (f.env sc))) Q E s :=
  Name_function_global (env := compEnvC scope (cl f) C (f.env sc)) (by simpa [compEnvC, relabel] using hk) (hx f C) (loadGlobal_builtin (env := compEnvC scope (cl f) C (f.env sc)) ((topRead_of T).g.keeps F.keep) (mg_none_of X (topRead_of T).g h.1) ((topRead_of T).b.keeps F.keep) (((topRead_of T).builtins y h.2.2).trans h.2.1) q) hd
theorem ceV_glob {y : Str} {np : Pos} {V : Value} (h : nsIn c.K mainGlobals y = some (some V)) (hk : scope.kind = .function) (hx : ∀ (f : Fm) (C : Addr), (compEnvC scope (cl f) C (f.env sc)).kindOf y = some .globalImplicit) (hd : (y == ("__debug__" : Str)) = false) (f : Fm) (C : Addr) (s : Shared) (g : Heap) (m : Str → Option Value) (hc : c.Ok) (F : Fr g f.L s.heap m) (X : c.K.In g) (T : Top c.p c.loose c.mean c.mg c.mb g)
    (Q E : Value → Shared → Prop) (q : Q V s) : wpAny c.M (f.A sc) (eval (.Name y np) (compEnvC scope (cl f) C (f.env sc))) Q E s :=
  Name_function_global (env := compEnvC scope (cl f) C (f.env sc)) (by simpa [compEnvC, relabel] using hk) (hx f C) (loadGlobal_global (env := compEnvC scope (cl f) C (f.env sc)) ((topRead_of T).g.keeps F.keep) (mg_of X (topRead_of T).g h) q) hd
/-- a name of the frame around, held in a cell -/
theorem ce_free {y : Str} {p : Pos} {i : Nat} (hy : sc.names[i]? = some (y, .cell)) (hcl : ∀ f : Fm, ∀ a, f.cl.lookup y = some a → (cl f).lookup y = some a) (hk : scope.kind = .function) (hx : ∀ (f : Fm) (C : Addr), (compEnvC scope (cl f) C (f.env sc)).kindOf y = some .cell) (hd : (y == ("__debug__" : Str)) = false) :
    EltOk c n sc scope cl x (.Name y p) (fun ρ _ σ => mLocC i ρ σ) := by
  intro f g₀ ρ σ W s C v hc hf hs I hg Q E hq
  have hs' := hs
  obtain ⟨g, m, G⟩ := hs'
  have hg : (mLocC i ρ σ).good true := hg
  have hq : ∀ y σ' V W' s', mLocC i ρ σ = .ok y σ' → W.Le W' → St c f true g₀ sc.names ρ σ' W' s' → RV c W' y V → Q V s' := hq
  unfold mLocC at hg hq
  split at hg
  · rename_i j hj
    split at hg
    · rename_i v hv
      rw [hj] at hq
      dsimp only at hq
      rw [hv] at hq
      obtain ⟨a, ob, h1, h2, h3, h4⟩ := G.cellAt hy hj hv
      obtain ⟨V, hd', hr⟩ := h4.cell_inv
      exact wpAny_Name (wpAny_loadName_cell (by simpa [compEnvC, relabel] using hk) (hx f C) (hcl f a h1) ⟨ob, (G.N _ h3).1, hd'⟩ (hq v σ _ W s rfl (.refl W) hs hr)) hd
    · exact hg.elim
  · exact hg.elim
end

/-! ## a guard ahead of a step -/
noncomputable def mGuard (gd : Loc → Bool) (m : MS) : MS := fun ρ σ => if gd ρ then m ρ σ else .stuck
theorem sim_guard {c : Cx} {n : Nat} {tn : Bool} {sc : Scope} {t : Env → Sem Flow} {gd : Loc → Bool} {m : MS} (h : ∀ (f : Fm) (g₀ : Heap) (ρ : Loc) (σ : Store) (W : Wd) (s : Shared), c.Ok → FOk n sc f → St c f tn g₀ sc.names ρ σ W s → gd ρ = true → (m ρ σ).good tn →
    ∀ (Q : Flow → Shared → Prop) (E : Value → Shared → Prop), PassesOwn c.M (f.A sc) (f.env sc) E →
      (∀ fl ρ' σ' F W' s', m ρ σ = .ok (fl, ρ') σ' → W.Le W' → St c f tn g₀ sc.names ρ' σ' W' s' → RFl c W' fl F → Q F s') →
      (∀ C σ' e W' s', m ρ σ = .exc C σ' → W.Le W' → Fly c f sc g₀ σ' W' C e s' → E (.ref e) s') →
      wpAny c.M (f.A sc) (t (f.env sc)) Q E s) : SimS c n tn sc t (mGuard gd m) := by
  intro f g₀ ρ σ W s hc hf hs hg Q E hE hq he
  unfold mGuard at hg hq he
  split at hg
  · rename_i hgd
    rw [if_pos hgd] at hq he
    exact h f g₀ ρ σ W s hc hf hs hgd hg Q E hE hq he
  · exact hg.elim
theorem sim_setComp {c : Cx} {n : Nat} {sc scope : Scope} {cl : Fm → List (Str × Addr)} {x y : Str} {px py : Pos} {elt iter : Expr} {pos spos : Pos} {fe : EF} {mi : ME} {k : Nat} (Wx : Fm → Prop) (gd : Loc → Bool) (I : CompOk sc scope cl x iter Wx)
    (hW : ∀ (f : Fm) (g₀ : Heap) (ρ : Loc) (σ : Store) (W : Wd) (s : Shared), St c f true g₀ sc.names ρ σ W s → gd ρ = true → Wx f)
    (he : EltOk c n sc scope cl x elt fe) (hi : SimE c n true sc iter mi) (hy : LocIdx sc y k) (hsw : ∀ f : Fm, swapsWith (.ListComp elt [⟨.Name x px, iter, [], 0⟩] scope pos) (some (.Name y py)) spos.line (f.env sc) = pure true) :
    Sim1 c n true sc (.Assign [.Name y py] (.ListComp elt [⟨.Name x px, iter, [], 0⟩] scope pos) spos) (mGuard gd (mSet k (mComp fe mi))) :=
  sim_guard fun f g₀ ρ σ W s hc hf hs hgd hg Q E hE hq he' => setComp_at Wx I he hi hy hsw hc hf hs (hW f g₀ ρ σ W s hs hgd) hg hq

/- S16 -/

/-! ## a function of one argument with one cell -/
noncomputable def mFnC (r : Nat) (m : MS) : List AV → Store → Res AV := fun as σ => match as with
  | [v] => (m (some v :: some (.ref σ.length) :: List.replicate r none) (σ ++ [.cell none])).bind fun x σ => match x with
    | (.ret v, _) => .ok v σ
    | (.next, _) => .ok .none σ
  | _ => .stuck
structure FnIsC (c : Cx) (fa : Nat) (qual : Str) (cdv : Value) (p y : Str) (r : Nat) (body : List Stmt) (sc : Scope) : Prop where
  ho : HasFn c fa qual cdv body sc fun fd => ∀ (s : Shared) (V : Value), BindsTo s fd ⟨[V], []⟩ [(p, V)]
  code : codeIn c.K cdv qual = true
  kind : sc.kind = .function
  co : sc.isCoroutine = false
  gen : sc.isGenerator = false
  nodup : (sc.names.map (·.1)).Nodup
  par : sc.names[0]? = some (p, NameKind.local)
  cell : sc.names[1]? = some (y, NameKind.cell)
  cells : ∀ n, cellsFrom n sc.names [] = [(y, n)]
  kp : ∀ (name : Str) (L a : Addr) (cd : Value), (envOfC name sc L a cd).kindOf p = some .local

section
variable {c : Cx} {n : Nat}
theorem mFnC_one {r : Nat} {m : MS} {as : List AV} {σ : Store} {tn : Bool} (h : (mFnC r m as σ).good tn) : ∃ v, as = [v] := by
  unfold mFnC at h
  split at h
  · exact ⟨_, rfl⟩
  · exact h.elim
theorem LocR.one_cell {W : Wd} {names : List (Str × NameKind)} {p y : Str} {a n r : Nat} {v : AV} {V : Value} (par : names[0]? = some (p, NameKind.local)) (cell : names[1]? = some (y, NameKind.cell)) (rv : RV c W v V) (hφ : W.φ[n]? = some a) :
    LocR c W names [(y, a)] (some v :: some (.ref n) :: List.replicate r none) (fun z => if z = p then some V else none) := by
  intro i x k v' e q
  match i with
  | 0 =>
    cases par.symm.trans e
    cases q
    exact ⟨V, fun _ => if_pos rfl, (fun q => nomatch q), rv⟩
  | 1 =>
    cases cell.symm.trans e
    cases q
    exact ⟨.ref a, fun q => absurd rfl q, fun _ => ⟨a, by simp, rfl⟩, .ref hφ⟩
  | i + 2 =>
    simp only [List.getElem?_cons_succ, List.getElem?_replicate] at q
    split at q <;> cases q
theorem FnIsC.fn {fa : Nat} {qual : Str} {cdv : Value} {p y : Str} {r : Nat} {body : List Stmt} {sc' : Scope} {m : MS} (I : FnIsC c fa qual cdv p y r body sc') (hb : SimB c n true sc' body m) : FnV c (n + 1) true (.ref fa) (mFnC r m) := by
  intro sc f g₀ ρ σ W s hc hf hs as Vs ra hg Q E hq he
  obtain ⟨v, rfl⟩ := mFnC_one hg
  · obtain ⟨V, rfl, rv⟩ := ra.one
    · obtain ⟨g, m₀, G⟩ := hs
      obtain ⟨oc, od, osl, name, params, dV, kV, doc, pm, an, ct, ho, hbind⟩ := I.ho
      have hlp := names_lookup I.nodup I.par
      refine wpAny_call (code_defXC (A := f.A sc) (env := f.env sc) G.B G.F (G.X hc) G.N (G.Tp hc) hc.XB hc.TB G.D G.T ?_ rfl hf.kind ho I.code ?_ (hbind s V) ?_ ?_ ?_ I.co I.gen I.kind)
      · show (f.A₀.frames.map _) = _
        rw [G.B.stack]
        rfl
      · have := hf.depth
        lia
      · intro n z hz
        rw [List.mem_singleton] at hz
        subst hz
        exact .inl hlp
      · rw [I.cells]
        simp
      intro g' L' h₁ tk cells FG F' N' Y hlt B' X' T' D'
      rw [I.cells] at Y
      obtain ⟨o, rfl, hod⟩ := Y.one
      have kp := I.kp qual L' fa cdv
      rw [show bindC (envOfC qual sc' L' fa cdv).kindOf [(p, V)] (fun _ => none) = (fun _ => none) from by unfold bindC; rw [if_pos kp]; rfl] at hod
      rw [show bindL (envOfC qual sc' L' fa cdv).kindOf [(p, V)] (fun _ => none) = (fun z => if z = p then some V else none) from by unfold bindL; rw [if_pos kp]; rfl] at F'
      have henv : envOfC qual sc' L' fa cdv = envX qual sc' L' fa cdv [(y, L' + 1)] := by
        show envX qual sc' L' fa cdv (cellsFrom (L' + 1) sc'.names []) = _
        rw [I.cells]
      rw [henv]
      have hlt2 : ∀ q ∈ W.news, q.1 < L' + 1 := fun q hq => Nat.lt_succ_of_lt (hlt q hq)
      have le₁ : W.Le ⟨W.φ ++ [L' + 1], (L' + 1, o) :: W.news⟩ := .alloc hlt2
      have S' : St c ⟨f.A sc, f.env sc :: f.outer, qual, L', fa, cdv, [(y, L' + 1)]⟩ true g' sc'.names (some v :: some (.ref σ.length) :: List.replicate r none) (σ ++ [.cell none]) ⟨W.φ ++ [L' + 1], (L' + 1, o) :: W.news⟩ { s with heap := h₁, toks := tk } :=
        ⟨g', _, B', F', N', D', .refl, fun _ => rfl, .one_cell I.par I.cell (rv.mono le₁) (phi_last G.S.len _), G.S.alloc hlt2 (.cell0 hod), G.e1, G.e2, G.e3⟩
      have hf' : FOk n sc' ⟨f.A sc, f.env sc :: f.outer, qual, L', fa, cdv, [(y, L' + 1)]⟩ := by
        refine ⟨I.kind, I.nodup, ?_, ?_, hf.handled, hf.guards, fun q => absurd rfl (q _ (List.mem_of_getElem? I.cell))⟩
        · have := hf.depth
          show (f.A sc).depth + 1 + n < recursionLimit
          lia
        · have := hf.units
          show (f.A sc).units + 3 + 8 * n + 80 < cLine
          lia
      exact callee_run (tn := true) (f' := ⟨f.A sc, f.env sc :: f.outer, qual, L', fa, cdv, [(y, L' + 1)]⟩) (s₁ := { s with heap := h₁, toks := tk }) (R := fun r s' => match r with | .ok (.ret v) => Q v s' | .ok _ => False | .error e => E e s') rfl (fun q => Bool.noConfusion q) I.kind hb hc hf' G FG le₁ S' rfl hg hq fun C σ' e W' s' q l F _ => he C σ' e W' s' q l F
end

/- S17 -/

/-! ## two comparisons in a chain -/
noncomputable def mChain (o1 o2 : Store → AV → AV → Option AV) (a b d : ME) : ME := fun ρ σ => (a ρ σ).bind fun x σ => (b ρ σ).bind fun y σ => match o1 σ x y with
  | some (.bool true) => (d ρ σ).bind fun z σ => .ofO (o2 σ y z) σ
  | some (.bool false) => .ok (.bool false) σ
  | _ => .stuck
section
variable {c : Cx} {n : Nat} {tn : Bool} {sc : Scope}
theorem sim_chain {l r₁ r₂ : Expr} {op₁ op₂ : CmpOp} {pos : Pos} {a b d : ME} {o1 o2 : Store → AV → AV → Option AV} (ha : SimE c n tn sc l a) (hb : SimE c n tn sc r₁ b) (hd : SimE c n tn sc r₂ d) (p1 : Pure2 c (compareOp op₁) o1 (RV c)) (p2 : Pure2 c (compareOp op₂) o2 (RV c))
    (hm : lastMarks [op₁, op₂] [r₁, r₂] = false) : SimE c n tn sc (.Compare l [op₁, op₂] [r₁, r₂] pos) (mChain o1 o2 a b d) := by
  intro f g₀ ρ σ W s hc hf hs hg Q E hq he
  refine Compare_chain (ha.bind (rel' := RV c) hc hf hs hg hq he fun x σ₁ X W₁ s₁ e1 l1 G1 r1 hg1 hq1 he1 => ?_) hm
  refine chain_link (hb.bind (rel' := RV c) hc hf G1 hg1 hq1 he1 fun y σ₂ Y W₂ s₂ e2 l2 G2 r2 hg2 hq2 he2 => ?_)
  split at hg2
  · rename_i h1
    rw [h1] at hq2 he2
    dsimp only at hq2 he2
    refine p1 n sc f tn g₀ sc.names ρ σ₂ W₂ s₂ hc hf G2 x y X Y _ (r1.mono l2) r2 h1 _ _ fun V W' s' l G r => ?_
    cases r.bool_inv
    refine wpAny_truthy_bool ?_
    rw [if_pos rfl]
    refine chain_last (hd.bind (rel' := RV c) hc hf G hg2 (fun v σ' V W' s' e l' G r => hq2 v σ' V W' s' e (l.trans l') G r) (fun C σ' e W' s' q l' F => he2 C σ' e W' s' q (l.trans l') F) fun z σ₃ Z W₃ s₃ e3 l3 G3 r3 hg3 hq3 he3 => ?_)
    obtain ⟨v, hv⟩ := good_ofO hg3
    exact p2 n sc f tn g₀ sc.names ρ σ₃ W₃ s₃ hc hf G3 y z Y Z v ((r2.mono l).mono l3) r3 hv Q E fun V W' s' l G r => hq3 v σ₃ V W' s' (by rw [hv]; rfl) l G r
  · rename_i h1
    rw [h1] at hq2
    dsimp only at hq2
    refine p1 n sc f tn g₀ sc.names ρ σ₂ W₂ s₂ hc hf G2 x y X Y _ (r1.mono l2) r2 h1 _ _ fun V W' s' l G r => ?_
    cases r.bool_inv
    refine wpAny_truthy_bool ?_
    rw [if_neg (by decide)]
    exact hq2 _ σ₂ _ W' s' rfl l G (.bool _)
  · exact hg2.elim
theorem simT_chain {l r₁ r₂ : Expr} {op₁ op₂ : CmpOp} {pos : Pos} {a b d : ME} {o1 o2 : Store → AV → AV → Option AV} (ha : SimE c n tn sc l a) (hb : SimE c n tn sc r₁ b) (hd : SimE c n tn sc r₂ d) (p1 : Pure2 c (compareOp op₁) o1 (RV c)) (p2 : Pure2 c (compareOp op₂) o2 (RV c))
    (hm : lastMarks [op₁, op₂] [r₁, r₂] = false) : SimT c n tn sc (.Compare l [op₁, op₂] [r₁, r₂] pos) (mTr (mChain o1 o2 a b d)) := by
  intro f g₀ ρ σ W s hc hf hs hg Q E hq he
  have e : ∀ ρ σ, mTr (mChain o1 o2 a b d) ρ σ = (a ρ σ).bind fun x σ => (b ρ σ).bind fun y σ => match o1 σ x y with
      | some (.bool true) => (d ρ σ).bind fun z σ => (Res.ofO (o2 σ y z) σ).bind fun v σ => match v with | .bool b => .ok b σ | _ => .stuck
      | some (.bool false) => .ok false σ
      | _ => .stuck := by
    intro ρ σ
    unfold mTr mChain
    cases a ρ σ with
    | ok x σ₁ =>
      dsimp only [Res.bind]
      cases b ρ σ₁ with
      | ok y σ₂ =>
        dsimp only [Res.bind]
        generalize o1 σ₂ x y = q
        cases q with
        | none => rfl
        | some v =>
          cases v with
          | bool t =>
            cases t with
            | true => dsimp only; cases d ρ σ₂ <;> rfl
            | false => rfl
          | _ => rfl
      | _ => rfl
    | _ => rfl
  rw [e] at hg hq he
  refine isTrue_chain (ha.bind (rel' := fun _ b v => b = v) hc hf hs hg hq he fun x σ₁ X W₁ s₁ e1 l1 G1 r1 hg1 hq1 he1 => ?_) hm
  refine test_link (hb.bind (rel' := fun _ b v => b = v) hc hf G1 hg1 hq1 he1 fun y σ₂ Y W₂ s₂ e2 l2 G2 r2 hg2 hq2 he2 => ?_)
  split at hg2
  · rename_i h1
    rw [h1] at hq2 he2
    dsimp only at hq2 he2
    refine p1 n sc f tn g₀ sc.names ρ σ₂ W₂ s₂ hc hf G2 x y X Y _ (r1.mono l2) r2 h1 _ _ fun V W' s' l G r => ?_
    cases r.bool_inv
    refine wpAny_truthy_bool ?_
    rw [if_pos rfl]
    refine test_last (hd.bind (rel' := fun _ b v => b = v) hc hf G hg2 (fun v σ' V W' s' e l' G r => hq2 v σ' V W' s' e (l.trans l') G r) (fun C σ' e W' s' q l' F => he2 C σ' e W' s' q (l.trans l') F) fun z σ₃ Z W₃ s₃ e3 l3 G3 r3 hg3 hq3 he3 => ?_)
    obtain ⟨v, hv⟩ := good_ofO (Res.good_bind hg3)
    rw [hv] at hg3 hq3 he3
    refine p2 n sc f tn g₀ sc.names ρ σ₃ W₃ s₃ hc hf G3 y z Y Z v ((r2.mono l).mono l3) r3 hv _ E fun V W' s' l G r => ?_
    exact truthy_sim G r hg3 fun b q1 q2 => hq3 b σ₃ b W' s' (by rw [q1]; rfl) l G rfl
  · rename_i h1
    rw [h1] at hq2
    dsimp only at hq2
    refine p1 n sc f tn g₀ sc.names ρ σ₂ W₂ s₂ hc hf G2 x y X Y _ (r1.mono l2) r2 h1 _ _ fun V W' s' l G r => ?_
    cases r.bool_inv
    refine wpAny_truthy_bool ?_
    rw [if_neg (by decide)]
    exact hq2 _ σ₂ _ W' s' rfl l G rfl
  · exact hg2.elim

/-! ## in -/
noncomputable def flat2 : AV → Option PyData
  | .int i => some (.int i)
  | .str s => if s.all (· < 128) then some (.str (sOf s)) else none
  | _ => none
noncomputable def flats2 : List AV → Option (List PyData)
  | [] => some []
  | x :: l => (flat2 x).bind fun d => (flats2 l).map fun ds => d :: ds
noncomputable def eq2 : AV → AV → Bool
  | .int a, .int b => a == b
  | .str a, .str b => a == b
  | _, _ => false
noncomputable def oIn (σ : Store) (x y : AV) : Option AV := match x, y with
  | .int k, .tup l => (match flats2 l, l.all (fun v => match v with | .int _ => true | _ => false) with
    | some _, true => some (.bool (l.any fun z => eq2 z (.int k)))
    | _, _ => none)
  | x, .ref i => (match σ[i]?, flat2 x with
    | some (.list l), some _ => (match flats2 l with
      | some _ => some (.bool (l.any fun z => eq2 z x))
      | none => none)
    | _, _ => none)
  | _, _ => none
noncomputable def oNotIn (σ : Store) (x y : AV) : Option AV := match oIn σ x y with
  | some (.bool b) => some (.bool (!b))
  | _ => none
theorem flat2_reads {W : Wd} {h : Heap} {x : AV} {X : Value} {d : PyData} (hx : RV c W x X) (e : flat2 x = some d) : Reads h X d [] ∧ d.canLay0 = true ∧ d.depth = 0 := by
  unfold flat2 at e
  split at e <;> first | (cases e; done) | skip
  · cases e; obtain ⟨t, rfl⟩ := hx.int_inv; exact ⟨.int _ _, rfl, by simp [PyData.depth]⟩
  · split at e
    · rename_i ha
      cases e
      obtain ⟨t, rfl⟩ := hx.str_inv
      refine ⟨.str _ _, ?_, by simp [PyData.depth]⟩
      simp only [PyData.canLay0]
      unfold PyData.strOk sOf
      rw [← Array.all_toList]
      rw [List.all_eq_true] at ha ⊢
      intro z hz
      have := ha z hz
      simp only [decide_eq_true_eq] at this ⊢
      lia
    · cases e
theorem flats2_reads {W : Wd} {h : Heap} : ∀ {l : List AV} {vs : List Value} {ds : List PyData}, RVs c W l vs → flats2 l = some ds → (∃ as, ReadsAll h vs ds as) ∧ PyData.canLayAll0 ds = true ∧ PyData.depthAll ds = 0
  | _, _, _, .nil, e => by cases e; exact ⟨⟨_, .nil⟩, rfl, by simp [PyData.depthAll]⟩
  | _, _, _, .cons hx hs, e => by
    unfold flats2 at e
    obtain ⟨d, h1, e⟩ := Option.bind_eq_some_iff.mp e
    obtain ⟨ds, h2, e⟩ := Option.map_eq_some_iff.mp e
    subst e
    obtain ⟨r1, a1, b1⟩ := flat2_reads (h := h) hx h1
    obtain ⟨⟨bs, r2⟩, a2, b2⟩ := flats2_reads hs h2
    refine ⟨⟨_, .cons r1 r2⟩, by simp [PyData.canLayAll0, a1, a2], ?_⟩
    simp only [PyData.depthAll]
    lia
theorem eq2_eqv {x y : AV} {d e : PyData} (hx : flat2 x = some d) (hy : flat2 y = some e) : PyData.eqv d e = eq2 x y := by
  unfold flat2 at hx hy
  split at hx <;> first | (cases hx; done) | skip
  · cases hx
    split at hy <;> first | (cases hy; done) | skip
    · cases hy; simp [PyData.eqv, eq2]
    · split at hy <;> cases hy
      simp [PyData.eqv, eq2]
  · split at hx <;> cases hx
    split at hy <;> first | (cases hy; done) | skip
    · cases hy; simp [PyData.eqv, eq2]
    · split at hy <;> cases hy
      simp only [PyData.eqv, eq2]
      first | exact sOf_beq _ _ | (rw [← sOf_beq]; rfl) | simp [sOf_inj]
theorem any_eq2 {x : AV} {d : PyData} (hx : flat2 x = some d) : ∀ {l : List AV} {ds : List PyData}, flats2 l = some ds → ds.any (fun y => PyData.eqv y d) = l.any fun z => eq2 z x
  | [], _, e => by cases e; rfl
  | y :: l, _, e => by
    unfold flats2 at e
    obtain ⟨d', h1, e⟩ := Option.bind_eq_some_iff.mp e
    obtain ⟨ds, h2, e⟩ := Option.map_eq_some_iff.mp e
    subst e
    rw [List.any_cons, List.any_cons, eq2_eqv h1 hx, any_eq2 hx h2]
theorem int_of_test {x : AV} (h : (match x with | .int _ => true | _ => false) = true) : ∃ i, x = .int i := by
  cases x <;> first | exact ⟨_, rfl⟩ | cases h
theorem ints_of {W : Wd} : ∀ {l : List AV} {vs : List Value}, RVs c W l vs → l.all (fun v => match v with | .int _ => true | _ => false) = true → ∃ ns, IntsAre vs ns ∧ ∀ k, ns.any (· == k) = l.any fun z => eq2 z (.int k)
  | _, _, .nil, _ => ⟨[], .nil, fun _ => rfl⟩
  | _, _, .cons hx hs, e => by
    rw [List.all_cons, Bool.and_eq_true] at e
    obtain ⟨ns, h1, h2⟩ := ints_of hs e.2
    obtain ⟨i, rfl⟩ := int_of_test e.1
    obtain ⟨t, rfl⟩ := hx.int_inv
    exact ⟨i :: ns, .cons i t h1, fun k => by rw [List.any_cons, List.any_cons, h2]; rfl⟩
theorem in_wp {op : CmpOp} {neg : Bool} (hop : op = (if neg then CmpOp.NotIn else CmpOp.In)) {n : Nat} {sc : Scope} {f : Fm} {tn : Bool} {g₀ : Heap} {names : List (Str × NameKind)} {ρ : Loc} {σ : Store} {W : Wd} {s : Shared} (hc : c.Ok) (hf : FOk n sc f) (hs : St c f tn g₀ names ρ σ W s)
    {x y : AV} {X Y : Value} {v : AV} (hx : RV c W x X) (hy : RV c W y Y) (e : oIn σ x y = some v) {Q : Value → Shared → Prop} {E : Value → Shared → Prop}
    (hq : ∀ b, v = .bool b → Q (.bool (xn neg b)) s) : wpAny c.M (f.A sc) (compareOp op X Y) Q E s := by
  obtain ⟨g, m, G⟩ := hs
  subst hop
  unfold oIn at e
  split at e <;> first | (cases e; done) | skip
  · split at e
    · rename_i l ds hd hi
      cases e
      obtain ⟨t, rfl⟩ := hx.int_inv
      obtain ⟨a, vs, j, rfl, ht, hl⟩ := hy.tup_inv
      obtain ⟨ns, h1, h2⟩ := ints_of hl hi
      cases neg
      · exact in_tuple_ints ⟨_, G.at hc ht, rfl, _, rfl⟩ h1 (by rw [h2]; exact hq _ rfl)
      · exact notin_tuple_ints ⟨_, G.at hc ht, rfl, _, rfl⟩ h1 (by rw [h2]; exact hq _ rfl)
    · cases e
  · split at e
    · rename_i l d hl hd
      split at e
      · rename_i ds hds
        cases e
        obtain ⟨a, rfl, ha⟩ := hy.ref_inv
        obtain ⟨vs, k, _, rl, hget⟩ := G.list hc hl ha
        obtain ⟨r1, a1, b1⟩ := flat2_reads (h := s.heap) hx hd
        obtain ⟨⟨as, r2⟩, a2, b2⟩ := flats2_reads (h := s.heap) rl hds
        have R := reads_list_at hget rfl rfl (xs := ds) (as := as) r2
        have hu : (f.A sc).units + 1 + min (PyData.depthAll ds) d.depth < cLine := by
          have := hf.units
          lia
        cases neg
        · exact PySem.SeqAt.in_list_reads R r1 a2 a1 hu (by rw [any_eq2 hd hds]; exact hq _ rfl)
        · exact PySem.SeqAt.notIn_list_reads R r1 a2 a1 hu (by rw [any_eq2 hd hds]; exact hq _ rfl)
      · cases e
    · cases e
theorem oIn_bool {σ : Store} {x y v : AV} (e : oIn σ x y = some v) : ∃ b, v = .bool b := by
  unfold oIn at e
  split at e <;> first | (cases e; done) | skip
  · split at e <;> cases e; exact ⟨_, rfl⟩
  · split at e
    · split at e <;> cases e; exact ⟨_, rfl⟩
    · cases e
theorem p_in : Pure2 c (compareOp .In) oIn (RV c) := by
  intro n sc f tn g₀ names ρ σ W s hc hf hs x y X Y v hx hy e Q E hq
  exact in_wp (neg := false) rfl hc hf hs hx hy e fun b q => by subst q; exact hq _ W s (.refl _) hs (.bool b)
theorem p_notIn : Pure2 c (compareOp .NotIn) oNotIn (RV c) := by
  intro n sc f tn g₀ names ρ σ W s hc hf hs x y X Y v hx hy e Q E hq
  unfold oNotIn at e
  split at e
  · rename_i b hb
    cases e
    exact in_wp (neg := true) rfl hc hf hs hx hy hb fun b' q => by cases q; exact hq _ W s (.refl _) hs (.bool _)
  · cases e
end

/- S18 -/

/-! ## built-in functions -/
noncomputable def isiV (x : AV) (T : String) (σ : Store) : Res AV := match x with
  | .int _ => if T = "int" then .ok (.bool true) σ else if T = "bool" then .ok (.bool false) σ else .stuck
  | .tup _ => if T = "tuple" then .ok (.bool true) σ else .stuck
  | _ => .stuck
noncomputable def F_isi : List AV → Store → Res AV := fun as σ => match as with
  | [x, .lit (.type T)] => isiV x T σ
  | _ => .stuck
noncomputable def lenR (o : Option AO) (σ : Store) : Res AV := match o with
  | some (.list l) => if l.length ≤ 100000 then .ok (.int l.length) σ else .stuck
  | _ => .stuck
noncomputable def lenV (x : AV) (σ : Store) : Res AV := match x with
  | .str l => if l.length ≤ 100000 then .ok (.int l.length) σ else .stuck
  | .tup l => if l.length ≤ 100000 then .ok (.int l.length) σ else .stuck
  | .ref i => lenR σ[i]? σ
  | _ => .stuck
noncomputable def F_lenA : List AV → Store → Res AV := fun as σ => match as with
  | [x] => lenV x σ
  | _ => .stuck
noncomputable def lenS (sa : Addr) (sn : Nat) (x : AV) (σ : Store) : Res AV := match x with
  | .lit (.ref a) => if a = sa ∧ sn ≤ 100000 then .ok (.int sn) σ else .stuck
  | x => lenV x σ
noncomputable def F_len (sa : Addr) (sn : Nat) : List AV → Store → Res AV := fun as σ => match as with
  | [x] => lenS sa sn x σ
  | _ => .stuck
noncomputable def F_abs : List AV → Store → Res AV := fun as σ => match as with
  | [.int a] => .ok (.int (if a < 0 then -a else a)) σ
  | _ => .stuck
noncomputable def F_divmod : List AV → Store → Res AV := fun as σ => match as with
  | [.int a, .int b] => if divOk a b then .ok (.tup [.int (a.fdiv b), .int (a.fmod b)]) σ else .stuck
  | _ => .stuck
noncomputable def F_min : List AV → Store → Res AV := fun as σ => match as with
  | [.int a, .int b] => .ok (.int (if b < a then b else a)) σ
  | _ => .stuck
noncomputable def F_int : List AV → Store → Res AV := fun as σ => match as with
  | [.bool b] => .ok (.int (if b then 1 else 0)) σ
  | _ => .stuck
noncomputable def digs (a : Int) : List Nat := (toString a).toList.map Char.toNat
noncomputable def F_str : List AV → Store → Res AV := fun as σ => match as with
  | [.int a] => if a.natAbs.log2 < 1920 then .ok (.str (digs a)) σ else .stuck
  | _ => .stuck
noncomputable def F_ord : List AV → Store → Res AV := fun as σ => match as with
  | [.str [x]] => .ok (.int x) σ
  | _ => .stuck
noncomputable def F_chr : List AV → Store → Res AV := fun as σ => match as with
  | [.int i] => if 0 ≤ i ∧ i ≤ 127 then .ok (.str [i.toNat]) σ else .stuck
  | _ => .stuck
noncomputable def F_list : List AV → Store → Res AV := fun as σ => match as with
  | [.ref i] => (match σ[i]? with
    | some (.list l) => if l.length ≤ 100000 then .ok (.ref σ.length) (σ ++ [.list l]) else .stuck
    | _ => .stuck)
  | _ => .stuck
section
variable {c : Cx} {tn : Bool}
theorem one_inv {W : Wd} {as : List AV} {Vs : List Value} (ra : RVs c W as Vs) {x : AV} (h : as = [x]) : ∃ X, Vs = [X] ∧ RV c W x X := by
  subst h
  exact ra.one
theorem two_inv {W : Wd} {as : List AV} {Vs : List Value} (ra : RVs c W as Vs) {x y : AV} (h : as = [x, y]) : ∃ X Y, Vs = [X, Y] ∧ RV c W x X ∧ RV c W y Y := by
  subst h
  exact ra.two
inductive IsiC (as : List AV) (σ : Store) : Prop
  | ii (i : Int) (e : as = [.int i, .lit (.type "int")]) (r : F_isi as σ = .ok (.bool true) σ)
  | ib (i : Int) (e : as = [.int i, .lit (.type "bool")]) (r : F_isi as σ = .ok (.bool false) σ)
  | tt (l : List AV) (e : as = [.tup l, .lit (.type "tuple")]) (r : F_isi as σ = .ok (.bool true) σ)
theorem isi1 {i : Int} {σ : Store} : F_isi [.int i, .lit (.type "int")] σ = .ok (.bool true) σ := by
  unfold F_isi
  dsimp only [isiV]
  exact if_pos rfl
theorem isi2 {i : Int} {σ : Store} : F_isi [.int i, .lit (.type "bool")] σ = .ok (.bool false) σ := by
  unfold F_isi
  dsimp only [isiV]
  rw [if_neg (by decide)]
  exact if_pos rfl
theorem isi3 {l : List AV} {σ : Store} : F_isi [.tup l, .lit (.type "tuple")] σ = .ok (.bool true) σ := by
  unfold F_isi
  dsimp only [isiV]
  exact if_pos rfl
theorem isi_inv {tn : Bool} {as : List AV} {σ : Store} (h : (F_isi as σ).good tn) : IsiC as σ := by
  unfold F_isi at h
  split at h
  · rename_i x T
    cases x <;> first | exact h.elim | skip
    · dsimp only [isiV] at h
      by_cases q : T = "int"
      · subst q
        exact .ii _ rfl isi1
      · rw [if_neg q] at h
        by_cases q2 : T = "bool"
        · subst q2
          exact .ib _ rfl isi2
        · rw [if_neg q2] at h; exact h.elim
    · dsimp only [isiV] at h
      by_cases q : T = "tuple"
      · subst q
        exact .tt _ rfl isi3
      · rw [if_neg q] at h; exact h.elim
  · exact h.elim
theorem fn_isi : FnV c 0 tn (.builtin "isinstance") F_isi := by
  intro sc f g₀ ρ σ W s hc hf hs as Vs ra hg Q E hq he
  rcases isi_inv hg with ⟨i, e, r⟩ | ⟨i, e, r⟩ | ⟨l, e, r⟩
  · obtain ⟨X, Y, rfl, r1, r2⟩ := two_inv ra e
    obtain ⟨t, rfl⟩ := r1.int_inv
    cases r2.lit_inv
    exact IsiPair.int_int (hq _ _ _ W s r (.refl _) hs (.bool _))
  · obtain ⟨X, Y, rfl, r1, r2⟩ := two_inv ra e
    obtain ⟨t, rfl⟩ := r1.int_inv
    cases r2.lit_inv
    exact IsiPair.int_bool (hq _ _ _ W _ r (.refl _) (hs.toks _) (.bool _))
  · obtain ⟨X, Y, rfl, r1, r2⟩ := two_inv ra e
    obtain ⟨a, vs, n, rfl, h1, h2⟩ := r1.tup_inv
    cases r2.lit_inv
    obtain ⟨g, m, G⟩ := hs
    exact call_isinstance (isinstance_true (Tx := "tuple") F.isi_meta_tuple AutoSeq1.sub_tuple_tuple) ⟨⟨_, G.at hc h1, rfl⟩, hq _ _ _ W s r (.refl _) G.st (.bool _)⟩
theorem fn_abs : FnV c 0 tn (.builtin "abs") F_abs := by
  intro sc f g₀ ρ σ W s hc hf hs as Vs ra hg Q E hq he
  unfold F_abs at hg hq
  split at hg <;> first | exact hg.elim | skip
  obtain ⟨V, rfl, r1⟩ := ra.one
  obtain ⟨t, rfl⟩ := r1.int_inv
  exact call_abs_int fun u tk => hq _ _ _ W _ rfl (.refl _) (hs.toks _) (.int _ _)
theorem fn_divmod : FnV c 0 tn (.builtin "divmod") F_divmod := by
  intro sc f g₀ ρ σ W s hc hf hs as Vs ra hg Q E hq he
  unfold F_divmod at hg hq
  split at hg <;> first | exact hg.elim | skip
  split at hg
  · rename_i a b h
    obtain ⟨V, U, rfl, r1, r2⟩ := ra.two
    obtain ⟨t, rfl⟩ := r1.int_inv
    obtain ⟨u, rfl⟩ := r2.int_inv
    obtain ⟨g, m, G⟩ := hs
    have h' := divOk_iff h
    refine divmod_N G.F G.N h'.1 (fun h' F' N' => ?_) (.inl h'.2)
    exact hq _ σ _ ⟨W.φ, _ :: W.news⟩ _ (if_pos h) (.cons _ _) (G.grow F' N' _) (.tup (n := 0) (.inl ⟨.head _, G.fresh⟩) (.cons (.int _ _) (.cons (.int _ _) .nil)))
  · exact hg.elim
theorem fn_min : FnV c 0 tn (.builtin "min") F_min := by
  intro sc f g₀ ρ σ W s hc hf hs as Vs ra hg Q E hq he
  unfold F_min at hg hq
  split at hg <;> first | exact hg.elim | skip
  obtain ⟨V, U, rfl, r1, r2⟩ := ra.two
  obtain ⟨t, rfl⟩ := r1.int_inv
  obtain ⟨u, rfl⟩ := r2.int_inv
  obtain ⟨g, m, G⟩ := hs
  exact min_two_N (show (f.A sc).handled = none from hf.handled) G.F G.N fun h' tk F' N' => hq _ σ _ W _ rfl (.refl _) (G.heap F' N' _) (.int _ _)
theorem fn_int : FnV c 0 tn (.type "int") F_int := by
  intro sc f g₀ ρ σ W s hc hf hs as Vs ra hg Q E hq he
  unfold F_int at hg hq
  split at hg <;> first | exact hg.elim | skip
  obtain ⟨V, rfl, r1⟩ := ra.one
  cases r1.bool_inv
  exact call_int_bool (hq _ _ _ W _ rfl (.refl _) (hs.toks _) (.int _ _))
theorem fn_str : FnV c 0 tn (.type "str") F_str := by
  intro sc f g₀ ρ σ W s hc hf hs as Vs ra hg Q E hq he
  unfold F_str at hg hq
  split at hg <;> first | exact hg.elim | skip
  split at hg
  · rename_i a h
    obtain ⟨V, rfl, r1⟩ := ra.one
    obtain ⟨t, rfl⟩ := r1.int_inv
    refine PySem.P.str_of_int h ?_
    refine hq _ σ _ W _ (if_pos h) (.refl _) (hs.toks _) ?_
    rw [show (Str.ofString (toString a)) = sOf (digs a) from Str.ofString_eq_toList _]
    exact .str _ _
  · exact hg.elim
theorem fn_ord : FnV c 0 tn (.builtin "ord") F_ord := by
  intro sc f g₀ ρ σ W s hc hf hs as Vs ra hg Q E hq he
  unfold F_ord at hg hq
  split at hg <;> first | exact hg.elim | skip
  obtain ⟨V, rfl, r1⟩ := ra.one
  obtain ⟨t, rfl⟩ := r1.str_inv
  exact ord_of_one (by rfl) (hq _ σ _ W _ rfl (.refl _) (hs.toks _) (.int _ _))
theorem fn_chr : FnV c 0 tn (.builtin "chr") F_chr := by
  intro sc f g₀ ρ σ W s hc hf hs as Vs ra hg Q E hq he
  unfold F_chr at hg hq
  split at hg <;> first | exact hg.elim | skip
  split at hg
  · rename_i i h
    obtain ⟨V, rfl, r1⟩ := ra.one
    obtain ⟨t, rfl⟩ := r1.int_inv
    exact chr_of_range h.1 (by lia) (hq _ σ _ W _ (if_pos h) (.refl _) (hs.toks _) (.str [i.toNat] _))
  · exact hg.elim
theorem fn_list : FnV c 0 tn (.type "list") F_list := by
  intro sc f g₀ ρ σ W s hc hf hs as Vs ra hg Q E hq he
  unfold F_list at hg hq
  split at hg <;> first | exact hg.elim | skip
  split at hg <;> first | exact hg.elim | skip
  split at hg
  · rename_i i _ l hl hlen
    obtain ⟨V, rfl, r1⟩ := ra.one
    obtain ⟨a, rfl, hia⟩ := r1.ref_inv
    obtain ⟨g, m, G⟩ := hs
    obtain ⟨vs, k, _, rl, hget⟩ := G.list hc hl hia
    refine list_copyK G.F G.N ⟨_, hget, rfl, _, rfl⟩ (fun D k' h' F' N' hlt => ?_) (by rw [List.size_toArray, ← rl.length]; exact le_big hlen)
    exact hq _ _ _ ⟨W.φ ++ [D], _⟩ _ (by simp only [hl, if_pos hlen]) (.alloc hlt) (G.alloc F' N' hlt (.list rl) _) (.ref (phi_last G.S.len _))
  · exact hg.elim
inductive LenC (σ : Store) : AV → Nat → Prop
  | str (l : List Nat) (h : l.length ≤ 100000) : LenC σ (.str l) l.length
  | tup (l : List AV) (h : l.length ≤ 100000) : LenC σ (.tup l) l.length
  | ref (i : Nat) (l : List AV) (h : σ[i]? = some (.list l)) (h2 : l.length ≤ 100000) : LenC σ (.ref i) l.length
theorem lenV_inv {tn : Bool} {x : AV} {σ : Store} (h : (lenV x σ).good tn) : ∃ k, LenC σ x k ∧ lenV x σ = .ok (.int k) σ := by
  cases x <;> first | exact h.elim | skip
  · rename_i l
    by_cases q : l.length ≤ 100000
    · exact ⟨_, .str l q, if_pos q⟩
    · simp only [lenV, if_neg q] at h; exact h.elim
  · rename_i l
    by_cases q : l.length ≤ 100000
    · exact ⟨_, .tup l q, if_pos q⟩
    · simp only [lenV, if_neg q] at h; exact h.elim
  · rename_i i
    cases ho : σ[i]? with
    | none => simp only [lenV, lenR, ho] at h; exact h.elim
    | some o =>
      cases o <;> first | (simp only [lenV, lenR, ho] at h; exact h.elim) | skip
      rename_i l
      by_cases q : l.length ≤ 100000
      · exact ⟨_, .ref i l ho q, by simp only [lenV, lenR, ho]; exact if_pos q⟩
      · simp only [lenV, lenR, ho, if_neg q] at h; exact h.elim
theorem len_go {sc : Scope} {f : Fm} {g₀ : Heap} {names : List (Str × NameKind)} {ρ : Loc} {σ : Store} {W : Wd} {s : Shared} {x : AV} {X : Value} {k : Nat} (hc : c.Ok) (hs : St c f tn g₀ names ρ σ W s) (r1 : RV c W x X) (h : LenC σ x k) {Q : Value → Shared → Prop} {E : Value → Shared → Prop}
    (hq : ∀ V s', St c f tn g₀ names ρ σ W s' → RV c W (.int k) V → Q V s') : wpAny c.M (f.A sc) (call (.builtin "len") [X]) Q E s := by
  cases h with
  | str l h =>
    obtain ⟨t, rfl⟩ := r1.str_inv
    exact len_str (by rw [sOf_len]; lia) (by rw [sOf_len]; exact hq _ _ (hs.toks _) (.int _ _))
  | tup l h =>
    obtain ⟨a, vs, n, rfl, h1, h2⟩ := r1.tup_inv
    obtain ⟨g, m, G⟩ := hs
    refine len_tuple ⟨_, G.at hc h1, rfl, _, rfl⟩ (by rw [List.size_toArray, ← h2.length]; lia) ?_
    rw [List.size_toArray, ← h2.length]
    exact hq _ _ (G.toks _) (.int _ _)
  | ref i l h h2 =>
    obtain ⟨a, rfl, ha⟩ := r1.ref_inv
    obtain ⟨g, m, G⟩ := hs
    obtain ⟨vs, k, _, rl, hget⟩ := G.list hc h ha
    refine call_len_list ⟨_, hget, rfl, _, rfl⟩ (by rw [List.size_toArray, ← rl.length]; lia) ?_
    rw [List.size_toArray, ← rl.length]
    exact hq _ _ (G.toks _) (.int _ _)
theorem lenA_inv {tn : Bool} {as : List AV} {σ : Store} (h : (F_lenA as σ).good tn) : ∃ x, as = [x] ∧ (lenV x σ).good tn ∧ F_lenA as σ = lenV x σ := by
  unfold F_lenA at h
  split at h
  · exact ⟨_, rfl, h, rfl⟩
  · exact h.elim
theorem fn_lenA : FnV c 0 tn (.builtin "len") F_lenA := by
  intro sc f g₀ ρ σ W s hc hf hs as Vs ra hg Q E hq he
  obtain ⟨x, hx, h, hr⟩ := lenA_inv hg
  obtain ⟨X, rfl, r1⟩ := one_inv ra hx
  obtain ⟨k, h1, h2⟩ := lenV_inv h
  exact len_go hc hs r1 h1 fun V s' G r => hq _ _ V W s' (hr.trans h2) (.refl _) G r
theorem lenS_else {sa : Addr} {sn : Nat} {x : AV} {σ : Store} (hn : ∀ a, x = .lit (.ref a) → False) : lenS sa sn x σ = lenV x σ := by
  unfold lenS
  split
  · exact (hn _ rfl).elim
  · rfl
theorem len_inv {sa : Addr} {sn : Nat} {tn : Bool} {as : List AV} {σ : Store} (h : (F_len sa sn as σ).good tn) : (∃ x, as = [x] ∧ (lenV x σ).good tn ∧ F_len sa sn as σ = lenV x σ) ∨ (as = [.lit (.ref sa)] ∧ sn ≤ 100000 ∧ F_len sa sn as σ = .ok (.int sn) σ) := by
  unfold F_len at h
  split at h
  · rename_i x
    unfold lenS at h
    split at h
    · rename_i a
      by_cases q : a = sa ∧ sn ≤ 100000
      · obtain ⟨rfl, q⟩ := q
        exact .inr ⟨rfl, q, if_pos ⟨rfl, q⟩⟩
      · rw [if_neg q] at h; exact h.elim
    · rename_i hn
      exact .inl ⟨x, rfl, h, lenS_else hn⟩
  · exact h.elim
theorem fn_len {sa : Addr} {sn : Nat} (hS : ∃ (o : Obj) (vs : Array Value) (k : Nat), c.K.lookup sa = some o ∧ o.cls = .type "list" ∧ o.data = .seq vs k ∧ vs.size = sn) : FnV c 0 tn (.builtin "len") (F_len sa sn) := by
  intro sc f g₀ ρ σ W s hc hf hs as Vs ra hg Q E hq he
  rcases len_inv hg with ⟨x, hx, h, hr⟩ | ⟨hx, hsn, hr⟩
  · obtain ⟨X, rfl, r1⟩ := one_inv ra hx
    obtain ⟨k, h1, h2⟩ := lenV_inv h
    exact len_go hc hs r1 h1 fun V s' G r => hq _ _ V W s' (hr.trans h2) (.refl _) G r
  · obtain ⟨X, rfl, r1⟩ := one_inv ra hx
    cases r1.lit_inv
    obtain ⟨o, vs, k, h1, hcl, hda, h2⟩ := hS
    refine call_len_list (items := vs) ⟨_, hs.In hc _ _ h1, hcl, _, hda⟩ (by lia) ?_
    rw [h2]
    exact hq _ _ _ W _ hr (.refl _) (hs.toks _) (.int _ _)
end

/- S19 -/

/-! ## an empty dict -/
section
variable {c : Cx} {n : Nat} {tn : Bool} {sc : Scope}
theorem StoreR.alloc' {W : Wd} {σ : Store} (S : StoreR c W σ) {a : Addr} {ob : Obj} {o : AO} (hl : ∀ p ∈ W.news, p.1 < a) (r : RO c ⟨W.φ ++ [a], (a, ob) :: W.news⟩ o ob) : StoreR c ⟨W.φ ++ [a], (a, ob) :: W.news⟩ (σ ++ [o]) := by
  have le := Wd.Le.alloc (q := (a, ob)) hl
  refine ⟨by simp [S.len], ?_, fun i o' e => ?_⟩
  · rw [List.nodup_append]
    refine ⟨S.nodup, by simp, fun x hx y hy => ?_⟩
    rw [List.mem_singleton] at hy
    subst hy
    obtain ⟨ob', h⟩ := S.mem hx
    exact Nat.ne_of_lt (hl _ h)
  · by_cases hi : i < σ.length
    · rw [List.getElem?_append_left hi] at e
      obtain ⟨a', ob', h1, h2, h3⟩ := S.obj i o' e
      exact ⟨a', ob', le.get h1, .tail _ h2, h3.mono le⟩
    · rw [List.getElem?_append_right (by lia)] at e
      have : i - σ.length = 0 := by
        have := (List.getElem?_eq_some_iff.mp e).1
        simp at this; lia
      rw [this] at e
      cases e
      refine ⟨a, ob, ?_, .head _, r⟩
      show (W.φ ++ [a])[i]? = some a
      rw [List.getElem?_append_right (by rw [S.len]; lia), S.len, this]
      rfl
noncomputable def mDict0 : ME := fun ρ σ => .ok (.ref σ.length) (σ ++ [.dict0 σ.length])
theorem sim_dict0 {pos : Pos} : SimE c n tn sc (.Dict [] [] pos) mDict0 := by
  intro f g₀ ρ σ W s hc hf hs hg Q E hq he
  obtain ⟨g, m, G⟩ := hs
  refine wpAny_Dict_empty ?_
  have hlt : ∀ p ∈ W.news, p.1 < s.heap.objs.size := fun p hp => Heap.lt_size (G.N p hp).1
  refine hq _ _ _ ⟨W.φ ++ [s.heap.objs.size], _ :: W.news⟩ _ rfl (.alloc hlt) ⟨g, m, G.B, G.F.push _, News.push G.F G.N _ rfl, G.D, G.T, G.T0, G.R.mono (.alloc hlt), G.S.alloc' hlt (.dict0 (phi_last G.S.len _) (G.F.notModules (modules_low (G.Tp hc).nolimit))), G.e1, G.e2, G.e3⟩ (.ref (phi_last G.S.len _))

/-- for over an empty dict: nothing -/
noncomputable def dict0Item (i : Nat) : Store → Nat → Option (Option AV) := fun σ k => match σ[i]? with
  | some (.dict0 j) => if i = j ∧ k = 0 then some none else none
  | _ => none
theorem dict0_at {W : Wd} {σ : Store} {i : Nat} {f : Fm} {g₀ g : Heap} {names : List (Str × NameKind)} {ρ : Loc} {s : Shared} {m : Str → Option Value} (G : StG c f tn g₀ names ρ σ W s g m) (h : σ[i]? = some (.dict0 i)) {a : Nat} (ha : W.φ[i]? = some a) :
    (a == sysModules) = false ∧ s.heap.DictAt (intKind c.prog c.w) a [] 0 := by
  obtain ⟨a', ob, h1, h2, h3⟩ := G.S.obj i _ h
  rw [ha] at h1
  cases h1
  obtain ⟨a, hi, hne, rfl⟩ := h3.dict0_inv
  cases ha.symm.trans hi
  exact ⟨hne, _, #[], (G.N _ h2).1, ⟨rfl, rfl, rfl⟩, rfl, (fun e he => absurd he (by simp)), .nil, List.nodup_nil⟩
theorem iterK_dict0 {φ₀ : List Nat} {i a : Nat} (hi : φ₀[i]? = some a) (it : Addr) : IterK c φ₀ it (fun k o => o.cls = .type "dict_keyiterator" ∧ o.data = .fields #[.ref a, .int k 0, .int 0 0, .int 0 0]) (dict0Item i) where
  nt := fun k o h => by rw [h.1]; decide
  next := by
    intro n sc f tn g₀ names ρ σ W s k o v hc hf hs hm hφ hP hit Q E hq
    unfold dict0Item at hit
    split at hit
    · split at hit <;> cases hit
    · cases hit
  stop := by
    intro n sc f tn g₀ names ρ σ W s k o hc hf hs hm hφ hP hit Q E hq
    obtain ⟨g, m, G⟩ := hs
    obtain ⟨l', hφ⟩ := hφ
    have hia : W.φ[i]? = some a := by
      rw [hφ, List.getElem?_append_left (List.getElem?_eq_some_iff.mp hi).1]; exact hi
    unfold dict0Item at hit
    split at hit
    · rename_i j hj
      split at hit
      · rename_i hk
        obtain ⟨rfl, rfl⟩ := hk
        obtain ⟨d1, d2⟩ := dict0_at G hj hia
        exact wpAny_pyNext_dict_end (i := 0) (kvs := []) hf.handled ⟨o, (G.N _ hm).1, hP⟩ d2 rfl hq
      · cases hit
    · cases hit
  quiet := fun k o h => by rw [h.1]; rfl
noncomputable def mForD0 (mi : ME) : MS := fun ρ σ => (mi ρ σ).bind fun x σ => match x with
  | .ref i => (match σ[i]? with
    | some (.dict0 j) => if i = j then mForF (dict0Item i) (fun _ _ => none) mStuckS 1 0 ρ σ else .stuck
    | _ => .stuck)
  | _ => .stuck
theorem good_dict0 {α : Type} {tn : Bool} {x : AV} {σ : Store} {F : Nat → Store → Res α} (h : (match x with | .ref i => (match σ[i]? with | some (.dict0 j) => if i = j then F i σ else .stuck | _ => .stuck) | _ => .stuck : Res α).good tn) :
    ∃ i, x = .ref i ∧ σ[i]? = some (.dict0 i) ∧ (match (generalizing := false) x with | .ref i => (match σ[i]? with | some (.dict0 j) => if i = j then F i σ else .stuck | _ => .stuck) | _ => .stuck : Res α) = F i σ := by
  obtain ⟨i, rfl⟩ := good_ref (σ := σ) (F := fun i σ => match σ[i]? with | some (.dict0 j) => if i = j then F i σ else .stuck | _ => .stuck) h
  cases q : σ[i]? with
  | none => simp only [q] at h; exact h.elim
  | some o =>
    cases o <;> simp only [q] at h <;> first | exact h.elim | skip
    cases good_if h
    exact ⟨_, rfl, q, by simp only [q, if_true]⟩
theorem sim_forD0 {target iter : Expr} {body : List Stmt} {pos : Pos} {mi : ME} (hi : SimE c n tn sc iter mi) (hfo : ∀ (f : Fm) (x : Value), foldedSetIterable iter (f.env sc) x = pure x) :
    Sim1 c n tn sc (.For target iter body [] pos) (mForD0 mi) := by
  intro f g₀ ρ σ W s hc hf hs hg Q E hE hq he
  refine wpAny_For (hi.bindS hc hf hs hg hq he fun x σ₁ X W₁ s₁ e1 l1 G1 r1 hg1 hq1 he1 => ?_) (hfo f)
  obtain ⟨i, hxi, hj, e⟩ := good_dict0 (F := fun i σ => mForF (dict0Item i) (fun _ _ => none) mStuckS 1 0 ρ σ) hg1
  obtain ⟨a, rfl, hia⟩ := r1.ref_of hxi
  have hg2 := Eq.mp (congrArg (Res.good tn) e) hg1
  obtain ⟨g, m, G⟩ := G1
  obtain ⟨d1, d2⟩ := dict0_at G hj hia
  refine wpAny_pyIter_dict d1 d2 ?_
  have hlt : ∀ p ∈ W₁.news, p.1 < s₁.heap.objs.size := fun p hp => Heap.lt_size (G.N p hp).1
  exact for_loop (W := W₁) (W₁ := ⟨W₁.φ, _ :: W₁.news⟩) (iterK_dict0 hia _) (fun _ _ _ _ _ _ _ _ _ _ _ _ _ e => by cases e) (sim_stuckS) hc hf _ (.head _) G.fresh ⟨rfl, rfl⟩ (.cons _ _) (fun p hp => Nat.ne_of_lt (hlt p hp)) (G.grow (G.F.push _) (News.push G.F G.N _ rfl) _) hg2 hE (fun fl ρ' σ' F W' s' q => hq1 fl ρ' σ' F W' s' (e.trans q)) fun C σ' z W' s' q => he1 C σ' z W' s' (e.trans q)

/-! ## two lists joined -/
noncomputable def mListAdd (a b : ME) : ME := fun ρ σ => (a ρ σ).bind fun x σ => (b ρ σ).bind fun y σ => match x, y with
  | .ref i, .ref j => (match σ[i]?, σ[j]? with
    | some (.list l), some (.list l') => if l.length ≤ 1000 ∧ l'.length ≤ 1000 then .ok (.ref σ.length) (σ ++ [.list (l ++ l')]) else .stuck
    | _, _ => .stuck)
  | _, _ => .stuck
theorem sim_listAdd {l r : Expr} {pos : Pos} {a b : ME} (ha : SimE c n tn sc l a) (hb : SimE c n tn sc r b) : SimE c n tn sc (.BinOp l .Add r pos) (mListAdd a b) := by
  intro f g₀ ρ σ W s hc hf hs hg Q E hq he
  refine wpAny_BinOp (ha.bind (rel' := RV c) hc hf hs hg hq he fun x σ₁ X W₁ s₁ e1 l1 G1 r1 hg1 hq1 he1 => ?_)
  refine hb.bind (rel' := RV c) hc hf G1 hg1 hq1 he1 fun y σ₂ Y W₂ s₂ e2 l2 G2 r2 hg2 hq2 he2 => ?_
  have r1 := r1.mono l2
  split at hg2
  · split at hg2
    · rename_i l l' h1 h2
      split at hg2
      · rename_i hlen
        obtain ⟨_, rfl, hi⟩ := r1.ref_inv
        obtain ⟨_, rfl, hj⟩ := r2.ref_inv
        obtain ⟨g, m, G⟩ := G2
        obtain ⟨vs, k, _, rl, hget⟩ := G.list hc h1 hi
        obtain ⟨ws, k', _, rl', hget'⟩ := G.list hc h2 hj
        have hlt : ∀ p ∈ W₂.news, p.1 < s₂.heap.objs.size := fun p hp => Heap.lt_size (G.N p hp).1
        refine add_lists G.F G.N ⟨_, hget, rfl, _, rfl⟩ ⟨_, hget', rfl, _, rfl⟩ (fun h' F' N' => ?_) (by rw [← rl.length, ← rl'.length]; have := sizeLine_big; lia)
        exact hq2 _ _ _ ⟨W₂.φ ++ [s₂.heap.objs.size], _⟩ _ (by simp only [h1, h2]; exact if_pos hlen) (.alloc hlt) (G.alloc F' N' hlt (.list (n := 0) (rl.append rl')) _) (.ref (phi_last G.S.len _))
      · exact hg2.elim
    · exact hg2.elim
  · exact hg2.elim

/-! ## ''.join -/
noncomputable def strsA : List AV → Option (List (List Nat))
  | [] => some []
  | .str x :: l => (strsA l).map fun r => x :: r
  | _ => none
noncomputable def mJoin (m : ME) : ME := fun ρ σ => (m ρ σ).bind fun x σ => match x with
  | .ref i => (match σ[i]? with
    | some (.list l) => (match strsA l with
      | some xs => if (xs.map (·.length)).sum + xs.length ≤ 100000 then .ok (.str xs.flatten) σ else .stuck
      | none => .stuck)
    | _ => .stuck)
  | _ => .stuck
theorem strsA_inv {v : AV} {l : List AV} {xs : List (List Nat)} (e : strsA (v :: l) = some xs) : ∃ x r, v = .str x ∧ strsA l = some r ∧ xs = x :: r := by
  cases v <;> first | (cases e; done) | skip
  obtain ⟨r, h1, q⟩ := Option.map_eq_some_iff.mp e
  exact ⟨_, r, rfl, h1, q.symm⟩
theorem strsA_are {W : Wd} : ∀ {l : List AV} {vs : List Value} {xs : List (List Nat)}, RVs c W l vs → strsA l = some xs → StrsAre vs (xs.map sOf)
  | _, _, _, .nil, e => by cases e; exact .nil
  | _, _, _, .cons hx hs, e => by
    obtain ⟨x, r, rfl, h1, rfl⟩ := strsA_inv e
    obtain ⟨t, rfl⟩ := hx.str_inv
    exact .cons _ _ (strsA_are hs h1)
theorem join_flat : ∀ xs : List (List Nat), Txt.join (sOf []) (xs.map sOf) = sOf xs.flatten := by
  intro xs
  show PySem.Builtin.Str.glued _ _ = _
  rw [PySem.StrLaws.glued_eq_join]
  induction xs with
  | nil => rfl
  | cons x r ih =>
    cases r with
    | nil => simp [Str.join]
    | cons y r =>
      rw [List.map_cons, List.map_cons]
      show sOf x ++ sOf [] ++ Str.join (sOf []) (sOf y :: r.map sOf) = _
      rw [← List.map_cons, ih, sOf_app, sOf_app]
      simp
theorem sim_join {e : Expr} {k : Nat} {p apos pos : Pos} {m : ME} (he : MethEq sc (.Constant (.str (sOf [])) k p) "join" apos pos [e]) (hn : notStar e = true) (h : SimE c n tn sc e m) : SimE c n tn sc (.Call (.Attribute (.Constant (.str (sOf [])) k p) "join" apos) [e] [] pos) (mJoin m) := by
  intro f g₀ ρ σ W s hc hf hs hg Q E hq hx
  obtain ⟨pl, hpl⟩ := he f
  refine MethodCall_ (pl := pl) (Constant_str ?_) hpl
  refine getMethod_builtin (typeIs_str _ _ _) F.plainAttrs_str F.slot_str_join F.type_str_join (fun _ e => nomatch e) ?_
  refine callWith_any (by simp [hn]) (keep_blt _) ?_
  rw [starEach_cons hn]
  refine spliced_cons (h.bind (rel' := RV c) hc hf (hs.toks _) hg hq hx fun v σ₂ Y W₂ s₂ e2 l2 G2 r2 hg2 hq2 he2 => ?_)
  refine spliced_nil ⟨G2.In hc, ?_⟩
  split at hg2
  · split at hg2 <;> first | exact hg2.elim | skip
    rename_i i _ l hl
    split at hg2 <;> first | exact hg2.elim | skip
    rename_i xs hxs
    split at hg2
    · rename_i hlen
      obtain ⟨a, rfl, hia⟩ := r2.ref_inv
      obtain ⟨g, m, G⟩ := G2
      obtain ⟨vs, k, _, rl, hget⟩ := G.list hc hl hia
      refine join_listW ⟨_, hget, rfl, _, rfl⟩ (strsA_are rl hxs) (by rw [sOf_len]; decide) ?_ fun t' k' => ?_
      · simp only [List.map_map, List.length_map]
        rw [show ((fun x : Str => x.length) ∘ sOf) = (fun l : List Nat => l.length) from funext fun l => sOf_len l]
        lia
      · rw [join_flat]
        exact hq2 _ _ _ _ _ (by simp only [hl, hxs, if_pos hlen]) (.refl _) (G.toks _) (.str _ _)
    · exact hg2.elim
  · exact hg2.elim

/-! ## the script -/
noncomputable def mScript (is : List Int) (k : Nat) : ME := fun ρ σ => .ok (.ref σ.length) (σ ++ [.list ((is.take k).map .int)])
noncomputable def scriptAV (is : List Int) : List AV := is.map .int
theorem sim_script {value : Expr} {p pos kp : Pos} {kk : Nat} {k : Nat} {sa : Addr} {is : List Int} {a : ME} (ha : SimE c n tn sc value a) (hs₀ : ∃ (o : Obj) (vs : List Value) (j : Nat), c.K.lookup sa = some o ∧ o.cls = .type "list" ∧ o.data = .seq vs.toArray j ∧ (∀ W, RVs c W (scriptAV is) vs) ∧ vs.length ≤ 1000)
    (hp : plainSl (.Slice none (some (.Constant (.int k) kk kp)) none p)) (hl : ∀ (l : Addr) (r : Value), letTemporaryGo value (.ref l) r = pure ()) :
    SimE c n tn sc (.Subscript value (.Slice none (some (.Constant (.int k) kk kp)) none p) pos) (fun ρ σ => (a ρ σ).bind fun x σ => match x with | .lit (.ref a) => if a = sa then mScript is k ρ σ else .stuck | _ => .stuck) := by
  intro f g₀ ρ σ W s hc hf hs hg Q E hq hx
  refine Subscript_ (ha.bind (rel' := RV c) hc hf hs hg hq hx fun x σ₁ X W₁ s₁ e1 l1 G1 r1 hg1 hq1 he1 => ?_)
  split at hg1
  · split at hg1
    · rename_i b hb
      subst hb
      cases r1.lit_inv
      obtain ⟨o, vs, j, hK, hcl, hda, hrv, hlen⟩ := hs₀
      refine wpAny_Slice (evalPart_none_step (evalPart_some_step (wpAny_Constant_int (evalPart_none_step ?_))))
      have G2 := G1.toks (s₁.toks + 1)
      obtain ⟨g, m, G⟩ := G2
      refine kms_slice_lit (vl := .none) (vu := .int k _) (lo := none) (hi := some k) G.F G.N ⟨_, G1.In hc _ _ hK, hcl, _, hda⟩ .none (.int _ _) rfl (fun D h' F' N' hlt => ?_) (hp _ _) (hl _) (by rw [List.size_toArray]; have := sizeLine_big; lia)
      have e : kms_pick vs.toArray.toList none (some (k : Int)) = vs.take k := by
        unfold kms_pick kms_lo kms_hi
        simp only [show ¬ ((k : Int) < 0) from by lia, if_false, List.drop_zero, Nat.sub_zero]
        rw [List.take_eq_take_min]
        simp
      rw [e] at N'
      refine hq1 _ _ _ ⟨W₁.φ ++ [D], _⟩ _ (if_pos rfl) (.alloc hlt) (G.alloc F' N' hlt (.list (l := (is.take k).map .int) ?_) _) (.ref (phi_last G.S.len _))
      have := (hrv W₁).take k
      rwa [scriptAV, ← List.map_take] at this
    · exact hg1.elim
  · exact hg1.elim
end

/- S20 -/

/-! ## an object made -/
noncomputable def mCls (C : Nat) (F : List AV → Store → Res AV) : List AV → Store → Res AV := fun as σ => (F (.ref (σ.length + 1) :: as) (σ ++ [.ns []] ++ [.inst C σ.length])).bind fun v σ' => match v with
  | .none => .ok (.ref (σ.length + 1)) σ'
  | _ => .stuck
section
variable {c : Cx} {n : Nat}
theorem under_deeper (A : Around) (env : Env) (C : Addr) (vals : List Value) : (A.under (.builtin "type.__call__" ⟨.ref C :: vals, []⟩)).deeper env = (A.deeper env).under (.builtin "type.__call__" ⟨.ref C :: vals, []⟩) := rfl
theorem St.under {tn : Bool} {f : Fm} {g₀ : Heap} {names : List (Str × NameKind)} {ρ : Loc} {σ : Store} {W : Wd} {s : Shared} (hs : St c f tn g₀ names ρ σ W s) (C : Addr) (vals : List Value) : St c { f with A₀ := f.A₀.under (.builtin "type.__call__" ⟨.ref C :: vals, []⟩) } tn g₀ names ρ σ W s := by
  obtain ⟨g, m, G⟩ := hs
  exact ⟨g, m, ⟨G.B.stack, G.B.stays, G.B.frames⟩, G.F, G.N, G.D, G.T, G.T0, G.R, G.S, G.e1, G.e2, G.e3⟩
theorem St.over {tn : Bool} {f : Fm} {g₀ : Heap} {names : List (Str × NameKind)} {ρ : Loc} {σ : Store} {W : Wd} {s : Shared} {C : Addr} {vals : List Value} (hs : St c { f with A₀ := f.A₀.under (.builtin "type.__call__" ⟨.ref C :: vals, []⟩) } tn g₀ names ρ σ W s) : St c f tn g₀ names ρ σ W s := by
  obtain ⟨g, m, G⟩ := hs
  exact ⟨g, m, ⟨G.B.stack, G.B.stays, G.B.frames⟩, G.F, G.N, G.D, G.T, G.T0, G.R, G.S, G.e1, G.e2, G.e3⟩
theorem FOk.under {sc : Scope} {f : Fm} (h : FOk (n + 1) sc f) (C : Addr) (vals : List Value) : FOk n sc { f with A₀ := f.A₀.under (.builtin "type.__call__" ⟨.ref C :: vals, []⟩) } := by
  refine ⟨h.kind, h.nodup, ?_, ?_, h.handled, h.guards, h.cells⟩
  · have := h.depth
    show (f.A sc).depth + 1 + n < recursionLimit
    lia
  · have := h.units
    show (f.A sc).units + 1 + 8 * n + 80 < cLine
    lia
theorem fn_cls {C fI k : Nat} {qual : Str} {cdv : Value} {ps : List Str} {r : Nat} {ext : List AV} {extV : List Value} {body : List Stmt} {sc' : Scope} {m : MS} (hm : makesIn c.K C = true) (hi : findIn c.K (.ref C) "__init__" = some (some (.ref fI))) (hfn : isFn c.K (.ref fI) = true)
    (I : FnIs c fI k qual cdv ps r ext extV body sc') (hb : SimB c n true sc' body m) : FnV c (n + 2) true (.ref C) (mCls C (mFn k ext r m)) := by
  intro sc f g₀ ρ σ W s hc hf hs as Vs ra hg Q E hq he
  unfold mCls at hg hq
  obtain ⟨g, m₀, G⟩ := hs
  refine call_cls G.F (G.X hc) G.N hm hi hfn fun x dx h' F' N' hlt hdx => ?_
  have N₁ : News g f.L h' ((dx, dictOf [] 0) :: W.news) := fun p hp => N' p (.tail _ hp)
  have hlt2 : ∀ p ∈ ((dx, dictOf [] 0) :: W.news), p.1 < x := by
    intro p hp
    rcases List.mem_cons.mp hp with rfl | hp
    · exact hdx
    · exact Nat.lt_trans (hlt p hp) hdx
  have le₁ : W.Le ⟨W.φ ++ [dx], (dx, dictOf [] 0) :: W.news⟩ := .alloc hlt
  have le₂ : Wd.Le ⟨W.φ ++ [dx], (dx, dictOf [] 0) :: W.news⟩ ⟨W.φ ++ [dx] ++ [x], (x, instObj C dx) :: (dx, dictOf [] 0) :: W.news⟩ := .alloc hlt2
  have S₁ : StoreR c ⟨W.φ ++ [dx], (dx, dictOf [] 0) :: W.news⟩ (σ ++ [.ns []]) := G.S.alloc hlt (.ns .nil)
  have S₂ : StoreR c ⟨W.φ ++ [dx] ++ [x], (x, instObj C dx) :: (dx, dictOf [] 0) :: W.news⟩ (σ ++ [.ns []] ++ [.inst C σ.length]) := S₁.alloc hlt2 (.inst (phi_last G.S.len dx))
  have G₂ : St c f true g₀ sc.names ρ (σ ++ [.ns []] ++ [.inst C σ.length]) ⟨W.φ ++ [dx] ++ [x], (x, instObj C dx) :: (dx, dictOf [] 0) :: W.news⟩ { s with heap := h' } :=
    ⟨g, m₀, G.B, F', N', G.D, G.T, G.T0, G.R.mono (le₁.trans le₂), S₂, G.e1, G.e2, G.e3⟩
  have hx : (W.φ ++ [dx] ++ [x])[σ.length + 1]? = some x := by
    have := phi_last S₁.len x
    rwa [List.length_append] at this
  have hgF := Res.good_bind hg
  refine I.codeAny hb sc { f with A₀ := f.A₀.under (.builtin "type.__call__" ⟨.ref C :: Vs, []⟩) } g₀ ρ _ _ _ hc (hf.under C Vs) (G₂.under C Vs) (.ref (σ.length + 1) :: as) (.ref x :: Vs) (.cons (.ref hx) ((ra.mono le₁).mono le₂)) hgF _ ?_ ?_
  · intro v σ' V' W' s' e l G' rv
    rw [e] at hg hq
    dsimp only [Res.bind] at hg hq
    cases good_none (σ := σ') (F := fun σ' => Res.ok (AV.ref (σ.length + 1)) σ') hg
    cases rv.none_inv
    exact ⟨rfl, hq _ _ _ W' s' rfl ((le₁.trans le₂).trans l) G'.over (.ref (l.get hx))⟩
  · intro C' σ' e W' s' q _ _ _
    rw [q] at hgF
    cases hgF
end

/- G1 -/

noncomputable def stAt (l : List Stmt) (i : Nat) : Stmt := l.getD i (.Pass ⟨0, 0, 0, 0⟩)
noncomputable def bodyOf : Stmt → List Stmt
  | .FunctionDef (body := b) .. => b
  | .ClassDef (body := b) .. => b
  | _ => []
noncomputable def scOf : Stmt → Scope
  | .FunctionDef (scope := s) .. => s
  | _ => { kind := .function, names := [], isGenerator := false, isCoroutine := false, more := [] }
noncomputable def pwB : List Stmt := PySem.Challenge.pw_sq0049_01.main.body
noncomputable def V_PLUS : AV := .tup [.int 12, .int 43]
noncomputable def V_MINUS : AV := .tup [.int 12, .int 45]
noncomputable def V_POINT : AV := .tup [.int 12, .int 46]
noncomputable def V_COMMA : AV := .tup [.int 12, .int 44]
noncomputable def V_BACK_QUOTE : AV := .tup [.int 12, .int 96]
noncomputable def V_OCTAL_MARK : AV := .tup [.int 12, .int 39]
noncomputable def V_HEXADECIMAL_MARK : AV := .tup [.int 12, .int 34]
noncomputable def V_LEAST_CODES : AV := .tup [.int 0, .int 0, .int 0, .int 0, .int 0, .int 1, .int 0, .int 0, .int 0, .int 1, .int 0, .int 0, .int 0, .int 0, .int 0, .int 0]
noncomputable def V_GREATEST_CODES : AV := .tup [.int 1048575, .int 255, .int 255, .int 255, .int 255, .int 9, .int 255, .int 255, .int 255, .int 9, .int 255, .int 255, .int 255, .int 255, .int 255, .int 0]
noncomputable def s_exc : Scope := scOf (stAt (bodyOf (stAt pwB 7)) 0)
noncomputable def b_exc : List Stmt := bodyOf (stAt (bodyOf (stAt pwB 7)) 0)
noncomputable def e_pos (k : Nat) : Pos := match b_exc with
  | [.Assign [.Attribute (.Name _ p1) _ p2] (.Name _ p3) p4] => [p1, p2, p3, p4].getD k ⟨0, 0, 0, 0⟩
  | _ => ⟨0, 0, 0, 0⟩
noncomputable def e_p1 : Pos := e_pos 0
noncomputable def e_p2 : Pos := e_pos 1
noncomputable def e_p3 : Pos := e_pos 2
noncomputable def e_p4 : Pos := e_pos 3
noncomputable def clName (f : Fm) : List (Str × Addr) := match f.cl.lookup ("name" : Str) with
  | some a => [("name", a)]
  | none => []
noncomputable def WxName (f : Fm) : Prop := ∃ a, f.cl.lookup ("name" : Str) = some a
noncomputable def gdName (ρ : Loc) : Bool := match ρ[1]? with
  | some (some _) => true
  | _ => false
noncomputable def mScriptS (a : ME) (sa : Nat) (is : List Int) (k : Nat) : ME := fun ρ σ => (a ρ σ).bind fun x σ => match x with | .lit (.ref a) => if a = sa then mScript is k ρ σ else .stuck | _ => .stuck
noncomputable def b_is_whole : List Stmt := bodyOf (stAt pwB 18)
noncomputable def s_is_whole : Scope := scOf (stAt pwB 18)
noncomputable def m_is_whole : MS := mSeq (mRet (mAnd (mCall F_isi [mLoc 0, mVal (.lit (.type "int"))]) (mAnd (mNot (mCall F_isi [mLoc 0, mVal (.lit (.type "bool"))])) (mChain oLe oLe (mLoc 1) (mLoc 0) (mLoc 2))))) (mNil)
noncomputable def F_is_whole : List AV → Store → Res AV := mFn 3 [] 3 m_is_whole
noncomputable def b_check_whole : List Stmt := bodyOf (stAt pwB 19)
noncomputable def s_check_whole : Scope := scOf (stAt pwB 19)
noncomputable def m_check_whole : MS := mSeq (mIfS (mOr (mNot (mCall F_isi [mLoc 0, mVal (.lit (.type "int"))])) (mCall F_isi [mLoc 0, mVal (.lit (.type "bool"))])) (mStuckS) (mNil)) (mSeq (mRet (mLoc 0)) (mNil))
noncomputable def F_check_whole : List AV → Store → Res AV := mFn 1 [] 4 m_check_whole
noncomputable def b_check_dimen : List Stmt := bodyOf (stAt pwB 21)
noncomputable def s_check_dimen : Scope := scOf (stAt pwB 21)
noncomputable def m_check_dimen : MS := mSeq (mIfS (mNot (mChain oLe oLe (mOp1 oNeg (mVal (.int 1073741823))) (mCall F_check_whole [mLoc 0]) (mVal (.int 1073741823)))) (mSeq (mRaise 108) (mNil)) (mNil)) (mSeq (mRet (mLoc 0)) (mNil))
noncomputable def F_check_dimen : List AV → Store → Res AV := mFn 1 [] 3 m_check_dimen
noncomputable def b_reading : List Stmt := bodyOf (stAt pwB 24)
noncomputable def s_reading : Scope := scOf (stAt pwB 24)
noncomputable def m_reading : MS := mSeq (mRet (mOp2 oDiv (mOp2 oAdd (mOp2 oDiv (mOp2 oMul (mOp2 oMul (mVal (.int 2)) (mVal (.int 65536))) (mLoc 0)) (mLoc 1)) (mVal (.int 1))) (mVal (.int 2)))) (mNil)
noncomputable def F_reading : List AV → Store → Res AV := mFn 2 [] 1 m_reading
noncomputable def b_from_decimals : List Stmt := bodyOf (stAt pwB 23)
noncomputable def s_from_decimals : Scope := scOf (stAt pwB 23)
noncomputable def m_from_decimals : MS := mSeq (mSetTup [1, 2] (mTup [mVal (.int 0), mVal (.int 1)])) (mSeq (mForL (tgName 3) (mSeq (mIfS (mNot (mCall F_is_whole [mLoc 3, mVal (.int 0), mVal (.int 9)])) (mStuckS) (mNil)) (mSeq (mSet 1 (mOp2 oAdd (mOp2 oMul (mVal (.int 10)) (mLoc 1)) (mLoc 3))) (mSeq (mSet 2 (mOp2 oMul (mVal (.int 10)) (mLoc 2))) (mNil)))) (mSliceTo (mLoc 0) (mVal (.int 17)))) (mSeq (mRet (mCall F_reading [mLoc 1, mLoc 2])) (mNil)))
noncomputable def F_from_decimals : List AV → Store → Res AV := mFn 1 [] 7 m_from_decimals
noncomputable def b_times : List Stmt := bodyOf (stAt pwB 26)
noncomputable def s_times : Scope := scOf (stAt pwB 26)
noncomputable def m_times : MS := mSeq (mRet (mCall F_check_dimen [mOp2 oAdd (mOp2 oMul (mCall F_check_whole [mLoc 0]) (mCall F_check_whole [mLoc 1])) (mCall F_check_whole [mLoc 2])])) (mNil)
noncomputable def F_times : List AV → Store → Res AV := mFn 3 [] 2 m_times
noncomputable def b_over : List Stmt := bodyOf (stAt pwB 28)
noncomputable def s_over : Scope := scOf (stAt pwB 28)
noncomputable def m_over : MS := mSeq (mIfS (mOp2 oEq (mCall F_check_whole [mLoc 1]) (mVal (.int 0))) (mStuckS) (mNil)) (mSeq (mSetTup [2, 3] (mCall F_divmod [mCall F_abs [mCall F_check_whole [mLoc 0]], mCall F_abs [mLoc 1]])) (mSeq (mIfS (mOp2 oNe (mOp2 oLt (mLoc 0) (mVal (.int 0))) (mOp2 oLt (mLoc 1) (mVal (.int 0)))) (mSeq (mSet 2 (mOp1 oNeg (mLoc 2))) (mNil)) (mNil)) (mSeq (mIfS (mOp2 oLt (mLoc 0) (mVal (.int 0))) (mSeq (mSet 3 (mOp1 oNeg (mLoc 3))) (mNil)) (mNil)) (mSeq (mRet (mTup [mLoc 2, mLoc 3])) (mNil)))))
noncomputable def F_over : List AV → Store → Res AV := mFn 2 [] 6 m_over
noncomputable def b_fraction : List Stmt := bodyOf (stAt pwB 30)
noncomputable def s_fraction : Scope := scOf (stAt pwB 30)
noncomputable def m_fraction : MS := mSeq (mIfS (mOr (mNot (mCall F_is_whole [mLoc 1, mVal (.int 0), mVal (.int 2147483647)])) (mNot (mCall F_is_whole [mLoc 2, mVal (.int 1), mVal (.int 2147483647)]))) (mStuckS) (mNil)) (mSeq (mSetTup [3, 4] (mCall F_over [mOp2 oMul (mCall F_check_whole [mLoc 0]) (mLoc 1), mLoc 2])) (mSeq (mRet (mTup [mCall F_check_dimen [mLoc 3], mLoc 4])) (mNil)))
noncomputable def F_fraction : List AV → Store → Res AV := mFn 3 [] 8 m_fraction
noncomputable def b_units : List Stmt := bodyOf (stAt pwB 31)
noncomputable def s_units : Scope := scOf (stAt pwB 31)
noncomputable def m_units : MS := mSeq (mRet (mList [mTup [mVal (.str [112, 116]), mVal (.int 1), mVal (.int 1)], mTup [mVal (.str [105, 110]), mVal (.int 7227), mVal (.int 100)], mTup [mVal (.str [112, 99]), mVal (.int 12), mVal (.int 1)], mTup [mVal (.str [99, 109]), mVal (.int 7227), mVal (.int 254)], mTup [mVal (.str [109, 109]), mVal (.int 7227), mVal (.int 2540)], mTup [mVal (.str [98, 112]), mVal (.int 7227), mVal (.int 7200)], mTup [mVal (.str [100, 100]), mVal (.int 1238), mVal (.int 1157)], mTup [mVal (.str [99, 99]), mVal (.int 14856), mVal (.int 1157)]])) (mNil)
noncomputable def F_units : List AV → Store → Res AV := mFn 0 [] 0 m_units
noncomputable def b_is_token : List Stmt := bodyOf (stAt pwB 42)
noncomputable def s_is_token : Scope := scOf (stAt pwB 42)
noncomputable def m_is_token : MS := mSeq (mIfS (mOr (mNot (mCall F_isi [mLoc 0, mVal (.lit (.type "tuple"))])) (mOr (mOp2 oNe (mCall F_lenA [mLoc 0]) (mVal (.int 2))) (mNot (mCall F_is_whole [mOp2 oItem (mLoc 0) (mVal (.int 0)), mVal (.int 0), mVal (.int 15)])))) (mSeq (mRet (mVal (.bool false))) (mNil)) (mNil)) (mSeq (mRet (mCall F_is_whole [mOp2 oItem (mLoc 0) (mVal (.int 1)), mOp2 oItem (mVal V_LEAST_CODES) (mOp2 oItem (mLoc 0) (mVal (.int 0))), mOp2 oItem (mVal V_GREATEST_CODES) (mOp2 oItem (mLoc 0) (mVal (.int 0)))])) (mNil))
noncomputable def F_is_token : List AV → Store → Res AV := mFn 1 [] 6 m_is_token
noncomputable def b_read : List Stmt := bodyOf (stAt (bodyOf (stAt pwB 70)) 1)
noncomputable def s_read : Scope := scOf (stAt (bodyOf (stAt pwB 70)) 1)
noncomputable def m_read : MS := mSeq (mIfS (mOp2 oEq (mAttr 544 "rest" (mLoc 0)) (mList [])) (mSeq (mRet (mTup [mVal .none, mVal (.int 99), mVal (.int 0)])) (mNil)) (mNil)) (mSeq (mSet 1 (mPop (mAttr 544 "rest" (mLoc 0)))) (mSeq (mSetTup [2, 3] (mLoc 1)) (mSeq (mIfS (mOp2 oEq (mLoc 2) (mVal (.int 1))) (mSeq (mPutF 544 "balance" (mOp2 oAdd (mAttr 544 "balance" (mLoc 0)) (mVal (.int 1))) (mLoc 0)) (mNil)) (mSeq (mIfS (mOp2 oEq (mLoc 2) (mVal (.int 2))) (mSeq (mPutF 544 "balance" (mOp2 oSub (mAttr 544 "balance" (mLoc 0)) (mVal (.int 1))) (mLoc 0)) (mNil)) (mNil)) (mNil))) (mSeq (mIfS (mAnd (mOp2 oEq (mLoc 2) (mVal (.int 0))) (mStuck)) (mSeq (mRet (mTup [mLoc 1, mVal (.int 77), mLoc 3])) (mNil)) (mNil)) (mSeq (mIfS (mOr (mOp2 oEq (mLoc 2) (mVal (.int 0))) (mOp2 oEq (mLoc 2) (mVal (.int 13)))) (mSeq (mRet (mTup [mLoc 1, mVal (.int 0), mVal (.int 256)])) (mNil)) (mNil)) (mSeq (mRet (mTup [mLoc 1, mLoc 2, mLoc 3])) (mNil)))))))
noncomputable def F_read : List AV → Store → Res AV := mFn 1 [] 11 m_read
noncomputable def b_read_expanded : List Stmt := bodyOf (stAt (bodyOf (stAt pwB 70)) 2)
noncomputable def s_read_expanded : Scope := scOf (stAt (bodyOf (stAt pwB 70)) 2)
noncomputable def m_read_expanded : MS := mSeq (mRet (mMeth 544 "read" F_read (mLoc 0) [])) (mNil)
noncomputable def F_read_expanded : List AV → Store → Res AV := mFn 1 [] 0 m_read_expanded
noncomputable def b_back : List Stmt := bodyOf (stAt (bodyOf (stAt pwB 70)) 3)
noncomputable def s_back : Scope := scOf (stAt (bodyOf (stAt pwB 70)) 3)
noncomputable def m_back : MS := mSeq (mIfS (mOr (mNot (mCall F_is_token [mLoc 1])) (mOp2 oIn (mOp2 oItem (mLoc 1) (mVal (.int 0))) (mTup [mVal (.int 5), mVal (.int 9), mVal (.int 14), mVal (.int 15)]))) (mStuckS) (mNil)) (mSeq (mIfS (mOp2 oEq (mOp2 oItem (mLoc 1) (mVal (.int 0))) (mVal (.int 1))) (mSeq (mPutF 544 "balance" (mOp2 oSub (mAttr 544 "balance" (mLoc 0)) (mVal (.int 1))) (mLoc 0)) (mNil)) (mSeq (mIfS (mOp2 oEq (mOp2 oItem (mLoc 1) (mVal (.int 0))) (mVal (.int 2))) (mSeq (mPutF 544 "balance" (mOp2 oAdd (mAttr 544 "balance" (mLoc 0)) (mVal (.int 1))) (mLoc 0)) (mNil)) (mNil)) (mNil))) (mSeq (mExpr (mAppend (mAttr 544 "rest" (mLoc 0)) (mLoc 1))) (mNil)))
noncomputable def F_back : List AV → Store → Res AV := mFn 2 [] 8 m_back
noncomputable def b_left : List Stmt := bodyOf (stAt (bodyOf (stAt pwB 70)) 4)
noncomputable def s_left : Scope := scOf (stAt (bodyOf (stAt pwB 70)) 4)
noncomputable def m_left : MS := mSeq (mRet (mRev (mAttr 544 "rest" (mLoc 0)))) (mNil)
noncomputable def F_left : List AV → Store → Res AV := mFn 1 [] 0 m_left
noncomputable def b_quantity : List Stmt := bodyOf (stAt (bodyOf (stAt pwB 70)) 5)
noncomputable def s_quantity : Scope := scOf (stAt (bodyOf (stAt pwB 70)) 5)
noncomputable def m_quantity : MS := mSeq (mIfS (mOp2 oNe (mLoc 1) (mVal (.int 77))) (mSeq (mRet (mVal .none)) (mNil)) (mNil)) (mStuckS)
noncomputable def F_quantity : List AV → Store → Res AV := mFn 3 [] 1 m_quantity
noncomputable def b_font_size : List Stmt := bodyOf (stAt (bodyOf (stAt pwB 70)) 6)
noncomputable def s_font_size : Scope := scOf (stAt (bodyOf (stAt pwB 70)) 6)
noncomputable def m_font_size : MS := mSeq (mRet (mIf (mOp2 oEq (mLoc 1) (mVal (.int 6))) (mOp2 oItem (mAttr 544 "sizes" (mLoc 0)) (mVal (.int 1))) (mOp2 oItem (mAttr 544 "sizes" (mLoc 0)) (mVal (.int 0))))) (mNil)
noncomputable def F_font_size : List AV → Store → Res AV := mFn 2 [] 1 m_font_size
noncomputable def b___init__ : List Stmt := bodyOf (stAt (bodyOf (stAt pwB 70)) 0)
noncomputable def s___init__ : Scope := scOf (stAt (bodyOf (stAt pwB 70)) 0)
noncomputable def m___init__ : MS := mSeq (mForL (tgName 6) (mSeq (mIfS (mOr (mNot (mCall F_is_token [mLoc 6])) (mOp2 oIn (mOp2 oItem (mLoc 6) (mVal (.int 0))) (mTup [mVal (.int 5), mVal (.int 9), mVal (.int 14), mVal (.int 15)]))) (mStuckS) (mNil)) (mNil)) (mLoc 1)) (mSeq (mPutF 544 "rest" (mRev (mCall F_list [mLoc 1])) (mLoc 0)) (mSeq (mPutF 544 "inner" (mIf (mOp2 oIs (mLoc 2) (mVal .none)) (mDict0) (mStuck)) (mLoc 0)) (mSeq (mForD0 (mAttr 544 "inner" (mLoc 0))) (mSeq (mPutF 544 "names" (mLoc 3) (mLoc 0)) (mSeq (mPutF 544 "sizes" (mTup [mCall F_check_dimen [mLoc 4], mCall F_check_dimen [mLoc 5]]) (mLoc 0)) (mSeq (mPutF 544 "balance" (mVal (.int 0)) (mLoc 0)) (mNil)))))))
noncomputable def F___init__ : List AV → Store → Res AV := mFn 6 [] 12 m___init__
noncomputable def F_PlainSource : List AV → Store → Res AV := mCls 544 F___init__
noncomputable def b_unread : List Stmt := bodyOf (stAt pwB 48)
noncomputable def s_unread : Scope := scOf (stAt pwB 48)
noncomputable def m_unread : MS := mSeq (mIfS (mOp2 oIsNot (mOp2 oItem (mLoc 1) (mVal (.int 0))) (mVal .none)) (mSeq (mExpr (mMeth 544 "back" F_back (mLoc 0) [mOp2 oItem (mLoc 1) (mVal (.int 0))])) (mNil)) (mNil)) (mNil)
noncomputable def F_unread : List AV → Store → Res AV := mFn 2 [] 0 m_unread
noncomputable def b_skip_blanks : List Stmt := bodyOf (stAt pwB 49)
noncomputable def s_skip_blanks : Scope := scOf (stAt pwB 49)
noncomputable def m_skip_blanks : MS := mSeq (mSet 1 (mMeth 544 "read_expanded" F_read_expanded (mLoc 0) [])) (mSeq (mWhileF (mOp2 oEq (mOp2 oItem (mLoc 1) (mVal (.int 1))) (mVal (.int 10))) (mSeq (mSet 1 (mMeth 544 "read_expanded" F_read_expanded (mLoc 0) [])) (mNil)) 200) (mSeq (mRet (mLoc 1)) (mNil)))
noncomputable def F_skip_blanks : List AV → Store → Res AV := mFn 1 [] 2 m_skip_blanks
noncomputable def b_optional_blank : List Stmt := bodyOf (stAt pwB 50)
noncomputable def s_optional_blank : Scope := scOf (stAt pwB 50)
noncomputable def m_optional_blank : MS := mSeq (mSet 1 (mMeth 544 "read_expanded" F_read_expanded (mLoc 0) [])) (mSeq (mIfS (mOp2 oNe (mOp2 oItem (mLoc 1) (mVal (.int 1))) (mVal (.int 10))) (mSeq (mExpr (mCall F_unread [mLoc 0, mLoc 1])) (mNil)) (mNil)) (mNil))
noncomputable def F_optional_blank : List AV → Store → Res AV := mFn 1 [] 3 m_optional_blank
noncomputable def b_spells : List Stmt := bodyOf (stAt pwB 51)
noncomputable def s_spells : Scope := scOf (stAt pwB 51)
noncomputable def m_spells : MS := mSeq (mRet (mAnd (mOp2 oIsNot (mLoc 0) (mVal .none)) (mAnd (mChain oLe oLe (mVal (.int 1)) (mOp2 oItem (mLoc 0) (mVal (.int 0))) (mVal (.int 12))) (mOr (mOp2 oEq (mOp2 oItem (mLoc 0) (mVal (.int 1))) (mCall F_ord [mLoc 1])) (mOp2 oEq (mOp2 oItem (mLoc 0) (mVal (.int 1))) (mOp2 oSub (mCall F_ord [mLoc 1]) (mVal (.int 32)))))))) (mNil)
noncomputable def F_spells : List AV → Store → Res AV := mFn 2 [] 1 m_spells
noncomputable def b_keyword : List Stmt := bodyOf (stAt pwB 52)
noncomputable def s_keyword : Scope := scOf (stAt pwB 52)
noncomputable def m_keyword : MS := mSeq (mSet 2 (mList [])) (mSeq (mWhileF (mOp2 oLt (mCall F_lenA [mLoc 2]) (mCall F_lenA [mLoc 1])) (mSeq (mSet 3 (mMeth 544 "read_expanded" F_read_expanded (mLoc 0) [])) (mSeq (mIfS (mCall F_spells [mOp2 oItem (mLoc 3) (mVal (.int 0)), mOp2 oItem (mLoc 1) (mCall F_lenA [mLoc 2])]) (mSeq (mExpr (mAppend (mLoc 2) (mOp2 oItem (mLoc 3) (mVal (.int 0))))) (mNil)) (mSeq (mIfS (mOr (mOp2 oNe (mOp2 oItem (mLoc 3) (mVal (.int 1))) (mVal (.int 10))) (mOp2 oNe (mLoc 2) (mList []))) (mSeq (mExpr (mCall F_unread [mLoc 0, mLoc 3])) (mSeq (mForL (tgName 4) (mSeq (mExpr (mMeth 544 "back" F_back (mLoc 0) [mLoc 4])) (mNil)) (mRev (mLoc 2))) (mSeq (mRet (mVal (.bool false))) (mNil)))) (mNil)) (mNil))) (mNil))) 200) (mSeq (mRet (mVal (.bool true))) (mNil)))
noncomputable def F_keyword : List AV → Store → Res AV := mFn 2 [] 7 m_keyword
noncomputable def b_signs : List Stmt := bodyOf (stAt pwB 53)
noncomputable def s_signs : Scope := scOf (stAt pwB 53)
noncomputable def m_signs : MS := mSeq (mSet 1 (mVal (.bool false))) (mSeq (mSet 2 (mCall F_skip_blanks [mLoc 0])) (mSeq (mWhileF (mOr (mOp2 oEq (mOp2 oItem (mLoc 2) (mVal (.int 0))) (mVal V_PLUS)) (mOp2 oEq (mOp2 oItem (mLoc 2) (mVal (.int 0))) (mVal V_MINUS))) (mSeq (mIfS (mOp2 oEq (mOp2 oItem (mLoc 2) (mVal (.int 0))) (mVal V_MINUS)) (mSeq (mSet 1 (mNot (mLoc 1))) (mNil)) (mNil)) (mSeq (mSet 2 (mCall F_skip_blanks [mLoc 0])) (mNil))) 200) (mSeq (mRet (mTup [mLoc 2, mLoc 1])) (mNil))))
noncomputable def F_signs : List AV → Store → Res AV := mFn 1 [] 5 m_signs
noncomputable def b_digit_of : List Stmt := bodyOf (stAt pwB 55)
noncomputable def s_digit_of : Scope := scOf (stAt pwB 55)
noncomputable def m_digit_of : MS := mSeq (mIfS (mOp2 oIs (mLoc 0) (mVal .none)) (mSeq (mRet (mOp1 oNeg (mVal (.int 1)))) (mNil)) (mNil)) (mSeq (mSetTup [2, 3] (mLoc 0)) (mSeq (mIfS (mAnd (mOp2 oEq (mLoc 2) (mVal (.int 12))) (mChain oLe oLt (mVal (.int 48)) (mLoc 3) (mOp2 oAdd (mVal (.int 48)) (mCall F_min [mLoc 1, mVal (.int 10)])))) (mSeq (mRet (mOp2 oSub (mLoc 3) (mVal (.int 48)))) (mNil)) (mNil)) (mSeq (mIfS (mAnd (mOp2 oEq (mLoc 1) (mVal (.int 16))) (mAnd (mChain oLe oLe (mVal (.int 65)) (mLoc 3) (mVal (.int 70))) (mOr (mOp2 oEq (mLoc 2) (mVal (.int 11))) (mOp2 oEq (mLoc 2) (mVal (.int 12)))))) (mSeq (mRet (mOp2 oSub (mLoc 3) (mVal (.int 55)))) (mNil)) (mNil)) (mSeq (mRet (mOp1 oNeg (mVal (.int 1)))) (mNil)))))
noncomputable def F_digit_of : List AV → Store → Res AV := mFn 2 [] 5 m_digit_of
noncomputable def b_written_number : List Stmt := bodyOf (stAt pwB 57)
noncomputable def s_written_number : Scope := scOf (stAt pwB 57)
noncomputable def m_written_number : MS := mSeq (mSet 2 (mVal (.int 10))) (mSeq (mIfS (mOp2 oEq (mOp2 oItem (mLoc 1) (mVal (.int 0))) (mVal V_OCTAL_MARK)) (mSeq (mSet 2 (mVal (.int 8))) (mNil)) (mSeq (mIfS (mOp2 oEq (mOp2 oItem (mLoc 1) (mVal (.int 0))) (mVal V_HEXADECIMAL_MARK)) (mSeq (mSet 2 (mVal (.int 16))) (mNil)) (mNil)) (mNil))) (mSeq (mIfS (mOp2 oNe (mLoc 2) (mVal (.int 10))) (mSeq (mSet 1 (mMeth 544 "read_expanded" F_read_expanded (mLoc 0) [])) (mNil)) (mNil)) (mSeq (mSet 3 (mCall F_digit_of [mOp2 oItem (mLoc 1) (mVal (.int 0)), mLoc 2])) (mSeq (mIfS (mOp2 oLt (mLoc 3) (mVal (.int 0))) (mStuckS) (mNil)) (mSeq (mSet 4 (mVal (.int 0))) (mSeq (mWhileF (mOp2 oGe (mLoc 3) (mVal (.int 0))) (mSeq (mSet 4 (mOp2 oAdd (mOp2 oMul (mLoc 2) (mLoc 4)) (mLoc 3))) (mSeq (mIfS (mOp2 oGt (mLoc 4) (mVal (.int 2147483647))) (mStuckS) (mNil)) (mSeq (mSet 1 (mMeth 544 "read_expanded" F_read_expanded (mLoc 0) [])) (mSeq (mSet 3 (mCall F_digit_of [mOp2 oItem (mLoc 1) (mVal (.int 0)), mLoc 2])) (mNil))))) 200) (mSeq (mRet (mTup [mLoc 4, mLoc 2, mLoc 1])) (mNil))))))))
noncomputable def F_written_number : List AV → Store → Res AV := mFn 2 [] 8 m_written_number
noncomputable def b_number_parts : List Stmt := bodyOf (stAt pwB 58)
noncomputable def s_number_parts : Scope := scOf (stAt pwB 58)
noncomputable def m_number_parts : MS := mSeq (mSetTup [1, 2] (mCall F_signs [mLoc 0])) (mSeq (mIfS (mOp2 oEq (mOp2 oItem (mLoc 1) (mVal (.int 0))) (mVal V_BACK_QUOTE)) (mStuckS) (mSeq (mSet 6 (mMeth 544 "quantity" F_quantity (mLoc 0) [mOp2 oItem (mLoc 1) (mVal (.int 1)), mOp2 oItem (mLoc 1) (mVal (.int 2))])) (mSeq (mIfS (mOp2 oIs (mLoc 6) (mVal .none)) (mSeq (mSetTup [3, 4, 5] (mCall F_written_number [mLoc 0, mLoc 1])) (mNil)) (mStuckS)) (mNil)))) (mSeq (mRet (mTup [mIf (mLoc 2) (mOp1 oNeg (mLoc 3)) (mLoc 3), mLoc 4, mLoc 5])) (mNil)))
noncomputable def F_number_parts : List AV → Store → Res AV := mFn 1 [] 12 m_number_parts
noncomputable def b_decimals : List Stmt := bodyOf (stAt pwB 59)
noncomputable def s_decimals : Scope := scOf (stAt pwB 59)
noncomputable def m_decimals : MS := mSeq (mSet 1 (mList [])) (mSeq (mSet 2 (mMeth 544 "read_expanded" F_read_expanded (mLoc 0) [])) (mSeq (mSet 3 (mCall F_digit_of [mOp2 oItem (mLoc 2) (mVal (.int 0)), mVal (.int 10)])) (mSeq (mWhileF (mOp2 oGe (mLoc 3) (mVal (.int 0))) (mSeq (mIfS (mOp2 oLt (mCall F_lenA [mLoc 1]) (mVal (.int 17))) (mSeq (mExpr (mAppend (mLoc 1) (mLoc 3))) (mNil)) (mNil)) (mSeq (mSet 2 (mMeth 544 "read_expanded" F_read_expanded (mLoc 0) [])) (mSeq (mSet 3 (mCall F_digit_of [mOp2 oItem (mLoc 2) (mVal (.int 0)), mVal (.int 10)])) (mNil)))) 200) (mSeq (mIfS (mOp2 oNe (mOp2 oItem (mLoc 2) (mVal (.int 1))) (mVal (.int 10))) (mSeq (mExpr (mCall F_unread [mLoc 0, mLoc 2])) (mNil)) (mNil)) (mSeq (mRet (mCall F_from_decimals [mLoc 1])) (mNil))))))
noncomputable def F_decimals : List AV → Store → Res AV := mFn 1 [] 9 m_decimals
noncomputable def b_factor : List Stmt := bodyOf (stAt pwB 60)
noncomputable def s_factor : Scope := scOf (stAt pwB 60)
noncomputable def m_factor : MS := mSeq (mIfS (mOr (mOp2 oEq (mOp2 oItem (mLoc 1) (mVal (.int 0))) (mVal V_POINT)) (mOp2 oEq (mOp2 oItem (mLoc 1) (mVal (.int 0))) (mVal V_COMMA))) (mSeq (mRet (mTup [mVal (.int 0), mCall F_decimals [mLoc 0]])) (mNil)) (mNil)) (mSeq (mExpr (mCall F_unread [mLoc 0, mLoc 1])) (mSeq (mSetTup [2, 3, 4] (mCall F_number_parts [mLoc 0])) (mSeq (mIfS (mAnd (mOp2 oEq (mLoc 3) (mVal (.int 10))) (mOr (mOp2 oEq (mOp2 oItem (mLoc 4) (mVal (.int 0))) (mVal V_POINT)) (mOp2 oEq (mOp2 oItem (mLoc 4) (mVal (.int 0))) (mVal V_COMMA)))) (mSeq (mRet (mTup [mLoc 2, mCall F_decimals [mLoc 0]])) (mNil)) (mNil)) (mSeq (mIfS (mAnd (mOp2 oIsNot (mLoc 4) (mVal .none)) (mOp2 oNe (mOp2 oItem (mLoc 4) (mVal (.int 1))) (mVal (.int 10)))) (mSeq (mExpr (mCall F_unread [mLoc 0, mLoc 4])) (mNil)) (mNil)) (mSeq (mRet (mTup [mLoc 2, mVal (.int 0)])) (mNil))))))
noncomputable def F_factor : List AV → Store → Res AV := mFn 2 [] 9 m_factor
noncomputable def b_attached : List Stmt := bodyOf (stAt pwB 62)
noncomputable def s_attached : Scope := scOf (stAt pwB 62)
noncomputable def m_attached : MS := mSeq (mRet (mCall F_times [mLoc 0, mVal (.int 65536), mLoc 1])) (mNil)
noncomputable def F_attached : List AV → Store → Res AV := mFn 2 [] 2 m_attached
noncomputable def b_converted : List Stmt := bodyOf (stAt pwB 63)
noncomputable def s_converted : Scope := scOf (stAt pwB 63)
noncomputable def m_converted : MS := mSeq (mSetTup [4, 5] (mCall F_fraction [mLoc 0, mLoc 2, mLoc 3])) (mSeq (mSet 1 (mOp2 oDiv (mOp2 oAdd (mOp2 oMul (mLoc 2) (mLoc 1)) (mOp2 oMul (mVal (.int 65536)) (mLoc 5))) (mLoc 3))) (mSeq (mRet (mCall F_attached [mOp2 oAdd (mLoc 4) (mOp2 oDiv (mLoc 1) (mVal (.int 65536))), mOp2 oMod (mLoc 1) (mVal (.int 65536))])) (mNil)))
noncomputable def F_converted : List AV → Store → Res AV := mFn 4 [] 5 m_converted
noncomputable def b_measured : List Stmt := bodyOf (stAt pwB 64)
noncomputable def s_measured : Scope := scOf (stAt pwB 64)
noncomputable def m_measured : MS := mSeq (mRet (mCall F_times [mLoc 0, mLoc 2, mOp2 oItem (mCall F_fraction [mLoc 2, mLoc 1, mVal (.int 65536)]) (mVal (.int 0))])) (mNil)
noncomputable def F_measured : List AV → Store → Res AV := mFn 3 [] 3 m_measured
noncomputable def b_written_unit : List Stmt := bodyOf (stAt pwB 65)
noncomputable def s_written_unit : Scope := scOf (stAt pwB 65)
noncomputable def m_written_unit : MS := mSeq (mIfS (mLoc 3) (mStuckS) (mNil)) (mSeq (mIfS (mCall F_keyword [mLoc 0, mVal (.str [101, 109])]) (mSeq (mRet (mCall F_measured [mLoc 1, mLoc 2, mMeth 544 "font_size" F_font_size (mLoc 0) [mVal (.int 6)]])) (mNil)) (mNil)) (mSeq (mIfS (mCall F_keyword [mLoc 0, mVal (.str [101, 120])]) (mSeq (mRet (mCall F_measured [mLoc 1, mLoc 2, mMeth 544 "font_size" F_font_size (mLoc 0) [mVal (.int 5)]])) (mNil)) (mNil)) (mSeq (mForL (tgTup [4, 5, 6]) (mSeq (mIfS (mCall F_keyword [mLoc 0, mLoc 4]) (mSeq (mRet (mCall F_converted [mLoc 1, mLoc 2, mLoc 5, mLoc 6])) (mNil)) (mNil)) (mNil)) (mCall F_units [])) (mSeq (mIfS (mCall F_keyword [mLoc 0, mVal (.str [115, 112])]) (mSeq (mRet (mCall F_check_dimen [mLoc 1])) (mNil)) (mNil)) (mStuckS)))))
noncomputable def F_written_unit : List AV → Store → Res AV := mFn 4 [] 12 m_written_unit
noncomputable def b_with_unit : List Stmt := bodyOf (stAt pwB 67)
noncomputable def s_with_unit : Scope := scOf (stAt pwB 67)
noncomputable def m_with_unit : MS := mSeq (mIfS (mOp2 oLt (mLoc 1) (mVal (.int 0))) (mSeq (mSetTupR [3, 1] (mTup [mOp1 oNeg (mLoc 1), mNot (mLoc 3)])) (mNil)) (mNil)) (mSeq (mSet 6 (mIf (mLoc 5) (mStuck) (mVal (.int 0)))) (mSeq (mIfS (mOp2 oNe (mLoc 6) (mVal (.int 0))) (mSeq (mSet 7 (mCall F_attached [mLoc 1, mLoc 2])) (mSeq (mExpr (mCall F_optional_blank [mLoc 0])) (mNil))) (mSeq (mSet 8 (mCall F_skip_blanks [mLoc 0])) (mSeq (mSet 9 (mMeth 544 "quantity" F_quantity (mLoc 0) [mOp2 oItem (mLoc 8) (mVal (.int 1)), mOp2 oItem (mLoc 8) (mVal (.int 2))])) (mSeq (mIfS (mOp2 oIsNot (mLoc 9) (mVal .none)) (mStuckS) (mSeq (mExpr (mCall F_unread [mLoc 0, mLoc 8])) (mSeq (mSet 7 (mCall F_written_unit [mLoc 0, mLoc 1, mLoc 2, mLoc 4])) (mSeq (mExpr (mCall F_optional_blank [mLoc 0])) (mNil))))) (mNil))))) (mSeq (mRet (mTup [mIf (mLoc 3) (mOp1 oNeg (mLoc 7)) (mLoc 7), mLoc 6])) (mNil))))
noncomputable def F_with_unit : List AV → Store → Res AV := mFn 6 [] 13 m_with_unit
noncomputable def b_dimen : List Stmt := bodyOf (stAt pwB 68)
noncomputable def s_dimen : Scope := scOf (stAt pwB 68)
noncomputable def m_dimen : MS := mSeq (mSetTup [3, 4] (mCall F_signs [mLoc 0])) (mSeq (mSet 5 (mMeth 544 "quantity" F_quantity (mLoc 0) [mOp2 oItem (mLoc 3) (mVal (.int 1)), mOp2 oItem (mLoc 3) (mVal (.int 2))])) (mSeq (mIfS (mOp2 oIs (mLoc 5) (mVal .none)) (mSeq (mSetTup [6, 7] (mCall F_factor [mLoc 0, mLoc 3])) (mSeq (mRet (mCall F_with_unit [mLoc 0, mLoc 6, mLoc 7, mLoc 4, mLoc 1, mLoc 2])) (mNil))) (mNil)) (mStuckS)))
noncomputable def F_dimen : List AV → Store → Res AV := mFn 1 [.bool false, .bool false] 17 m_dimen
noncomputable def b__law_rows : List Stmt := bodyOf (stAt pwB 72)
noncomputable def s__law_rows : Scope := scOf (stAt pwB 72)
noncomputable def m__law_rows : MS := mSeq (mRet (mList [mTup [mVal (.int 100), mVal (.str [105, 110]), mVal (.int 7227), mVal (.str [112, 116]), mVal (.int 2)], mTup [mVal (.int 1), mVal (.str [112, 99]), mVal (.int 12), mVal (.str [112, 116]), mVal (.int 1365)], mTup [mVal (.int 254), mVal (.str [99, 109]), mVal (.int 7227), mVal (.str [112, 116]), mVal (.int 2)], mTup [mVal (.int 10), mVal (.str [109, 109]), mVal (.int 1), mVal (.str [99, 109]), mVal (.int 575)], mTup [mVal (.int 72), mVal (.str [98, 112]), mVal (.int 1), mVal (.str [105, 110]), mVal (.int 226)], mTup [mVal (.int 1157), mVal (.str [100, 100]), mVal (.int 1238), mVal (.str [112, 116]), mVal (.int 13)], mTup [mVal (.int 1), mVal (.str [99, 99]), mVal (.int 12), mVal (.str [100, 100]), mVal (.int 1275)], mTup [mVal (.int 1), mVal (.str [112, 116]), mVal (.int 65536), mVal (.str [115, 112]), mVal (.int 16383)]])) (mNil)
noncomputable def F__law_rows : List AV → Store → Res AV := mFn 0 [] 0 m__law_rows
noncomputable def b__law_units : List Stmt := bodyOf (stAt pwB 73)
noncomputable def s__law_units : Scope := scOf (stAt pwB 73)
noncomputable def m__law_units : MS := mSeq (mRet (mList [mTup [mVal (.str [112, 116]), mVal (.int 1), mVal (.int 1)], mTup [mVal (.str [105, 110]), mVal (.int 7227), mVal (.int 100)], mTup [mVal (.str [112, 99]), mVal (.int 12), mVal (.int 1)], mTup [mVal (.str [99, 109]), mVal (.int 7227), mVal (.int 254)], mTup [mVal (.str [109, 109]), mVal (.int 7227), mVal (.int 2540)], mTup [mVal (.str [98, 112]), mVal (.int 7227), mVal (.int 7200)], mTup [mVal (.str [100, 100]), mVal (.int 1238), mVal (.int 1157)], mTup [mVal (.str [99, 99]), mVal (.int 14856), mVal (.int 1157)]])) (mNil)
noncomputable def F__law_units : List AV → Store → Res AV := mFn 0 [] 0 m__law_units
noncomputable def b__law_pool : List Stmt := bodyOf (stAt pwB 74)
noncomputable def s__law_pool : Scope := scOf (stAt pwB 74)
noncomputable def m__law_pool (sa : Nat) (is : List Int) : MS := mSeq (mSet 1 (mList [mVal (.int 0), mVal (.int 1)])) (mSeq (mForL (tgName 2) (mSeq (mIfS (mOp2 oGe (mCall F_abs [mLoc 2]) (mOp2 oPow (mVal (.int 10)) (mVal (.int 18)))) (mSeq (mPutI (mOp2 oAdd (mOp2 oMul (mOp2 oItem (mLoc 1) (mVal (.int 0))) (mOp2 oPow (mVal (.int 10)) (mVal (.int 120)))) (mOp2 oMod (mCall F_abs [mLoc 2]) (mOp2 oPow (mVal (.int 10)) (mVal (.int 120))))) (mLoc 1) (mVal (.int 0))) (mNil)) (mSeq (mPutI (mOp2 oMod (mOp2 oAdd (mOp2 oAdd (mOp2 oMul (mOp2 oItem (mLoc 1) (mVal (.int 1))) (mVal (.int 1000003))) (mOp2 oMul (mVal (.int 2)) (mCall F_abs [mLoc 2]))) (mCall F_int [mOp2 oLt (mLoc 2) (mVal (.int 0))])) (mVal (.int 2147483647))) (mLoc 1) (mVal (.int 1))) (mNil))) (mNil)) (mScriptS (mLoc 0) sa is 24)) (mSeq (mRet (mLoc 1)) (mNil)))
noncomputable def F__law_pool (sa : Nat) (is : List Int) : List AV → Store → Res AV := mFn 1 [] 4 (m__law_pool sa is)
noncomputable def b__law_take : List Stmt := bodyOf (stAt pwB 75)
noncomputable def s__law_take : Scope := scOf (stAt pwB 75)
noncomputable def m__law_take : MS := mSeq (mIfS (mOp2 oGe (mOp2 oItem (mLoc 0) (mVal (.int 0))) (mVal (.int 100))) (mSeq (mSet 2 (mOp2 oMod (mOp2 oItem (mLoc 0) (mVal (.int 0))) (mVal (.int 100)))) (mSeq (mPutI (mOp2 oDiv (mOp2 oItem (mLoc 0) (mVal (.int 0))) (mVal (.int 100))) (mLoc 0) (mVal (.int 0))) (mSeq (mRet (mOp2 oMod (mLoc 2) (mLoc 1))) (mNil)))) (mNil)) (mSeq (mPutI (mOp2 oMod (mOp2 oAdd (mOp2 oMul (mOp2 oItem (mLoc 0) (mVal (.int 1))) (mVal (.int 48271))) (mVal (.int 11))) (mVal (.int 2147483647))) (mLoc 0) (mVal (.int 1))) (mSeq (mRet (mOp2 oMod (mOp2 oDiv (mOp2 oItem (mLoc 0) (mVal (.int 1))) (mVal (.int 64))) (mLoc 1))) (mNil)))
noncomputable def F__law_take : List AV → Store → Res AV := mFn 2 [] 1 m__law_take
noncomputable def b__law_great : List Stmt := bodyOf (stAt pwB 76)
noncomputable def s__law_great : Scope := scOf (stAt pwB 76)
noncomputable def m__law_great : MS := mSeq (mSet 2 (mCall F__law_take [mLoc 0, mVal (.int 100)])) (mSeq (mRet (mOp2 oMod (mOp2 oAdd (mOp2 oMul (mVal (.int 100)) (mLoc 2)) (mCall F__law_take [mLoc 0, mVal (.int 100)])) (mLoc 1))) (mNil))
noncomputable def F__law_great : List AV → Store → Res AV := mFn 2 [] 2 m__law_great
noncomputable def b__law_read : List Stmt := bodyOf (stAt pwB 77)
noncomputable def s__law_read : Scope := scOf (stAt pwB 77)
noncomputable def m__law_read : MS := mSeq (mSet 1 (mCall F_PlainSource [mComp (eIfEq (fun _ v σ => .ok v σ) (fun _ _ σ => .ok (.str [32]) σ) (eTup2 (fun _ _ σ => .ok (.int 10) σ) (fun _ _ σ => .ok (.int 32) σ)) (eTup2 (fun _ _ σ => .ok (.int 12) σ) (eCall F_ord (fun _ v σ => .ok v σ)))) (mLoc 0), mVal .none, mVal .none, mVal (.int 282168), mVal (.int 655361)])) (mSeq (mTry 2 F_dimen (mLoc 1) 108 [111, 118, 101, 114]) (mSeq (mRet (mIf (mAnd (mOp2 oEq (mOp2 oItem (mLoc 2) (mVal (.int 1))) (mVal (.int 0))) (mAnd (mOp2 oEq (mMeth 544 "left" F_left (mLoc 1) []) (mList [])) (mNot (mCall F_isi [mOp2 oItem (mLoc 2) (mVal (.int 0)), mVal (.lit (.type "bool"))])))) (mOp2 oItem (mLoc 2) (mVal (.int 0))) (mVal (.str [108, 101, 102, 116])))) (mNil)))
noncomputable def F__law_read : List AV → Store → Res AV := mFn 1 [] 7 m__law_read
noncomputable def b__law_multiples : List Stmt := bodyOf (stAt pwB 78)
noncomputable def s__law_multiples : Scope := scOf (stAt pwB 78)
noncomputable def m__law_multiples : MS := mSeq (mSetTup [1, 2, 3, 4, 5] (mOp2 oItem (mCall F__law_rows []) (mCall F__law_take [mLoc 0, mVal (.int 8)]))) (mSeq (mSet 6 (mCall F__law_great [mLoc 0, mOp2 oAdd (mLoc 5) (mVal (.int 1))])) (mSeq (mSet 7 (mCall F__law_read [mOp2 oAdd (mCall F_str [mOp2 oMul (mLoc 1) (mLoc 6)]) (mLoc 2)])) (mSeq (mRet (mAnd (mOp2 oEq (mLoc 7) (mCall F__law_read [mOp2 oAdd (mCall F_str [mOp2 oMul (mLoc 3) (mLoc 6)]) (mLoc 4)])) (mAnd (mOp2 oNe (mLoc 7) (mVal (.str [111, 118, 101, 114]))) (mOp2 oNe (mLoc 7) (mVal (.str [108, 101, 102, 116])))))) (mNil))))
noncomputable def F__law_multiples : List AV → Store → Res AV := mFn 1 [] 12 m__law_multiples
noncomputable def b__law_decimal : List Stmt := bodyOf (stAt pwB 79)
noncomputable def s__law_decimal : Scope := scOf (stAt pwB 79)
noncomputable def m__law_decimal : MS := mSeq (mRet (mOp2 oAdd (mOp2 oAdd (mOp2 oAdd (mCall F_str [mOp2 oDiv (mLoc 0) (mOp2 oPow (mVal (.int 10)) (mLoc 1))]) (mVal (.str [46]))) (mOp1 oStr1 (mCall F_str [mOp2 oAdd (mOp2 oPow (mVal (.int 10)) (mLoc 1)) (mOp2 oMod (mLoc 0) (mOp2 oPow (mVal (.int 10)) (mLoc 1)))]))) (mLoc 2))) (mNil)
noncomputable def F__law_decimal : List AV → Store → Res AV := mFn 3 [] 1 m__law_decimal
noncomputable def b__law_order : List Stmt := bodyOf (stAt pwB 80)
noncomputable def s__law_order : Scope := scOf (stAt pwB 80)
noncomputable def m__law_order : MS := mSeq (mSet 1 (mOp2 oItem (mOp2 oItem (mCall F__law_units []) (mCall F__law_take [mLoc 0, mVal (.int 8)])) (mVal (.int 0)))) (mSeq (mSetTupR [3, 2] (mTup [mOp2 oAdd (mVal (.int 1)) (mCall F__law_take [mLoc 0, mVal (.int 6)]), mCall F__law_great [mLoc 0, mVal (.int 10000)]])) (mSeq (mSet 4 (mOp2 oAdd (mLoc 3) (mOp2 oItem (mList [mVal (.int 0), mVal (.int 1), mOp2 oSub (mOp2 oPow (mVal (.int 10)) (mLoc 2)) (mVal (.int 1)), mOp2 oPow (mVal (.int 10)) (mLoc 2), mOp2 oAdd (mOp2 oPow (mVal (.int 10)) (mLoc 2)) (mVal (.int 1)), mCall F__law_take [mLoc 0, mVal (.int 100)]]) (mCall F__law_take [mLoc 0, mVal (.int 6)])))) (mSeq (mSet 5 (mOp2 oMod (mLoc 3) (mOp2 oMul (mVal (.int 200)) (mOp2 oPow (mVal (.int 10)) (mLoc 2))))) (mSeq (mSetTupR [7, 6] (mTup [mCall F__law_read [mCall F__law_decimal [mLoc 5, mLoc 2, mLoc 1]], mCall F__law_read [mCall F__law_decimal [mOp2 oSub (mOp2 oAdd (mLoc 5) (mLoc 4)) (mLoc 3), mLoc 2, mLoc 1]]])) (mSeq (mIfS (mOr (mOp2 oIn (mLoc 6) (mList [mVal (.str [111, 118, 101, 114]), mVal (.str [108, 101, 102, 116])])) (mOp2 oIn (mLoc 7) (mList [mVal (.str [111, 118, 101, 114]), mVal (.str [108, 101, 102, 116])]))) (mSeq (mRet (mVal (.bool false))) (mNil)) (mNil)) (mSeq (mRet (mAnd (mOp2 oLe (mLoc 6) (mLoc 7)) (mOr (mOp2 oLt (mOp2 oSub (mLoc 4) (mLoc 3)) (mOp2 oPow (mVal (.int 10)) (mLoc 2))) (mOp2 oGe (mOp2 oSub (mLoc 7) (mLoc 6)) (mVal (.int 65536)))))) (mNil)))))))
noncomputable def F__law_order : List AV → Store → Res AV := mFn 1 [] 12 m__law_order
noncomputable def b__law_sums : List Stmt := bodyOf (stAt pwB 81)
noncomputable def s__law_sums : Scope := scOf (stAt pwB 81)
noncomputable def m__law_sums : MS := mSeq (mSetC 1 (mOp2 oItem (mListAdd (mList [mVal (.str [115, 112]), mVal (.str [101, 109]), mVal (.str [101, 120])]) (mComp (eOp2 oItem (fun _ v σ => .ok v σ) (fun _ _ σ => .ok (.int 0) σ)) (mCall F__law_units []))) (mCall F__law_take [mLoc 0, mVal (.int 11)]))) (mSeq (mSetTupR [3, 2] (mTup [mCall F__law_take [mLoc 0, mVal (.int 100)], mCall F__law_take [mLoc 0, mVal (.int 100)]])) (mSeq (mGuard gdName (mSet 4 (mComp (eCall F__law_read (eOp2 oAdd (eCall F_str (fun _ v σ => .ok v σ)) (fun ρ _ σ => mLocC 1 ρ σ))) (mList [mLoc 2, mLoc 3, mOp2 oAdd (mLoc 2) (mLoc 3)])))) (mSeq (mIfS (mOr (mOp2 oIn (mVal (.str [111, 118, 101, 114])) (mLoc 4)) (mOp2 oIn (mVal (.str [108, 101, 102, 116])) (mLoc 4))) (mSeq (mRet (mVal (.bool false))) (mNil)) (mNil)) (mSeq (mRet (mChain oLe oLe (mVal (.int 0)) (mOp2 oSub (mOp2 oSub (mOp2 oItem (mLoc 4) (mVal (.int 2))) (mOp2 oItem (mLoc 4) (mVal (.int 0)))) (mOp2 oItem (mLoc 4) (mVal (.int 1)))) (mCall F_int [mOp2 oNotIn (mLocC 1) (mList [mVal (.str [115, 112]), mVal (.str [101, 109]), mVal (.str [101, 120]), mVal (.str [112, 116]), mVal (.str [112, 99])])]))) (mNil)))))
noncomputable def F__law_sums : List AV → Store → Res AV := mFnC 6 m__law_sums
noncomputable def b__law_ways : List Stmt := bodyOf (stAt pwB 82)
noncomputable def s__law_ways : Scope := scOf (stAt pwB 82)
noncomputable def m__law_ways : MS := mSeq (mSet 1 (mOp2 oItem (mOp2 oItem (mCall F__law_units []) (mCall F__law_take [mLoc 0, mVal (.int 8)])) (mVal (.int 0)))) (mSeq (mSetTupR [3, 2] (mTup [mCall F_str [mCall F__law_take [mLoc 0, mVal (.int 100)]], mOp1 oStr1 (mCall F_str [mOp2 oAdd (mVal (.int 100)) (mCall F__law_take [mLoc 0, mVal (.int 100)])])])) (mSeq (mSet 4 (mCall F__law_read [mOp2 oAdd (mOp2 oAdd (mOp2 oAdd (mLoc 2) (mVal (.str [46]))) (mLoc 3)) (mLoc 1)])) (mSeq (mSet 5 (mList [mTup [mOp2 oAdd (mOp2 oAdd (mOp2 oAdd (mOp2 oAdd (mVal (.str [45])) (mLoc 2)) (mVal (.str [46]))) (mLoc 3)) (mLoc 1), mOp1 oNeg (mVal (.int 1))], mTup [mOp2 oAdd (mOp2 oAdd (mOp2 oAdd (mOp2 oAdd (mOp2 oAdd (mOp2 oAdd (mVal (.str [45, 32, 43, 32, 45])) (mLoc 2)) (mVal (.str [44]))) (mLoc 3)) (mVal (.str [32]))) (mLoc 1)) (mVal (.str [32])), mVal (.int 1)], mTup [mOp2 oAdd (mOp2 oAdd (mOp2 oAdd (mOp2 oAdd (mOp2 oAdd (mVal (.str [48, 48, 48])) (mLoc 2)) (mVal (.str [46]))) (mLoc 3)) (mVal (.str [48, 48, 48, 48]))) (mLoc 1), mVal (.int 1)], mTup [mOp2 oAdd (mOp2 oAdd (mOp2 oAdd (mOp2 oAdd (mOp2 oAdd (mVal (.str [32])) (mLoc 2)) (mVal (.str [46]))) (mLoc 3)) (mVal (.str [32, 32]))) (mJoin (mComp (eCall F_chr (eOp2 oSub (eCall F_ord (fun _ v σ => .ok v σ)) (fun _ _ σ => .ok (.int 32) σ))) (mLoc 1))), mVal (.int 1)], mTup [mOp2 oAdd (mOp2 oAdd (mOp2 oAdd (mOp2 oAdd (mOp2 oAdd (mVal (.str [43])) (mLoc 2)) (mVal (.str [44]))) (mLoc 3)) (mOp2 oMul (mVal (.str [48])) (mVal (.int 20)))) (mLoc 1), mVal (.int 1)]])) (mSeq (mIfS (mOp2 oIn (mLoc 4) (mList [mVal (.str [111, 118, 101, 114]), mVal (.str [108, 101, 102, 116])])) (mSeq (mRet (mVal (.bool false))) (mNil)) (mNil)) (mSeq (mForR (tgName 6) (mSeq (mSetTup [7, 8] (mOp2 oItem (mLoc 5) (mCall F__law_take [mLoc 0, mVal (.int 5)]))) (mSeq (mIfS (mOp2 oNe (mCall F__law_read [mLoc 7]) (mOp2 oMul (mLoc 8) (mLoc 4))) (mSeq (mRet (mVal (.bool false))) (mNil)) (mNil)) (mNil))) (mVal (.int 2))) (mSeq (mRet (mVal (.bool true))) (mNil)))))))
noncomputable def F__law_ways : List AV → Store → Res AV := mFn 1 [] 13 m__law_ways
noncomputable def b__law_bounds : List Stmt := bodyOf (stAt pwB 83)
noncomputable def s__law_bounds : Scope := scOf (stAt pwB 83)
noncomputable def m__law_bounds : MS := mSeq (mSet 1 (mCall F__law_take [mLoc 0, mVal (.int 10)])) (mSeq (mIfS (mOp2 oGt (mLoc 1) (mVal (.int 7))) (mSeq (mSetTup [2, 3] (mOp2 oItem (mList [mTup [mVal (.str [115, 112]), mOp2 oSub (mOp2 oPow (mVal (.int 2)) (mVal (.int 30))) (mVal (.int 1))], mTup [mVal (.str [101, 109]), mOp2 oDiv (mOp2 oSub (mOp2 oPow (mVal (.int 2)) (mVal (.int 30))) (mVal (.int 1))) (mVal (.int 655361))]]) (mOp2 oSub (mLoc 1) (mVal (.int 8))))) (mSeq (mSet 4 (mIf (mOp2 oEq (mLoc 1) (mVal (.int 8))) (mLoc 3) (mOp2 oMul (mLoc 3) (mVal (.int 655361))))) (mNil))) (mSeq (mSetTup [2, 5, 6] (mOp2 oItem (mCall F__law_units []) (mLoc 1))) (mSeq (mSet 3 (mOp2 oDiv (mOp2 oSub (mOp2 oMul (mVal (.int 16384)) (mLoc 6)) (mVal (.int 1))) (mLoc 5))) (mSeq (mSet 4 (mOp2 oDiv (mOp2 oMul (mOp2 oMul (mVal (.int 65536)) (mLoc 3)) (mLoc 5)) (mLoc 6))) (mNil))))) (mSeq (mRet (mAnd (mOp2 oEq (mCall F__law_read [mOp2 oAdd (mCall F_str [mLoc 3]) (mLoc 2)]) (mLoc 4)) (mOp2 oEq (mCall F__law_read [mOp2 oAdd (mCall F_str [mOp2 oAdd (mLoc 3) (mVal (.int 1))]) (mLoc 2)]) (mVal (.str [111, 118, 101, 114]))))) (mNil)))
noncomputable def F__law_bounds : List AV → Store → Res AV := mFn 1 [] 10 m__law_bounds
noncomputable def b__law_part : List Stmt := bodyOf (stAt pwB 84)
noncomputable def s__law_part : Scope := scOf (stAt pwB 84)
noncomputable def m__law_part : MS := mSeq (mSetTupR [3, 2, 1] (mTup [mCall F__law_great [mLoc 0, mVal (.int 16383)], mCall F__law_great [mLoc 0, mVal (.int 10000)], mCall F__law_take [mLoc 0, mVal (.int 16)]])) (mSeq (mSet 4 (mOp1 oStr1 (mCall F_str [mOp2 oAdd (mVal (.int 10000)) (mLoc 2)]))) (mSeq (mSet 5 (mCall F__law_read [mOp2 oAdd (mOp2 oAdd (mVal (.str [48, 46])) (mLoc 4)) (mVal (.str [112, 116]))])) (mSeq (mIfS (mOr (mOp2 oEq (mLoc 5) (mVal (.str [111, 118, 101, 114]))) (mOr (mOp2 oEq (mLoc 5) (mVal (.str [108, 101, 102, 116]))) (mOp2 oNe (mCall F__law_read [mOp2 oAdd (mOp2 oAdd (mVal (.str [46])) (mLoc 4)) (mVal (.str [112, 116]))]) (mLoc 5)))) (mSeq (mRet (mVal (.bool false))) (mNil)) (mNil)) (mSeq (mIfS (mOp2 oNe (mCall F__law_read [mOp2 oAdd (mOp2 oAdd (mOp2 oAdd (mCall F_str [mLoc 1]) (mVal (.str [46]))) (mLoc 4)) (mVal (.str [112, 116]))]) (mOp2 oAdd (mOp2 oMul (mVal (.int 65536)) (mLoc 1)) (mLoc 5))) (mSeq (mRet (mVal (.bool false))) (mNil)) (mNil)) (mSeq (mRet (mOp2 oEq (mCall F__law_read [mOp2 oAdd (mOp2 oAdd (mOp2 oAdd (mCall F_str [mLoc 1]) (mVal (.str [46]))) (mOp1 oStr1 (mCall F_str [mOp2 oAdd (mVal (.int 10000)) (mOp2 oMul (mVal (.int 625)) (mLoc 3))]))) (mVal (.str [112, 116]))]) (mOp2 oAdd (mOp2 oMul (mVal (.int 65536)) (mLoc 1)) (mOp2 oMul (mVal (.int 4096)) (mLoc 3))))) (mNil))))))
noncomputable def F__law_part : List AV → Store → Res AV := mFn 1 [] 9 m__law_part
noncomputable def b__law_scaled : List Stmt := bodyOf (stAt pwB 85)
noncomputable def s__law_scaled : Scope := scOf (stAt pwB 85)
noncomputable def m__law_scaled : MS := mSeq (mSetTupR [2, 1] (mTup [mCall F__law_great [mLoc 0, mVal (.int 10000)], mCall F__law_take [mLoc 0, mVal (.int 100)]])) (mSeq (mSet 3 (mOp2 oItem (mList [mVal (.str [46]), mVal (.str [44]), mVal (.str [46, 57]), mOp2 oAdd (mVal (.str [46])) (mCall F_str [mLoc 2]), mVal (.str [])]) (mCall F__law_take [mLoc 0, mVal (.int 5)]))) (mSeq (mRet (mAnd (mOp2 oEq (mCall F__law_read [mOp2 oAdd (mOp2 oAdd (mCall F_str [mLoc 1]) (mLoc 3)) (mVal (.str [115, 112]))]) (mLoc 1)) (mOp2 oEq (mCall F__law_read [mOp2 oAdd (mCall F_str [mLoc 1]) (mVal (.str [46, 112, 116]))]) (mOp2 oMul (mVal (.int 65536)) (mLoc 1))))) (mNil)))
noncomputable def F__law_scaled : List AV → Store → Res AV := mFn 1 [] 7 m__law_scaled
noncomputable def b_law : List Stmt := bodyOf (stAt pwB 86)
noncomputable def s_law : Scope := scOf (stAt pwB 86)
noncomputable def m_law (sa : Nat) (is : List Int) : MS := mSeq (mSet 1 (mCall (F__law_pool sa is) [mLoc 0])) (mSeq (mForR (tgName 2) (mSeq (mSet 3 (mCall F__law_take [mLoc 1, mVal (.int 7)])) (mSeq (mIfS (mAnd (mOp2 oEq (mLoc 3) (mVal (.int 0))) (mNot (mCall F__law_multiples [mLoc 1]))) (mSeq (mRet (mVal (.bool false))) (mNil)) (mNil)) (mSeq (mIfS (mAnd (mOp2 oEq (mLoc 3) (mVal (.int 1))) (mNot (mCall F__law_order [mLoc 1]))) (mSeq (mRet (mVal (.bool false))) (mNil)) (mNil)) (mSeq (mIfS (mAnd (mOp2 oEq (mLoc 3) (mVal (.int 2))) (mNot (mCall F__law_sums [mLoc 1]))) (mSeq (mRet (mVal (.bool false))) (mNil)) (mNil)) (mSeq (mIfS (mAnd (mOp2 oEq (mLoc 3) (mVal (.int 3))) (mNot (mCall F__law_ways [mLoc 1]))) (mSeq (mRet (mVal (.bool false))) (mNil)) (mNil)) (mSeq (mIfS (mAnd (mOp2 oEq (mLoc 3) (mVal (.int 4))) (mNot (mCall F__law_bounds [mLoc 1]))) (mSeq (mRet (mVal (.bool false))) (mNil)) (mNil)) (mSeq (mIfS (mAnd (mOp2 oEq (mLoc 3) (mVal (.int 5))) (mNot (mCall F__law_part [mLoc 1]))) (mSeq (mRet (mVal (.bool false))) (mNil)) (mNil)) (mSeq (mIfS (mAnd (mOp2 oEq (mLoc 3) (mVal (.int 6))) (mNot (mCall F__law_scaled [mLoc 1]))) (mSeq (mRet (mVal (.bool false))) (mNil)) (mNil)) (mNil))))))))) (mOp2 oAdd (mVal (.int 4)) (mIf (mOp2 oGt (mCall (F_len sa is.length) [mLoc 0]) (mVal (.int 1))) (mCall F__law_take [mLoc 1, mVal (.int 5)]) (mVal (.int 0))))) (mSeq (mRet (mVal (.bool true))) (mNil)))
noncomputable def F_law (sa : Nat) (is : List Int) : List AV → Store → Res AV := mFn 1 [] 14 (m_law sa is)

/- G2 -/
noncomputable def intG : List (Str × Int) := ("ACTIVE", 13) :: ("BEGIN", 1) :: ("CONTROL", 0) :: ("EM_SIZE", 6) :: ("END", 2) :: ("END_OF_INPUT", 99) :: ("EX_SIZE", 5) :: ("FROZEN", 14) :: ("LETTER_tokens", 11) :: ("MATCH", 9) :: ("MAX_DIMEN", 1073741823) :: ("MAX_NUMBER", 2147483647) :: ("MOST_DIGITS", 17) :: ("NAMED_REGISTER", 77) :: ("NORMAL", 0) :: ("NOT_EXPANDED", 15) :: ("OTHER", 12) :: ("OUT", 5) :: ("RELAX", 0) :: ("RELAX_VALUE", 256) :: ("SPACER", 10) :: ("UNITY", 65536) :: []
noncomputable def refG : List (Str × Nat) := ("PlainSource", 544) :: ("_law_bounds", 626) :: ("_law_decimal", 602) :: ("_law_great", 583) :: ("_law_multiples", 595) :: ("_law_order", 609) :: ("_law_part", 633) :: ("_law_pool", 569) :: ("_law_read", 588) :: ("_law_rows", 555) :: ("_law_scaled", 640) :: ("_law_sums", 614) :: ("_law_take", 576) :: ("_law_units", 562) :: ("_law_ways", 619) :: ("attached", 434) :: ("check_dimen", 142) :: ("check_whole", 128) :: ("converted", 441) :: ("decimals", 413) :: ("digit_of", 385) :: ("dimen", 477) :: ("factor", 420) :: ("fraction", 191) :: ("from_decimals", 156) :: ("is_token", 305) :: ("is_whole", 121) :: ("keyword", 364) :: ("measured", 448) :: ("number_parts", 406) :: ("optional_blank", 350) :: ("over_scaled", 184) :: ("reading", 163) :: ("signs", 371) :: ("skip_blanks", 343) :: ("spells", 357) :: ("times_scaled", 177) :: ("units", 198) :: ("unread", 336) :: ("with_unit", 469) :: ("written_number", 399) :: ("written_unit", 455) :: []
noncomputable def keepG : List Nat := 544 :: 626 :: 602 :: 583 :: 595 :: 609 :: 633 :: 569 :: 588 :: 555 :: 640 :: 614 :: 576 :: 562 :: 619 :: 434 :: 142 :: 128 :: 441 :: 413 :: 385 :: 477 :: 420 :: 191 :: 156 :: 305 :: 121 :: 364 :: 448 :: 406 :: 350 :: 184 :: 163 :: 371 :: 343 :: 357 :: 177 :: 198 :: 336 :: 469 :: 399 :: 455 :: []
noncomputable def nsInt (K : Frag) (x : Str) (a : Int) : Bool := match nsIn K mainGlobals x with
  | some (some (.int b _)) => b == a
  | _ => false
noncomputable def nsRef (K : Frag) (x : Str) (a : Nat) : Bool := match nsIn K mainGlobals x with
  | some (some (.ref b)) => b == a
  | _ => false
theorem nsInt_inv {K : Frag} {x : Str} {a : Int} (h : nsInt K x a = true) : ∃ t, nsIn K mainGlobals x = some (some (.int a t)) := by
  unfold nsInt at h
  split at h
  · rename_i b t e
    exact ⟨t, (beq_iff_eq.mp h) ▸ e⟩
  · cases h
theorem nsRef_inv {K : Frag} {x : Str} {a : Nat} (h : nsRef K x a = true) : nsIn K mainGlobals x = some (some (.ref a)) := by
  unfold nsRef at h
  split at h
  · rename_i b e
    exact (beq_iff_eq.mp h) ▸ e
  · cases h
structure KF (c : Cx) (sa : Nat) (is : List Int) : Prop where
  gI : intG.all (fun p => nsInt c.K p.1 p.2) = true
  gR : refG.all (fun p => nsRef c.K p.1 p.2) = true
  kA : keepG.all (fun a => keepIn c.K (.ref a)) = true
  i_is_whole : FnIs c 121 3 "is_whole" (.ref 120) ["value", "low", "high"] 3 [] [] b_is_whole s_is_whole
  i_check_whole : FnIs c 128 1 "check_whole" (.ref 127) ["value"] 4 [] [] b_check_whole s_check_whole
  i_check_dimen : FnIs c 142 1 "check_dimen" (.ref 141) ["value"] 3 [] [] b_check_dimen s_check_dimen
  i_reading : FnIs c 163 2 "reading" (.ref 162) ["whole", "scale"] 1 [] [] b_reading s_reading
  i_from_decimals : FnIs c 156 1 "from_decimals" (.ref 155) ["digits"] 7 [] [] b_from_decimals s_from_decimals
  i_times : FnIs c 177 3 "times" (.ref 176) ["count", "value", "more"] 2 [] [] b_times s_times
  i_over : FnIs c 184 2 "over" (.ref 183) ["value", "by"] 6 [] [] b_over s_over
  i_fraction : FnIs c 191 3 "fraction" (.ref 190) ["value", "up", "down"] 8 [] [] b_fraction s_fraction
  i_units : FnIs c 198 0 "units" (.ref 197) [] 0 [] [] b_units s_units
  i_is_token : FnIs c 305 1 "is_token" (.ref 304) ["token"] 6 [] [] b_is_token s_is_token
  i_read : FnIs c 506 1 "PlainSource.read" (.ref 505) ["self"] 11 [] [] b_read s_read
  i_read_expanded : FnIs c 513 1 "PlainSource.read_expanded" (.ref 512) ["self"] 0 [] [] b_read_expanded s_read_expanded
  i_back : FnIs c 520 2 "PlainSource.back" (.ref 519) ["self", "token"] 8 [] [] b_back s_back
  i_left : FnIs c 527 1 "PlainSource.left" (.ref 526) ["self"] 0 [] [] b_left s_left
  i_quantity : FnIs c 534 3 "PlainSource.quantity" (.ref 533) ["self", "command", "value"] 1 [] [] b_quantity s_quantity
  i_font_size : FnIs c 541 2 "PlainSource.font_size" (.ref 540) ["self", "number_of_size"] 1 [] [] b_font_size s_font_size
  i___init__ : FnIs c 499 6 "PlainSource.__init__" (.ref 498) ["self", "tokens", "inner", "names", "ex", "em"] 12 [] [] b___init__ s___init__
  i_unread : FnIs c 336 2 "unread" (.ref 335) ["source", "found"] 0 [] [] b_unread s_unread
  i_skip_blanks : FnIs c 343 1 "skip_blanks" (.ref 342) ["source"] 2 [] [] b_skip_blanks s_skip_blanks
  i_optional_blank : FnIs c 350 1 "optional_blank" (.ref 349) ["source"] 3 [] [] b_optional_blank s_optional_blank
  i_spells : FnIs c 357 2 "spells" (.ref 356) ["token", "mark"] 1 [] [] b_spells s_spells
  i_keyword : FnIs c 364 2 "keyword" (.ref 363) ["source", "word"] 7 [] [] b_keyword s_keyword
  i_signs : FnIs c 371 1 "signs" (.ref 370) ["source"] 5 [] [] b_signs s_signs
  i_digit_of : FnIs c 385 2 "digit_of" (.ref 384) ["token", "base"] 5 [] [] b_digit_of s_digit_of
  i_written_number : FnIs c 399 2 "written_number" (.ref 398) ["source", "found"] 8 [] [] b_written_number s_written_number
  i_number_parts : FnIs c 406 1 "number_parts" (.ref 405) ["source"] 12 [] [] b_number_parts s_number_parts
  i_decimals : FnIs c 413 1 "decimals" (.ref 412) ["source"] 9 [] [] b_decimals s_decimals
  i_factor : FnIs c 420 2 "factor" (.ref 419) ["source", "found"] 9 [] [] b_factor s_factor
  i_attached : FnIs c 434 2 "attached" (.ref 433) ["points", "part"] 2 [] [] b_attached s_attached
  i_converted : FnIs c 441 4 "converted" (.ref 440) ["whole", "part", "up", "down"] 5 [] [] b_converted s_converted
  i_measured : FnIs c 448 3 "measured" (.ref 447) ["whole", "part", "size"] 3 [] [] b_measured s_measured
  i_written_unit : FnIs c 455 4 "written_unit" (.ref 454) ["source", "whole", "part", "is_mu"] 12 [] [] b_written_unit s_written_unit
  i_with_unit : FnIs c 469 6 "with_unit" (.ref 468) ["source", "whole", "part", "is_negative", "is_mu", "with_fil"] 13 [] [] b_with_unit s_with_unit
  i_dimen : FnIs c 477 1 "dimen" (.ref 476) ["source", "is_mu", "with_fil"] 17 [.bool false, .bool false] [.bool false, .bool false] b_dimen s_dimen
  i__law_rows : FnIs c 555 0 "_law_rows" (.ref 554) [] 0 [] [] b__law_rows s__law_rows
  i__law_units : FnIs c 562 0 "_law_units" (.ref 561) [] 0 [] [] b__law_units s__law_units
  i__law_pool : FnIs c 569 1 "_law_pool" (.ref 568) ["script"] 4 [] [] b__law_pool s__law_pool
  i__law_take : FnIs c 576 2 "_law_take" (.ref 575) ["pool", "many"] 1 [] [] b__law_take s__law_take
  i__law_great : FnIs c 583 2 "_law_great" (.ref 582) ["pool", "many"] 2 [] [] b__law_great s__law_great
  i__law_read : FnIs c 588 1 "_law_read" (.ref 587) ["words"] 7 [] [] b__law_read s__law_read
  i__law_multiples : FnIs c 595 1 "_law_multiples" (.ref 594) ["pool"] 12 [] [] b__law_multiples s__law_multiples
  i__law_decimal : FnIs c 602 3 "_law_decimal" (.ref 601) ["whole", "count", "unit"] 1 [] [] b__law_decimal s__law_decimal
  i__law_order : FnIs c 609 1 "_law_order" (.ref 608) ["pool"] 12 [] [] b__law_order s__law_order
  i__law_sums : FnIsC c 614 "_law_sums" (.ref 613) "pool" "name" 6 b__law_sums s__law_sums
  i__law_ways : FnIs c 619 1 "_law_ways" (.ref 618) ["pool"] 13 [] [] b__law_ways s__law_ways
  i__law_bounds : FnIs c 626 1 "_law_bounds" (.ref 625) ["pool"] 10 [] [] b__law_bounds s__law_bounds
  i__law_part : FnIs c 633 1 "_law_part" (.ref 632) ["pool"] 9 [] [] b__law_part s__law_part
  i__law_scaled : FnIs c 640 1 "_law_scaled" (.ref 639) ["pool"] 7 [] [] b__law_scaled s__law_scaled
  i_law : FnIs c 647 1 "law" (.ref 646) ["script"] 14 [] [] b_law s_law
  g_BACK_QUOTE : GV c "BACK_QUOTE" (V_BACK_QUOTE)
  g_COMMA : GV c "COMMA" (V_COMMA)
  g_GREATEST_CODES : GV c "GREATEST_CODES" (V_GREATEST_CODES)
  g_HEXADECIMAL_MARK : GV c "HEXADECIMAL_MARK" (V_HEXADECIMAL_MARK)
  g_LEAST_CODES : GV c "LEAST_CODES" (V_LEAST_CODES)
  g_MINUS : GV c "MINUS" (V_MINUS)
  g_OCTAL_MARK : GV c "OCTAL_MARK" (V_OCTAL_MARK)
  g_PLUS : GV c "PLUS" (V_PLUS)
  g_POINT : GV c "POINT" (V_POINT)
  b_abs : BV c "abs" (.builtin "abs")
  b_bool : BV c "bool" (.type "bool")
  b_chr : BV c "chr" (.builtin "chr")
  b_divmod : BV c "divmod" (.builtin "divmod")
  b_int : BV c "int" (.type "int")
  b_isinstance : BV c "isinstance" (.builtin "isinstance")
  b_len : BV c "len" (.builtin "len")
  b_list : BV c "list" (.type "list")
  b_min : BV c "min" (.builtin "min")
  b_ord : BV c "ord" (.builtin "ord")
  b_range : BV c "range" (.type "range")
  b_str : BV c "str" (.type "str")
  b_tuple : BV c "tuple" (.type "tuple")
  v__law_read : nsIn c.K mainGlobals "_law_read" = some (some (.ref 588))
  v_Overflow : nsIn c.K mainGlobals "Overflow" = some (some (.ref 108))
  kts : ktsIn c.K 108 "BaseException" = true
  a_rest : AttrOk c 544 "rest"
  a_sizes : AttrOk c 544 "sizes"
  a_inner : AttrOk c 544 "inner"
  p_rest : PutOk c 544 "rest"
  p_sizes : PutOk c 544 "sizes"
  p_inner : PutOk c 544 "inner"
  p_names : PutOk c 544 "names"
  p_balance : PutOk c 544 "balance"
  a_balance : AttrOk c 544 "balance"
  m_read : MethOk c 544 "read" 506
  m_read_expanded : MethOk c 544 "read_expanded" 513
  m_back : MethOk c 544 "back" 520
  m_left : MethOk c 544 "left" 527
  m_quantity : MethOk c 544 "quantity" 534
  m_font_size : MethOk c 544 "font_size" 541
  overflow : ExcOk c "Overflow" 108 56 "PageError.__init__" (.ref 55) s_exc e_p1 e_p2 e_p3 e_p4
  make : makesIn c.K 544 = true
  initf : findIn c.K (.ref 544) "__init__" = some (some (.ref 499))
  fninit : isFn c.K (.ref 499) = true
  scr : ∃ (o : Obj) (vs : Array Value) (k : Nat), c.K.lookup sa = some o ∧ o.cls = .type "list" ∧ o.data = .seq vs k ∧ vs.size = is.length
  scr2 : ∃ (o : Obj) (vs : List Value) (j : Nat), c.K.lookup sa = some o ∧ o.cls = .type "list" ∧ o.data = .seq vs.toArray j ∧ (∀ W, RVs c W (scriptAV is) vs) ∧ vs.length ≤ 1000

theorem KF.gi {c : Cx} {sa : Nat} {is : List Int} (H : KF c sa is) (i : Nat) {x : Str} {a : Int} (h : intG[i]? = some (x, a)) : GV c x (.int a) :=
  let ⟨t, e⟩ := nsInt_inv (List.all_eq_true.mp H.gI _ (List.mem_of_getElem? h))
  ⟨_, e, fun _ => .int _ t⟩
theorem KF.gr {c : Cx} {sa : Nat} {is : List Int} (H : KF c sa is) (i : Nat) {x : Str} {a : Nat} (h : refG[i]? = some (x, a)) : GV c x (.lit (.ref a)) :=
  ⟨_, nsRef_inv (List.all_eq_true.mp H.gR _ (List.mem_of_getElem? h)), fun _ => .lit _⟩
theorem KF.kp {c : Cx} {sa : Nat} {is : List Int} (H : KF c sa is) (i : Nat) {a : Nat} (h : keepG[i]? = some a) : keepIn c.K (.ref a) = true :=
  List.all_eq_true.mp H.kA _ (List.mem_of_getElem? h)

theorem simT_stuck {c : Cx} {n : Nat} {tn : Bool} {sc : Scope} {e : Expr} : SimT c n tn sc e (mTr mStuck) := fun f g₀ ρ σ W s hc hf hs hg => hg.elim
theorem simB_stuckS {c : Cx} {n : Nat} {tn : Bool} {sc : Scope} {l : List Stmt} : SimB c n tn sc l mStuckS := fun f g₀ ρ σ W s hc hf hs hg => hg.elim
theorem clName_clos {scope sc : Scope} (f : Fm) (hn : scope.names = [((".0" : Str), NameKind.local), ("whole", .local), ("_law_read", .globalImplicit), ("str", .globalImplicit), ("name", .free)]) (h : WxName f) : closureFor scope (f.env sc) = pure (clName f) := by
  obtain ⟨a, h⟩ := h
  unfold closureFor clName
  rw [hn]
  have hc : cellOf (f.env sc) "name" = pure a := by
    unfold cellOf
    show (match f.cl.lookup ("name" : Str) with | some a => pure a | none => _) = _
    rw [h]
  simp [hc, h]
theorem WxName_of {c : Cx} {f : Fm} {g₀ : Heap} {sc : Scope} {ρ : Loc} {σ : Store} {W : Wd} {s : Shared} {i : Nat} (hy : sc.names[1]? = some (("name" : Str), NameKind.cell)) (hs : St c f true g₀ sc.names ρ σ W s) (h : gdName ρ = true) : WxName f := by
  obtain ⟨g, m, G⟩ := hs
  unfold gdName at h
  split at h
  · rename_i v hv
    obtain ⟨V, _, h2, _⟩ := G.R 1 _ _ v hy hv
    obtain ⟨a, h3, _⟩ := h2 rfl
    exact ⟨a, h3⟩
  · cases h
section
variable {c : Cx} {sa : Nat} {is : List Int}
theorem sim_is_whole_ {tn : Bool} (H : KF c sa is) : SimB c 0 tn s_is_whole b_is_whole m_is_whole := by
 refine simB_cons ?_ ?_
 ·refine sim_ret ?_
  ·refine sim_and ?_ ?_
   ·refine @sim_call _ _ _ _ _ _ _ _ _ _ _ _ (by rfl) ?_ (keep_blt _) fn_isi (by decide) ?_
    ·exact @sim_blt _ _ _ _ _ _ _ H.b_isinstance (fun _ => by rfl) (by rfl)
    ·refine sim_cons (hn := by rfl) ?_ ?_
     ·exact @sim_loc _ _ _ _ _ _ _ (by rfl) (fun _ => by rfl) (by rfl)
     ·refine sim_cons (hn := by rfl) ?_ ?_
      ·exact @sim_blt _ _ _ _ _ _ _ H.b_int (fun _ => by rfl) (by rfl)
      ·exact sim_nil
   ·refine sim_and ?_ ?_
    ·refine sim_not ?_
     ·refine @sim_call _ _ _ _ _ _ _ _ _ _ _ _ (by rfl) ?_ (keep_blt _) fn_isi (by decide) ?_
      ·exact @sim_blt _ _ _ _ _ _ _ H.b_isinstance (fun _ => by rfl) (by rfl)
      ·refine sim_cons (hn := by rfl) ?_ ?_
       ·exact @sim_loc _ _ _ _ _ _ _ (by rfl) (fun _ => by rfl) (by rfl)
       ·refine sim_cons (hn := by rfl) ?_ ?_
        ·exact @sim_blt _ _ _ _ _ _ _ H.b_bool (fun _ => by rfl) (by rfl)
        ·exact sim_nil
    ·refine sim_and1 ?_
     ·refine @sim_chain _ _ _ _ _ _ _ _ _ _ _ _ _ _ _ ?_ ?_ ?_ p_le p_le (by rfl)
      ·exact @sim_loc _ _ _ _ _ _ _ (by rfl) (fun _ => by rfl) (by rfl)
      ·exact @sim_loc _ _ _ _ _ _ _ (by rfl) (fun _ => by rfl) (by rfl)
      ·exact @sim_loc _ _ _ _ _ _ _ (by rfl) (fun _ => by rfl) (by rfl)
 ·exact simB_nil
theorem fn_is_whole {tn : Bool} (H : KF c sa is) : FnV c 1 tn (.ref 121) F_is_whole := @FnIs.fn _ _ _ _ _ _ _ _ _ _ _ _ _ _ H.i_is_whole (@sim_is_whole_ _ _ _ _ H)
theorem sim_check_whole_ {tn : Bool} (H : KF c sa is) : SimB c 0 tn s_check_whole b_check_whole m_check_whole := by
 refine simB_cons ?_ ?_
 ·refine sim_if ?_ ?_ ?_
  ·refine simT_or ?_ ?_
   ·refine simT_not ?_
    ·refine @simT_plain _ _ _ _ _ _ ?_ (fun _ => by rfl)
     ·refine @sim_call _ _ _ _ _ _ _ _ _ _ _ _ (by rfl) ?_ (keep_blt _) fn_isi (by decide) ?_
      ·exact @sim_blt _ _ _ _ _ _ _ H.b_isinstance (fun _ => by rfl) (by rfl)
      ·refine sim_cons (hn := by rfl) ?_ ?_
       ·exact @sim_loc _ _ _ _ _ _ _ (by rfl) (fun _ => by rfl) (by rfl)
       ·refine sim_cons (hn := by rfl) ?_ ?_
        ·exact @sim_blt _ _ _ _ _ _ _ H.b_int (fun _ => by rfl) (by rfl)
        ·exact sim_nil
   ·refine simT_or1 ?_
    ·refine @simT_plain _ _ _ _ _ _ ?_ (fun _ => by rfl)
     ·refine @sim_call _ _ _ _ _ _ _ _ _ _ _ _ (by rfl) ?_ (keep_blt _) fn_isi (by decide) ?_
      ·exact @sim_blt _ _ _ _ _ _ _ H.b_isinstance (fun _ => by rfl) (by rfl)
      ·refine sim_cons (hn := by rfl) ?_ ?_
       ·exact @sim_loc _ _ _ _ _ _ _ (by rfl) (fun _ => by rfl) (by rfl)
       ·refine sim_cons (hn := by rfl) ?_ ?_
        ·exact @sim_blt _ _ _ _ _ _ _ H.b_bool (fun _ => by rfl) (by rfl)
        ·exact sim_nil
  ·exact simB_stuckS
  ·exact simB_nil
 ·refine simB_cons ?_ ?_
  ·refine sim_ret ?_
   ·exact @sim_loc _ _ _ _ _ _ _ (by rfl) (fun _ => by rfl) (by rfl)
  ·exact simB_nil
theorem fn_check_whole {tn : Bool} (H : KF c sa is) : FnV c 1 tn (.ref 128) F_check_whole := @FnIs.fn _ _ _ _ _ _ _ _ _ _ _ _ _ _ H.i_check_whole (@sim_check_whole_ _ _ _ _ H)
theorem sim_check_dimen_ {tn : Bool} (H : KF c sa is) : SimB c 2 tn s_check_dimen b_check_dimen m_check_dimen := by
 refine simB_cons ?_ ?_
 ·refine sim_if ?_ ?_ ?_
  ·refine simT_not ?_
   ·refine @simT_chain _ _ _ _ _ _ _ _ _ _ _ _ _ _ _ ?_ ?_ ?_ p_le p_le (by rfl)
    ·refine @sim_un _ _ _ _ _ _ _ _ _ ?_ p_neg
     ·exact @sim_glob _ _ _ _ _ _ _ (H.gi 10 rfl) (fun _ => by rfl) (by rfl)
    ·refine @sim_call _ _ _ _ _ _ _ _ _ _ _ _ (by rfl) ?_ (keep_fn (H.kp 17 rfl)) (fn_check_whole H) (by decide) ?_
     ·exact @sim_glob _ _ _ _ _ _ _ (H.gr 17 rfl) (fun _ => by rfl) (by rfl)
     ·refine sim_cons (hn := by rfl) ?_ ?_
      ·exact @sim_loc _ _ _ _ _ _ _ (by rfl) (fun _ => by rfl) (by rfl)
      ·exact sim_nil
    ·exact @sim_glob _ _ _ _ _ _ _ (H.gi 10 rfl) (fun _ => by rfl) (by rfl)
  ·refine simB_cons ?_ ?_
   ·refine @sim_raise (n := 0) (l := [97, 32, 100, 105, 109, 101, 110, 115, 105, 111, 110, 32, 98, 101, 121, 111, 110, 100, 32, 116, 104, 101, 32, 98, 111, 117, 110, 100, 115]) _ _ _ _ _ _ _ _ _ _ _ _ _ H.overflow _ _ _ _ (fun _ => by rfl) (by rfl) (by rfl) ?_
    ·exact sim_str (e := by kernel_rfl)
   ·exact simB_nil
  ·exact simB_nil
 ·refine simB_cons ?_ ?_
  ·refine sim_ret ?_
   ·exact @sim_loc _ _ _ _ _ _ _ (by rfl) (fun _ => by rfl) (by rfl)
  ·exact simB_nil
theorem fn_check_dimen {tn : Bool} (H : KF c sa is) : FnV c 3 tn (.ref 142) F_check_dimen := @FnIs.fn _ _ _ _ _ _ _ _ _ _ _ _ _ _ H.i_check_dimen (@sim_check_dimen_ _ _ _ _ H)
theorem sim_reading_ {tn : Bool} (H : KF c sa is) : SimB c 0 tn s_reading b_reading m_reading := by
 refine simB_cons ?_ ?_
 ·refine sim_ret ?_
  ·refine @sim_bin _ _ _ _ _ _ _ _ _ _ _ ?_ ?_ p_div
   ·refine @sim_bin _ _ _ _ _ _ _ _ _ _ _ ?_ ?_ p_add
    ·refine @sim_bin _ _ _ _ _ _ _ _ _ _ _ ?_ ?_ p_div
     ·refine @sim_bin _ _ _ _ _ _ _ _ _ _ _ ?_ ?_ p_mul
      ·refine @sim_bin _ _ _ _ _ _ _ _ _ _ _ ?_ ?_ p_mul
       ·exact sim_int
       ·exact @sim_glob _ _ _ _ _ _ _ (H.gi 21 rfl) (fun _ => by rfl) (by rfl)
      ·exact @sim_loc _ _ _ _ _ _ _ (by rfl) (fun _ => by rfl) (by rfl)
     ·exact @sim_loc _ _ _ _ _ _ _ (by rfl) (fun _ => by rfl) (by rfl)
    ·exact sim_int
   ·exact sim_int
 ·exact simB_nil
theorem fn_reading {tn : Bool} (H : KF c sa is) : FnV c 1 tn (.ref 163) F_reading := @FnIs.fn _ _ _ _ _ _ _ _ _ _ _ _ _ _ H.i_reading (@sim_reading_ _ _ _ _ H)
theorem sim_from_decimals_ {tn : Bool} (H : KF c sa is) : SimB c 1 tn s_from_decimals b_from_decimals m_from_decimals := by
 refine simB_cons ?_ ?_
 ·refine @sim_setTup _ _ _ _ _ _ _ _ _ _ _ ⟨fun _ => .name ⟨by rfl, fun _ => by rfl⟩ (.name ⟨by rfl, fun _ => by rfl⟩ (.nil)), fun _ => by rfl⟩ ?_ (fun _ => by rfl) (fun _ => by rfl)
  ·refine sim_tup ?_
   ·refine sim_cons (hn := by rfl) ?_ ?_
    ·exact sim_int
    ·refine sim_cons (hn := by rfl) ?_ ?_
     ·exact sim_int
     ·exact sim_nil
 ·refine simB_cons ?_ ?_
  ·refine @sim_forL _ _ _ _ _ _ _ _ _ _ _ ?_ ?_ ?_ (fun _ _ => by rfl)
   ·refine sim_sliceTo ?_ ?_
    ·exact @sim_loc _ _ _ _ _ _ _ (by rfl) (fun _ => by rfl) (by rfl)
    ·exact @sim_glob _ _ _ _ _ _ _ (H.gi 12 rfl) (fun _ => by rfl) (by rfl)
   ·exact @tgt_name _ _ _ _ _ _ _ ⟨by rfl, fun _ => by rfl⟩
   ·refine simB_cons ?_ ?_
    ·refine sim_if ?_ ?_ ?_
     ·refine simT_not ?_
      ·refine @simT_plain _ _ _ _ _ _ ?_ (fun _ => by rfl)
       ·refine @sim_call _ _ _ _ _ _ _ _ _ _ _ _ (by rfl) ?_ (keep_fn (H.kp 26 rfl)) (fn_is_whole H) (by decide) ?_
        ·exact @sim_glob _ _ _ _ _ _ _ (H.gr 26 rfl) (fun _ => by rfl) (by rfl)
        ·refine sim_cons (hn := by rfl) ?_ ?_
         ·exact @sim_loc _ _ _ _ _ _ _ (by rfl) (fun _ => by rfl) (by rfl)
         ·refine sim_cons (hn := by rfl) ?_ ?_
          ·exact sim_int
          ·refine sim_cons (hn := by rfl) ?_ ?_
           ·exact sim_int
           ·exact sim_nil
     ·exact simB_stuckS
     ·exact simB_nil
    ·refine simB_cons ?_ ?_
     ·refine @sim_set _ _ _ _ _ _ _ _ _ _ ⟨by rfl, fun _ => by rfl⟩ ?_ (fun _ => by rfl)
      ·refine @sim_bin _ _ _ _ _ _ _ _ _ _ _ ?_ ?_ p_add
       ·refine @sim_bin _ _ _ _ _ _ _ _ _ _ _ ?_ ?_ p_mul
        ·exact sim_int
        ·exact @sim_loc _ _ _ _ _ _ _ (by rfl) (fun _ => by rfl) (by rfl)
       ·exact @sim_loc _ _ _ _ _ _ _ (by rfl) (fun _ => by rfl) (by rfl)
     ·refine simB_cons ?_ ?_
      ·refine @sim_set _ _ _ _ _ _ _ _ _ _ ⟨by rfl, fun _ => by rfl⟩ ?_ (fun _ => by rfl)
       ·refine @sim_bin _ _ _ _ _ _ _ _ _ _ _ ?_ ?_ p_mul
        ·exact sim_int
        ·exact @sim_loc _ _ _ _ _ _ _ (by rfl) (fun _ => by rfl) (by rfl)
      ·exact simB_nil
  ·refine simB_cons ?_ ?_
   ·refine sim_ret ?_
    ·refine @sim_call _ _ _ _ _ _ _ _ _ _ _ _ (by rfl) ?_ (keep_fn (H.kp 32 rfl)) (fn_reading H) (by decide) ?_
     ·exact @sim_glob _ _ _ _ _ _ _ (H.gr 32 rfl) (fun _ => by rfl) (by rfl)
     ·refine sim_cons (hn := by rfl) ?_ ?_
      ·exact @sim_loc _ _ _ _ _ _ _ (by rfl) (fun _ => by rfl) (by rfl)
      ·refine sim_cons (hn := by rfl) ?_ ?_
       ·exact @sim_loc _ _ _ _ _ _ _ (by rfl) (fun _ => by rfl) (by rfl)
       ·exact sim_nil
   ·exact simB_nil
theorem fn_from_decimals {tn : Bool} (H : KF c sa is) : FnV c 2 tn (.ref 156) F_from_decimals := @FnIs.fn _ _ _ _ _ _ _ _ _ _ _ _ _ _ H.i_from_decimals (@sim_from_decimals_ _ _ _ _ H)
theorem sim_times_ {tn : Bool} (H : KF c sa is) : SimB c 3 tn s_times b_times m_times := by
 refine simB_cons ?_ ?_
 ·refine sim_ret ?_
  ·refine @sim_call _ _ _ _ _ _ _ _ _ _ _ _ (by rfl) ?_ (keep_fn (H.kp 16 rfl)) (fn_check_dimen H) (by decide) ?_
   ·exact @sim_glob _ _ _ _ _ _ _ (H.gr 16 rfl) (fun _ => by rfl) (by rfl)
   ·refine sim_cons (hn := by rfl) ?_ ?_
    ·refine @sim_bin _ _ _ _ _ _ _ _ _ _ _ ?_ ?_ p_add
     ·refine @sim_bin _ _ _ _ _ _ _ _ _ _ _ ?_ ?_ p_mul
      ·refine @sim_call _ _ _ _ _ _ _ _ _ _ _ _ (by rfl) ?_ (keep_fn (H.kp 17 rfl)) (fn_check_whole H) (by decide) ?_
       ·exact @sim_glob _ _ _ _ _ _ _ (H.gr 17 rfl) (fun _ => by rfl) (by rfl)
       ·refine sim_cons (hn := by rfl) ?_ ?_
        ·exact @sim_loc _ _ _ _ _ _ _ (by rfl) (fun _ => by rfl) (by rfl)
        ·exact sim_nil
      ·refine @sim_call _ _ _ _ _ _ _ _ _ _ _ _ (by rfl) ?_ (keep_fn (H.kp 17 rfl)) (fn_check_whole H) (by decide) ?_
       ·exact @sim_glob _ _ _ _ _ _ _ (H.gr 17 rfl) (fun _ => by rfl) (by rfl)
       ·refine sim_cons (hn := by rfl) ?_ ?_
        ·exact @sim_loc _ _ _ _ _ _ _ (by rfl) (fun _ => by rfl) (by rfl)
        ·exact sim_nil
     ·refine @sim_call _ _ _ _ _ _ _ _ _ _ _ _ (by rfl) ?_ (keep_fn (H.kp 17 rfl)) (fn_check_whole H) (by decide) ?_
      ·exact @sim_glob _ _ _ _ _ _ _ (H.gr 17 rfl) (fun _ => by rfl) (by rfl)
      ·refine sim_cons (hn := by rfl) ?_ ?_
       ·exact @sim_loc _ _ _ _ _ _ _ (by rfl) (fun _ => by rfl) (by rfl)
       ·exact sim_nil
    ·exact sim_nil
 ·exact simB_nil
theorem fn_times {tn : Bool} (H : KF c sa is) : FnV c 4 tn (.ref 177) F_times := @FnIs.fn _ _ _ _ _ _ _ _ _ _ _ _ _ _ H.i_times (@sim_times_ _ _ _ _ H)
theorem sim_over_ {tn : Bool} (H : KF c sa is) : SimB c 1 tn s_over b_over m_over := by
 refine simB_cons ?_ ?_
 ·refine sim_if ?_ ?_ ?_
  ·refine @simT_cmp _ _ _ _ _ _ _ _ _ _ _ ?_ ?_ p_eq (by rfl)
   ·refine @sim_call _ _ _ _ _ _ _ _ _ _ _ _ (by rfl) ?_ (keep_fn (H.kp 17 rfl)) (fn_check_whole H) (by decide) ?_
    ·exact @sim_glob _ _ _ _ _ _ _ (H.gr 17 rfl) (fun _ => by rfl) (by rfl)
    ·refine sim_cons (hn := by rfl) ?_ ?_
     ·exact @sim_loc _ _ _ _ _ _ _ (by rfl) (fun _ => by rfl) (by rfl)
     ·exact sim_nil
   ·exact sim_int
  ·exact simB_stuckS
  ·exact simB_nil
 ·refine simB_cons ?_ ?_
  ·refine @sim_setTup _ _ _ _ _ _ _ _ _ _ _ ⟨fun _ => .name ⟨by rfl, fun _ => by rfl⟩ (.name ⟨by rfl, fun _ => by rfl⟩ (.nil)), fun _ => by rfl⟩ ?_ (fun _ => by rfl) (fun _ => by rfl)
   ·refine @sim_call _ _ _ _ _ _ _ _ _ _ _ _ (by rfl) ?_ (keep_blt _) fn_divmod (by decide) ?_
    ·exact @sim_blt _ _ _ _ _ _ _ H.b_divmod (fun _ => by rfl) (by rfl)
    ·refine sim_cons (hn := by rfl) ?_ ?_
     ·refine @sim_call _ _ _ _ _ _ _ _ _ _ _ _ (by rfl) ?_ (keep_blt _) fn_abs (by decide) ?_
      ·exact @sim_blt _ _ _ _ _ _ _ H.b_abs (fun _ => by rfl) (by rfl)
      ·refine sim_cons (hn := by rfl) ?_ ?_
       ·refine @sim_call _ _ _ _ _ _ _ _ _ _ _ _ (by rfl) ?_ (keep_fn (H.kp 17 rfl)) (fn_check_whole H) (by decide) ?_
        ·exact @sim_glob _ _ _ _ _ _ _ (H.gr 17 rfl) (fun _ => by rfl) (by rfl)
        ·refine sim_cons (hn := by rfl) ?_ ?_
         ·exact @sim_loc _ _ _ _ _ _ _ (by rfl) (fun _ => by rfl) (by rfl)
         ·exact sim_nil
       ·exact sim_nil
     ·refine sim_cons (hn := by rfl) ?_ ?_
      ·refine @sim_call _ _ _ _ _ _ _ _ _ _ _ _ (by rfl) ?_ (keep_blt _) fn_abs (by decide) ?_
       ·exact @sim_blt _ _ _ _ _ _ _ H.b_abs (fun _ => by rfl) (by rfl)
       ·refine sim_cons (hn := by rfl) ?_ ?_
        ·exact @sim_loc _ _ _ _ _ _ _ (by rfl) (fun _ => by rfl) (by rfl)
        ·exact sim_nil
      ·exact sim_nil
  ·refine simB_cons ?_ ?_
   ·refine sim_if ?_ ?_ ?_
    ·refine @simT_cmp _ _ _ _ _ _ _ _ _ _ _ ?_ ?_ p_ne (by rfl)
     ·refine @sim_cmp _ _ _ _ _ _ _ _ _ _ _ ?_ ?_ p_lt (by rfl)
      ·exact @sim_loc _ _ _ _ _ _ _ (by rfl) (fun _ => by rfl) (by rfl)
      ·exact sim_int
     ·refine @sim_cmp _ _ _ _ _ _ _ _ _ _ _ ?_ ?_ p_lt (by rfl)
      ·exact @sim_loc _ _ _ _ _ _ _ (by rfl) (fun _ => by rfl) (by rfl)
      ·exact sim_int
    ·refine simB_cons ?_ ?_
     ·refine @sim_set _ _ _ _ _ _ _ _ _ _ ⟨by rfl, fun _ => by rfl⟩ ?_ (fun _ => by rfl)
      ·refine @sim_un _ _ _ _ _ _ _ _ _ ?_ p_neg
       ·exact @sim_loc _ _ _ _ _ _ _ (by rfl) (fun _ => by rfl) (by rfl)
     ·exact simB_nil
    ·exact simB_nil
   ·refine simB_cons ?_ ?_
    ·refine sim_if ?_ ?_ ?_
     ·refine @simT_cmp _ _ _ _ _ _ _ _ _ _ _ ?_ ?_ p_lt (by rfl)
      ·exact @sim_loc _ _ _ _ _ _ _ (by rfl) (fun _ => by rfl) (by rfl)
      ·exact sim_int
     ·refine simB_cons ?_ ?_
      ·refine @sim_set _ _ _ _ _ _ _ _ _ _ ⟨by rfl, fun _ => by rfl⟩ ?_ (fun _ => by rfl)
       ·refine @sim_un _ _ _ _ _ _ _ _ _ ?_ p_neg
        ·exact @sim_loc _ _ _ _ _ _ _ (by rfl) (fun _ => by rfl) (by rfl)
      ·exact simB_nil
     ·exact simB_nil
    ·refine simB_cons ?_ ?_
     ·refine sim_ret ?_
      ·refine sim_tup ?_
       ·refine sim_cons (hn := by rfl) ?_ ?_
        ·exact @sim_loc _ _ _ _ _ _ _ (by rfl) (fun _ => by rfl) (by rfl)
        ·refine sim_cons (hn := by rfl) ?_ ?_
         ·exact @sim_loc _ _ _ _ _ _ _ (by rfl) (fun _ => by rfl) (by rfl)
         ·exact sim_nil
     ·exact simB_nil
theorem fn_over {tn : Bool} (H : KF c sa is) : FnV c 2 tn (.ref 184) F_over := @FnIs.fn _ _ _ _ _ _ _ _ _ _ _ _ _ _ H.i_over (@sim_over_ _ _ _ _ H)
theorem sim_fraction_ {tn : Bool} (H : KF c sa is) : SimB c 3 tn s_fraction b_fraction m_fraction := by
 refine simB_cons ?_ ?_
 ·refine sim_if ?_ ?_ ?_
  ·refine simT_or ?_ ?_
   ·refine simT_not ?_
    ·refine @simT_plain _ _ _ _ _ _ ?_ (fun _ => by rfl)
     ·refine @sim_call _ _ _ _ _ _ _ _ _ _ _ _ (by rfl) ?_ (keep_fn (H.kp 26 rfl)) (fn_is_whole H) (by decide) ?_
      ·exact @sim_glob _ _ _ _ _ _ _ (H.gr 26 rfl) (fun _ => by rfl) (by rfl)
      ·refine sim_cons (hn := by rfl) ?_ ?_
       ·exact @sim_loc _ _ _ _ _ _ _ (by rfl) (fun _ => by rfl) (by rfl)
       ·refine sim_cons (hn := by rfl) ?_ ?_
        ·exact sim_int
        ·refine sim_cons (hn := by rfl) ?_ ?_
         ·exact @sim_glob _ _ _ _ _ _ _ (H.gi 11 rfl) (fun _ => by rfl) (by rfl)
         ·exact sim_nil
   ·refine simT_or1 ?_
    ·refine simT_not ?_
     ·refine @simT_plain _ _ _ _ _ _ ?_ (fun _ => by rfl)
      ·refine @sim_call _ _ _ _ _ _ _ _ _ _ _ _ (by rfl) ?_ (keep_fn (H.kp 26 rfl)) (fn_is_whole H) (by decide) ?_
       ·exact @sim_glob _ _ _ _ _ _ _ (H.gr 26 rfl) (fun _ => by rfl) (by rfl)
       ·refine sim_cons (hn := by rfl) ?_ ?_
        ·exact @sim_loc _ _ _ _ _ _ _ (by rfl) (fun _ => by rfl) (by rfl)
        ·refine sim_cons (hn := by rfl) ?_ ?_
         ·exact sim_int
         ·refine sim_cons (hn := by rfl) ?_ ?_
          ·exact @sim_glob _ _ _ _ _ _ _ (H.gi 11 rfl) (fun _ => by rfl) (by rfl)
          ·exact sim_nil
  ·exact simB_stuckS
  ·exact simB_nil
 ·refine simB_cons ?_ ?_
  ·refine @sim_setTup _ _ _ _ _ _ _ _ _ _ _ ⟨fun _ => .name ⟨by rfl, fun _ => by rfl⟩ (.name ⟨by rfl, fun _ => by rfl⟩ (.nil)), fun _ => by rfl⟩ ?_ (fun _ => by rfl) (fun _ => by rfl)
   ·refine @sim_call _ _ _ _ _ _ _ _ _ _ _ _ (by rfl) ?_ (keep_fn (H.kp 31 rfl)) (fn_over H) (by decide) ?_
    ·exact @sim_glob _ _ _ _ _ _ _ (H.gr 31 rfl) (fun _ => by rfl) (by rfl)
    ·refine sim_cons (hn := by rfl) ?_ ?_
     ·refine @sim_bin _ _ _ _ _ _ _ _ _ _ _ ?_ ?_ p_mul
      ·refine @sim_call _ _ _ _ _ _ _ _ _ _ _ _ (by rfl) ?_ (keep_fn (H.kp 17 rfl)) (fn_check_whole H) (by decide) ?_
       ·exact @sim_glob _ _ _ _ _ _ _ (H.gr 17 rfl) (fun _ => by rfl) (by rfl)
       ·refine sim_cons (hn := by rfl) ?_ ?_
        ·exact @sim_loc _ _ _ _ _ _ _ (by rfl) (fun _ => by rfl) (by rfl)
        ·exact sim_nil
      ·exact @sim_loc _ _ _ _ _ _ _ (by rfl) (fun _ => by rfl) (by rfl)
     ·refine sim_cons (hn := by rfl) ?_ ?_
      ·exact @sim_loc _ _ _ _ _ _ _ (by rfl) (fun _ => by rfl) (by rfl)
      ·exact sim_nil
  ·refine simB_cons ?_ ?_
   ·refine sim_ret ?_
    ·refine sim_tup ?_
     ·refine sim_cons (hn := by rfl) ?_ ?_
      ·refine @sim_call _ _ _ _ _ _ _ _ _ _ _ _ (by rfl) ?_ (keep_fn (H.kp 16 rfl)) (fn_check_dimen H) (by decide) ?_
       ·exact @sim_glob _ _ _ _ _ _ _ (H.gr 16 rfl) (fun _ => by rfl) (by rfl)
       ·refine sim_cons (hn := by rfl) ?_ ?_
        ·exact @sim_loc _ _ _ _ _ _ _ (by rfl) (fun _ => by rfl) (by rfl)
        ·exact sim_nil
      ·refine sim_cons (hn := by rfl) ?_ ?_
       ·exact @sim_loc _ _ _ _ _ _ _ (by rfl) (fun _ => by rfl) (by rfl)
       ·exact sim_nil
   ·exact simB_nil
theorem fn_fraction {tn : Bool} (H : KF c sa is) : FnV c 4 tn (.ref 191) F_fraction := @FnIs.fn _ _ _ _ _ _ _ _ _ _ _ _ _ _ H.i_fraction (@sim_fraction_ _ _ _ _ H)
theorem sim_units_ {tn : Bool} (H : KF c sa is) : SimB c 0 tn s_units b_units m_units := by
 refine simB_cons ?_ ?_
 ·refine sim_ret ?_
  ·refine sim_list ?_
   ·refine sim_cons (hn := by rfl) ?_ ?_
    ·refine sim_tup ?_
     ·refine sim_cons (hn := by rfl) ?_ ?_
      ·exact sim_str (e := by kernel_rfl)
      ·refine sim_cons (hn := by rfl) ?_ ?_
       ·exact sim_int
       ·refine sim_cons (hn := by rfl) ?_ ?_
        ·exact sim_int
        ·exact sim_nil
    ·refine sim_cons (hn := by rfl) ?_ ?_
     ·refine sim_tup ?_
      ·refine sim_cons (hn := by rfl) ?_ ?_
       ·exact sim_str (e := by kernel_rfl)
       ·refine sim_cons (hn := by rfl) ?_ ?_
        ·exact sim_int
        ·refine sim_cons (hn := by rfl) ?_ ?_
         ·exact sim_int
         ·exact sim_nil
     ·refine sim_cons (hn := by rfl) ?_ ?_
      ·refine sim_tup ?_
       ·refine sim_cons (hn := by rfl) ?_ ?_
        ·exact sim_str (e := by kernel_rfl)
        ·refine sim_cons (hn := by rfl) ?_ ?_
         ·exact sim_int
         ·refine sim_cons (hn := by rfl) ?_ ?_
          ·exact sim_int
          ·exact sim_nil
      ·refine sim_cons (hn := by rfl) ?_ ?_
       ·refine sim_tup ?_
        ·refine sim_cons (hn := by rfl) ?_ ?_
         ·exact sim_str (e := by kernel_rfl)
         ·refine sim_cons (hn := by rfl) ?_ ?_
          ·exact sim_int
          ·refine sim_cons (hn := by rfl) ?_ ?_
           ·exact sim_int
           ·exact sim_nil
       ·refine sim_cons (hn := by rfl) ?_ ?_
        ·refine sim_tup ?_
         ·refine sim_cons (hn := by rfl) ?_ ?_
          ·exact sim_str (e := by kernel_rfl)
          ·refine sim_cons (hn := by rfl) ?_ ?_
           ·exact sim_int
           ·refine sim_cons (hn := by rfl) ?_ ?_
            ·exact sim_int
            ·exact sim_nil
        ·refine sim_cons (hn := by rfl) ?_ ?_
         ·refine sim_tup ?_
          ·refine sim_cons (hn := by rfl) ?_ ?_
           ·exact sim_str (e := by kernel_rfl)
           ·refine sim_cons (hn := by rfl) ?_ ?_
            ·exact sim_int
            ·refine sim_cons (hn := by rfl) ?_ ?_
             ·exact sim_int
             ·exact sim_nil
         ·refine sim_cons (hn := by rfl) ?_ ?_
          ·refine sim_tup ?_
           ·refine sim_cons (hn := by rfl) ?_ ?_
            ·exact sim_str (e := by kernel_rfl)
            ·refine sim_cons (hn := by rfl) ?_ ?_
             ·exact sim_int
             ·refine sim_cons (hn := by rfl) ?_ ?_
              ·exact sim_int
              ·exact sim_nil
          ·refine sim_cons (hn := by rfl) ?_ ?_
           ·refine sim_tup ?_
            ·refine sim_cons (hn := by rfl) ?_ ?_
             ·exact sim_str (e := by kernel_rfl)
             ·refine sim_cons (hn := by rfl) ?_ ?_
              ·exact sim_int
              ·refine sim_cons (hn := by rfl) ?_ ?_
               ·exact sim_int
               ·exact sim_nil
           ·exact sim_nil
 ·exact simB_nil
theorem fn_units {tn : Bool} (H : KF c sa is) : FnV c 1 tn (.ref 198) F_units := @FnIs.fn _ _ _ _ _ _ _ _ _ _ _ _ _ _ H.i_units (@sim_units_ _ _ _ _ H)
theorem sim_is_token_ {tn : Bool} (H : KF c sa is) : SimB c 1 tn s_is_token b_is_token m_is_token := by
 refine simB_cons ?_ ?_
 ·refine sim_if ?_ ?_ ?_
  ·refine simT_or ?_ ?_
   ·refine simT_not ?_
    ·refine @simT_plain _ _ _ _ _ _ ?_ (fun _ => by rfl)
     ·refine @sim_call _ _ _ _ _ _ _ _ _ _ _ _ (by rfl) ?_ (keep_blt _) fn_isi (by decide) ?_
      ·exact @sim_blt _ _ _ _ _ _ _ H.b_isinstance (fun _ => by rfl) (by rfl)
      ·refine sim_cons (hn := by rfl) ?_ ?_
       ·exact @sim_loc _ _ _ _ _ _ _ (by rfl) (fun _ => by rfl) (by rfl)
       ·refine sim_cons (hn := by rfl) ?_ ?_
        ·exact @sim_blt _ _ _ _ _ _ _ H.b_tuple (fun _ => by rfl) (by rfl)
        ·exact sim_nil
   ·refine simT_or ?_ ?_
    ·refine @simT_cmp _ _ _ _ _ _ _ _ _ _ _ ?_ ?_ p_ne (by rfl)
     ·refine @sim_call _ _ _ _ _ _ _ _ _ _ _ _ (by rfl) ?_ (keep_blt _) fn_lenA (by decide) ?_
      ·exact @sim_blt _ _ _ _ _ _ _ H.b_len (fun _ => by rfl) (by rfl)
      ·refine sim_cons (hn := by rfl) ?_ ?_
       ·exact @sim_loc _ _ _ _ _ _ _ (by rfl) (fun _ => by rfl) (by rfl)
       ·exact sim_nil
     ·exact sim_int
    ·refine simT_or1 ?_
     ·refine simT_not ?_
      ·refine @simT_plain _ _ _ _ _ _ ?_ (fun _ => by rfl)
       ·refine @sim_call _ _ _ _ _ _ _ _ _ _ _ _ (by rfl) ?_ (keep_fn (H.kp 26 rfl)) (fn_is_whole H) (by decide) ?_
        ·exact @sim_glob _ _ _ _ _ _ _ (H.gr 26 rfl) (fun _ => by rfl) (by rfl)
        ·refine sim_cons (hn := by rfl) ?_ ?_
         ·refine @sim_item _ _ _ _ _ _ _ _ _ (fun _ _ _ => by rfl) ?_ ?_
          ·exact @sim_loc _ _ _ _ _ _ _ (by rfl) (fun _ => by rfl) (by rfl)
          ·exact sim_int
         ·refine sim_cons (hn := by rfl) ?_ ?_
          ·exact sim_int
          ·refine sim_cons (hn := by rfl) ?_ ?_
           ·exact sim_int
           ·exact sim_nil
  ·refine simB_cons ?_ ?_
   ·refine sim_ret ?_
    ·exact sim_bool
   ·exact simB_nil
  ·exact simB_nil
 ·refine simB_cons ?_ ?_
  ·refine sim_ret ?_
   ·refine @sim_call _ _ _ _ _ _ _ _ _ _ _ _ (by rfl) ?_ (keep_fn (H.kp 26 rfl)) (fn_is_whole H) (by decide) ?_
    ·exact @sim_glob _ _ _ _ _ _ _ (H.gr 26 rfl) (fun _ => by rfl) (by rfl)
    ·refine sim_cons (hn := by rfl) ?_ ?_
     ·refine @sim_item _ _ _ _ _ _ _ _ _ (fun _ _ _ => by rfl) ?_ ?_
      ·exact @sim_loc _ _ _ _ _ _ _ (by rfl) (fun _ => by rfl) (by rfl)
      ·exact sim_int
     ·refine sim_cons (hn := by rfl) ?_ ?_
      ·refine @sim_item _ _ _ _ _ _ _ _ _ (fun _ _ _ => by rfl) ?_ ?_
       ·exact @sim_glob _ _ _ _ _ _ _ H.g_LEAST_CODES (fun _ => by rfl) (by rfl)
       ·refine @sim_item _ _ _ _ _ _ _ _ _ (fun _ _ _ => by rfl) ?_ ?_
        ·exact @sim_loc _ _ _ _ _ _ _ (by rfl) (fun _ => by rfl) (by rfl)
        ·exact sim_int
      ·refine sim_cons (hn := by rfl) ?_ ?_
       ·refine @sim_item _ _ _ _ _ _ _ _ _ (fun _ _ _ => by rfl) ?_ ?_
        ·exact @sim_glob _ _ _ _ _ _ _ H.g_GREATEST_CODES (fun _ => by rfl) (by rfl)
        ·refine @sim_item _ _ _ _ _ _ _ _ _ (fun _ _ _ => by rfl) ?_ ?_
         ·exact @sim_loc _ _ _ _ _ _ _ (by rfl) (fun _ => by rfl) (by rfl)
         ·exact sim_int
       ·exact sim_nil
  ·exact simB_nil
theorem fn_is_token {tn : Bool} (H : KF c sa is) : FnV c 2 tn (.ref 305) F_is_token := @FnIs.fn _ _ _ _ _ _ _ _ _ _ _ _ _ _ H.i_is_token (@sim_is_token_ _ _ _ _ H)
theorem sim_read_ {tn : Bool} (H : KF c sa is) : SimB c 0 tn s_read b_read m_read := by
 refine simB_cons ?_ ?_
 ·refine sim_if ?_ ?_ ?_
  ·refine @simT_cmp _ _ _ _ _ _ _ _ _ _ _ ?_ ?_ p_eq (by rfl)
   ·refine @sim_attr _ _ _ _ _ _ _ _ _ H.a_rest ?_ (fun _ => by rfl)
    ·exact @sim_loc _ _ _ _ _ _ _ (by rfl) (fun _ => by rfl) (by rfl)
   ·refine sim_list ?_
    ·exact sim_nil
  ·refine simB_cons ?_ ?_
   ·refine sim_ret ?_
    ·refine sim_tup ?_
     ·refine sim_cons (hn := by rfl) ?_ ?_
      ·exact sim_none
      ·refine sim_cons (hn := by rfl) ?_ ?_
       ·exact @sim_glob _ _ _ _ _ _ _ (H.gi 5 rfl) (fun _ => by rfl) (by rfl)
       ·refine sim_cons (hn := by rfl) ?_ ?_
        ·exact sim_int
        ·exact sim_nil
   ·exact simB_nil
  ·exact simB_nil
 ·refine simB_cons ?_ ?_
  ·refine @sim_set _ _ _ _ _ _ _ _ _ _ ⟨by rfl, fun _ => by rfl⟩ ?_ (fun _ => by rfl)
   ·refine @sim_pop _ _ _ _ _ _ _ _ (fun _ => ⟨_, by rfl⟩) ?_
    ·refine @sim_attr _ _ _ _ _ _ _ _ _ H.a_rest ?_ (fun _ => by rfl)
     ·exact @sim_loc _ _ _ _ _ _ _ (by rfl) (fun _ => by rfl) (by rfl)
  ·refine simB_cons ?_ ?_
   ·refine @sim_setTup _ _ _ _ _ _ _ _ _ _ _ ⟨fun _ => .name ⟨by rfl, fun _ => by rfl⟩ (.name ⟨by rfl, fun _ => by rfl⟩ (.nil)), fun _ => by rfl⟩ ?_ (fun _ => by rfl) (fun _ => by rfl)
    ·exact @sim_loc _ _ _ _ _ _ _ (by rfl) (fun _ => by rfl) (by rfl)
   ·refine simB_cons ?_ ?_
    ·refine sim_if ?_ ?_ ?_
     ·refine @simT_cmp _ _ _ _ _ _ _ _ _ _ _ ?_ ?_ p_eq (by rfl)
      ·exact @sim_loc _ _ _ _ _ _ _ (by rfl) (fun _ => by rfl) (by rfl)
      ·exact @sim_glob _ _ _ _ _ _ _ (H.gi 1 rfl) (fun _ => by rfl) (by rfl)
     ·refine simB_cons ?_ ?_
      ·refine @sim_putF _ _ _ _ _ _ _ _ _ _ _ _ H.p_balance ?_ ?_ (fun _ => by rfl)
       ·refine @sim_bin _ _ _ _ _ _ _ _ _ _ _ ?_ ?_ p_add
        ·refine @sim_attr _ _ _ _ _ _ _ _ _ H.a_balance ?_ (fun _ => by rfl)
         ·exact @sim_loc _ _ _ _ _ _ _ (by rfl) (fun _ => by rfl) (by rfl)
        ·exact sim_int
       ·exact @sim_loc _ _ _ _ _ _ _ (by rfl) (fun _ => by rfl) (by rfl)
      ·exact simB_nil
     ·refine simB_cons ?_ ?_
      ·refine sim_if ?_ ?_ ?_
       ·refine @simT_cmp _ _ _ _ _ _ _ _ _ _ _ ?_ ?_ p_eq (by rfl)
        ·exact @sim_loc _ _ _ _ _ _ _ (by rfl) (fun _ => by rfl) (by rfl)
        ·exact @sim_glob _ _ _ _ _ _ _ (H.gi 4 rfl) (fun _ => by rfl) (by rfl)
       ·refine simB_cons ?_ ?_
        ·refine @sim_putF _ _ _ _ _ _ _ _ _ _ _ _ H.p_balance ?_ ?_ (fun _ => by rfl)
         ·refine @sim_bin _ _ _ _ _ _ _ _ _ _ _ ?_ ?_ p_sub
          ·refine @sim_attr _ _ _ _ _ _ _ _ _ H.a_balance ?_ (fun _ => by rfl)
           ·exact @sim_loc _ _ _ _ _ _ _ (by rfl) (fun _ => by rfl) (by rfl)
          ·exact sim_int
         ·exact @sim_loc _ _ _ _ _ _ _ (by rfl) (fun _ => by rfl) (by rfl)
        ·exact simB_nil
       ·exact simB_nil
      ·exact simB_nil
    ·refine simB_cons ?_ ?_
     ·refine sim_if ?_ ?_ ?_
      ·refine simT_and ?_ ?_
       ·refine @simT_cmp _ _ _ _ _ _ _ _ _ _ _ ?_ ?_ p_eq (by rfl)
        ·exact @sim_loc _ _ _ _ _ _ _ (by rfl) (fun _ => by rfl) (by rfl)
        ·exact @sim_glob _ _ _ _ _ _ _ (H.gi 2 rfl) (fun _ => by rfl) (by rfl)
       ·exact @simT_and1 _ _ _ _ _ _ _ simT_stuck
      ·refine simB_cons ?_ ?_
       ·refine sim_ret ?_
        ·refine sim_tup ?_
         ·refine sim_cons (hn := by rfl) ?_ ?_
          ·exact @sim_loc _ _ _ _ _ _ _ (by rfl) (fun _ => by rfl) (by rfl)
          ·refine sim_cons (hn := by rfl) ?_ ?_
           ·exact @sim_glob _ _ _ _ _ _ _ (H.gi 13 rfl) (fun _ => by rfl) (by rfl)
           ·refine sim_cons (hn := by rfl) ?_ ?_
            ·exact @sim_loc _ _ _ _ _ _ _ (by rfl) (fun _ => by rfl) (by rfl)
            ·exact sim_nil
       ·exact simB_nil
      ·exact simB_nil
     ·refine simB_cons ?_ ?_
      ·refine sim_if ?_ ?_ ?_
       ·refine simT_or ?_ ?_
        ·refine @simT_cmp _ _ _ _ _ _ _ _ _ _ _ ?_ ?_ p_eq (by rfl)
         ·exact @sim_loc _ _ _ _ _ _ _ (by rfl) (fun _ => by rfl) (by rfl)
         ·exact @sim_glob _ _ _ _ _ _ _ (H.gi 2 rfl) (fun _ => by rfl) (by rfl)
        ·refine simT_or1 ?_
         ·refine @simT_cmp _ _ _ _ _ _ _ _ _ _ _ ?_ ?_ p_eq (by rfl)
          ·exact @sim_loc _ _ _ _ _ _ _ (by rfl) (fun _ => by rfl) (by rfl)
          ·exact @sim_glob _ _ _ _ _ _ _ (H.gi 0 rfl) (fun _ => by rfl) (by rfl)
       ·refine simB_cons ?_ ?_
        ·refine sim_ret ?_
         ·refine sim_tup ?_
          ·refine sim_cons (hn := by rfl) ?_ ?_
           ·exact @sim_loc _ _ _ _ _ _ _ (by rfl) (fun _ => by rfl) (by rfl)
           ·refine sim_cons (hn := by rfl) ?_ ?_
            ·exact @sim_glob _ _ _ _ _ _ _ (H.gi 18 rfl) (fun _ => by rfl) (by rfl)
            ·refine sim_cons (hn := by rfl) ?_ ?_
             ·exact @sim_glob _ _ _ _ _ _ _ (H.gi 19 rfl) (fun _ => by rfl) (by rfl)
             ·exact sim_nil
        ·exact simB_nil
       ·exact simB_nil
      ·refine simB_cons ?_ ?_
       ·refine sim_ret ?_
        ·refine sim_tup ?_
         ·refine sim_cons (hn := by rfl) ?_ ?_
          ·exact @sim_loc _ _ _ _ _ _ _ (by rfl) (fun _ => by rfl) (by rfl)
          ·refine sim_cons (hn := by rfl) ?_ ?_
           ·exact @sim_loc _ _ _ _ _ _ _ (by rfl) (fun _ => by rfl) (by rfl)
           ·refine sim_cons (hn := by rfl) ?_ ?_
            ·exact @sim_loc _ _ _ _ _ _ _ (by rfl) (fun _ => by rfl) (by rfl)
            ·exact sim_nil
       ·exact simB_nil
theorem fn_read {tn : Bool} (H : KF c sa is) : FnV c 1 tn (.ref 506) F_read := @FnIs.fn _ _ _ _ _ _ _ _ _ _ _ _ _ _ H.i_read (@sim_read_ _ _ _ _ H)
theorem sim_read_expanded_ {tn : Bool} (H : KF c sa is) : SimB c 1 tn s_read_expanded b_read_expanded m_read_expanded := by
 refine simB_cons ?_ ?_
 ·refine sim_ret ?_
  ·refine @sim_meth _ _ _ _ _ _ _ _ _ _ _ _ _ _ _ (fun _ => ⟨_, by rfl⟩) (by rfl) H.m_read (fn_read H) (by decide) ?_ ?_
   ·exact @sim_loc _ _ _ _ _ _ _ (by rfl) (fun _ => by rfl) (by rfl)
   ·exact sim_nil
 ·exact simB_nil
theorem fn_read_expanded {tn : Bool} (H : KF c sa is) : FnV c 2 tn (.ref 513) F_read_expanded := @FnIs.fn _ _ _ _ _ _ _ _ _ _ _ _ _ _ H.i_read_expanded (@sim_read_expanded_ _ _ _ _ H)
theorem sim_back_ {tn : Bool} (H : KF c sa is) : SimB c 2 tn s_back b_back m_back := by
 refine simB_cons ?_ ?_
 ·refine sim_if ?_ ?_ ?_
  ·refine simT_or ?_ ?_
   ·refine simT_not ?_
    ·refine @simT_plain _ _ _ _ _ _ ?_ (fun _ => by rfl)
     ·refine @sim_call _ _ _ _ _ _ _ _ _ _ _ _ (by rfl) ?_ (keep_fn (H.kp 25 rfl)) (fn_is_token H) (by decide) ?_
      ·exact @sim_glob _ _ _ _ _ _ _ (H.gr 25 rfl) (fun _ => by rfl) (by rfl)
      ·refine sim_cons (hn := by rfl) ?_ ?_
       ·exact @sim_loc _ _ _ _ _ _ _ (by rfl) (fun _ => by rfl) (by rfl)
       ·exact sim_nil
   ·refine simT_or1 ?_
    ·refine @simT_cmp _ _ _ _ _ _ _ _ _ _ _ ?_ ?_ p_in (by rfl)
     ·refine @sim_item _ _ _ _ _ _ _ _ _ (fun _ _ _ => by rfl) ?_ ?_
      ·exact @sim_loc _ _ _ _ _ _ _ (by rfl) (fun _ => by rfl) (by rfl)
      ·exact sim_int
     ·refine sim_tup ?_
      ·refine sim_cons (hn := by rfl) ?_ ?_
       ·exact @sim_glob _ _ _ _ _ _ _ (H.gi 17 rfl) (fun _ => by rfl) (by rfl)
       ·refine sim_cons (hn := by rfl) ?_ ?_
        ·exact @sim_glob _ _ _ _ _ _ _ (H.gi 9 rfl) (fun _ => by rfl) (by rfl)
        ·refine sim_cons (hn := by rfl) ?_ ?_
         ·exact @sim_glob _ _ _ _ _ _ _ (H.gi 7 rfl) (fun _ => by rfl) (by rfl)
         ·refine sim_cons (hn := by rfl) ?_ ?_
          ·exact @sim_glob _ _ _ _ _ _ _ (H.gi 15 rfl) (fun _ => by rfl) (by rfl)
          ·exact sim_nil
  ·exact simB_stuckS
  ·exact simB_nil
 ·refine simB_cons ?_ ?_
  ·refine sim_if ?_ ?_ ?_
   ·refine @simT_cmp _ _ _ _ _ _ _ _ _ _ _ ?_ ?_ p_eq (by rfl)
    ·refine @sim_item _ _ _ _ _ _ _ _ _ (fun _ _ _ => by rfl) ?_ ?_
     ·exact @sim_loc _ _ _ _ _ _ _ (by rfl) (fun _ => by rfl) (by rfl)
     ·exact sim_int
    ·exact @sim_glob _ _ _ _ _ _ _ (H.gi 1 rfl) (fun _ => by rfl) (by rfl)
   ·refine simB_cons ?_ ?_
    ·refine @sim_putF _ _ _ _ _ _ _ _ _ _ _ _ H.p_balance ?_ ?_ (fun _ => by rfl)
     ·refine @sim_bin _ _ _ _ _ _ _ _ _ _ _ ?_ ?_ p_sub
      ·refine @sim_attr _ _ _ _ _ _ _ _ _ H.a_balance ?_ (fun _ => by rfl)
       ·exact @sim_loc _ _ _ _ _ _ _ (by rfl) (fun _ => by rfl) (by rfl)
      ·exact sim_int
     ·exact @sim_loc _ _ _ _ _ _ _ (by rfl) (fun _ => by rfl) (by rfl)
    ·exact simB_nil
   ·refine simB_cons ?_ ?_
    ·refine sim_if ?_ ?_ ?_
     ·refine @simT_cmp _ _ _ _ _ _ _ _ _ _ _ ?_ ?_ p_eq (by rfl)
      ·refine @sim_item _ _ _ _ _ _ _ _ _ (fun _ _ _ => by rfl) ?_ ?_
       ·exact @sim_loc _ _ _ _ _ _ _ (by rfl) (fun _ => by rfl) (by rfl)
       ·exact sim_int
      ·exact @sim_glob _ _ _ _ _ _ _ (H.gi 4 rfl) (fun _ => by rfl) (by rfl)
     ·refine simB_cons ?_ ?_
      ·refine @sim_putF _ _ _ _ _ _ _ _ _ _ _ _ H.p_balance ?_ ?_ (fun _ => by rfl)
       ·refine @sim_bin _ _ _ _ _ _ _ _ _ _ _ ?_ ?_ p_add
        ·refine @sim_attr _ _ _ _ _ _ _ _ _ H.a_balance ?_ (fun _ => by rfl)
         ·exact @sim_loc _ _ _ _ _ _ _ (by rfl) (fun _ => by rfl) (by rfl)
        ·exact sim_int
       ·exact @sim_loc _ _ _ _ _ _ _ (by rfl) (fun _ => by rfl) (by rfl)
      ·exact simB_nil
     ·exact simB_nil
    ·exact simB_nil
  ·refine simB_cons ?_ ?_
   ·refine @sim_expr _ _ _ _ _ _ _ ?_ (fun _ => by rfl) (fun _ => by rfl)
    ·refine @sim_append _ _ _ _ _ _ _ _ _ _ (fun _ => ⟨_, by rfl⟩) (by rfl) ?_ ?_
     ·refine @sim_attr _ _ _ _ _ _ _ _ _ H.a_rest ?_ (fun _ => by rfl)
      ·exact @sim_loc _ _ _ _ _ _ _ (by rfl) (fun _ => by rfl) (by rfl)
     ·exact @sim_loc _ _ _ _ _ _ _ (by rfl) (fun _ => by rfl) (by rfl)
   ·exact simB_nil
theorem fn_back {tn : Bool} (H : KF c sa is) : FnV c 3 tn (.ref 520) F_back := @FnIs.fn _ _ _ _ _ _ _ _ _ _ _ _ _ _ H.i_back (@sim_back_ _ _ _ _ H)
theorem sim_left_ {tn : Bool} (H : KF c sa is) : SimB c 0 tn s_left b_left m_left := by
 refine simB_cons ?_ ?_
 ·refine sim_ret ?_
  ·refine sim_rev ?_
   ·refine @sim_attr _ _ _ _ _ _ _ _ _ H.a_rest ?_ (fun _ => by rfl)
    ·exact @sim_loc _ _ _ _ _ _ _ (by rfl) (fun _ => by rfl) (by rfl)
 ·exact simB_nil
theorem fn_left {tn : Bool} (H : KF c sa is) : FnV c 1 tn (.ref 527) F_left := @FnIs.fn _ _ _ _ _ _ _ _ _ _ _ _ _ _ H.i_left (@sim_left_ _ _ _ _ H)
theorem sim_quantity_ {tn : Bool} (H : KF c sa is) : SimB c 0 tn s_quantity b_quantity m_quantity := by
 refine simB_cons ?_ ?_
 ·refine sim_if ?_ ?_ ?_
  ·refine @simT_cmp _ _ _ _ _ _ _ _ _ _ _ ?_ ?_ p_ne (by rfl)
   ·exact @sim_loc _ _ _ _ _ _ _ (by rfl) (fun _ => by rfl) (by rfl)
   ·exact @sim_glob _ _ _ _ _ _ _ (H.gi 13 rfl) (fun _ => by rfl) (by rfl)
  ·refine simB_cons ?_ ?_
   ·refine sim_ret ?_
    ·exact sim_none
   ·exact simB_nil
  ·exact simB_nil
 ·exact simB_stuckS
theorem fn_quantity {tn : Bool} (H : KF c sa is) : FnV c 1 tn (.ref 534) F_quantity := @FnIs.fn _ _ _ _ _ _ _ _ _ _ _ _ _ _ H.i_quantity (@sim_quantity_ _ _ _ _ H)
theorem sim_font_size_ {tn : Bool} (H : KF c sa is) : SimB c 0 tn s_font_size b_font_size m_font_size := by
 refine simB_cons ?_ ?_
 ·refine sim_ret ?_
  ·refine sim_ifexp ?_ ?_ ?_
   ·refine @simT_cmp _ _ _ _ _ _ _ _ _ _ _ ?_ ?_ p_eq (by rfl)
    ·exact @sim_loc _ _ _ _ _ _ _ (by rfl) (fun _ => by rfl) (by rfl)
    ·exact @sim_glob _ _ _ _ _ _ _ (H.gi 3 rfl) (fun _ => by rfl) (by rfl)
   ·refine @sim_item _ _ _ _ _ _ _ _ _ (fun _ _ _ => by rfl) ?_ ?_
    ·refine @sim_attr _ _ _ _ _ _ _ _ _ H.a_sizes ?_ (fun _ => by rfl)
     ·exact @sim_loc _ _ _ _ _ _ _ (by rfl) (fun _ => by rfl) (by rfl)
    ·exact sim_int
   ·refine @sim_item _ _ _ _ _ _ _ _ _ (fun _ _ _ => by rfl) ?_ ?_
    ·refine @sim_attr _ _ _ _ _ _ _ _ _ H.a_sizes ?_ (fun _ => by rfl)
     ·exact @sim_loc _ _ _ _ _ _ _ (by rfl) (fun _ => by rfl) (by rfl)
    ·exact sim_int
 ·exact simB_nil
theorem fn_font_size {tn : Bool} (H : KF c sa is) : FnV c 1 tn (.ref 541) F_font_size := @FnIs.fn _ _ _ _ _ _ _ _ _ _ _ _ _ _ H.i_font_size (@sim_font_size_ _ _ _ _ H)
theorem sim___init___ {tn : Bool} (H : KF c sa is) : SimB c 3 tn s___init__ b___init__ m___init__ := by
 refine simB_cons ?_ ?_
 ·refine @sim_forL _ _ _ _ _ _ _ _ _ _ _ ?_ ?_ ?_ (fun _ _ => by rfl)
  ·exact @sim_loc _ _ _ _ _ _ _ (by rfl) (fun _ => by rfl) (by rfl)
  ·exact @tgt_name _ _ _ _ _ _ _ ⟨by rfl, fun _ => by rfl⟩
  ·refine simB_cons ?_ ?_
   ·refine sim_if ?_ ?_ ?_
    ·refine simT_or ?_ ?_
     ·refine simT_not ?_
      ·refine @simT_plain _ _ _ _ _ _ ?_ (fun _ => by rfl)
       ·refine @sim_call _ _ _ _ _ _ _ _ _ _ _ _ (by rfl) ?_ (keep_fn (H.kp 25 rfl)) (fn_is_token H) (by decide) ?_
        ·exact @sim_glob _ _ _ _ _ _ _ (H.gr 25 rfl) (fun _ => by rfl) (by rfl)
        ·refine sim_cons (hn := by rfl) ?_ ?_
         ·exact @sim_loc _ _ _ _ _ _ _ (by rfl) (fun _ => by rfl) (by rfl)
         ·exact sim_nil
     ·refine simT_or1 ?_
      ·refine @simT_cmp _ _ _ _ _ _ _ _ _ _ _ ?_ ?_ p_in (by rfl)
       ·refine @sim_item _ _ _ _ _ _ _ _ _ (fun _ _ _ => by rfl) ?_ ?_
        ·exact @sim_loc _ _ _ _ _ _ _ (by rfl) (fun _ => by rfl) (by rfl)
        ·exact sim_int
       ·refine sim_tup ?_
        ·refine sim_cons (hn := by rfl) ?_ ?_
         ·exact @sim_glob _ _ _ _ _ _ _ (H.gi 17 rfl) (fun _ => by rfl) (by rfl)
         ·refine sim_cons (hn := by rfl) ?_ ?_
          ·exact @sim_glob _ _ _ _ _ _ _ (H.gi 9 rfl) (fun _ => by rfl) (by rfl)
          ·refine sim_cons (hn := by rfl) ?_ ?_
           ·exact @sim_glob _ _ _ _ _ _ _ (H.gi 7 rfl) (fun _ => by rfl) (by rfl)
           ·refine sim_cons (hn := by rfl) ?_ ?_
            ·exact @sim_glob _ _ _ _ _ _ _ (H.gi 15 rfl) (fun _ => by rfl) (by rfl)
            ·exact sim_nil
    ·exact simB_stuckS
    ·exact simB_nil
   ·exact simB_nil
 ·refine simB_cons ?_ ?_
  ·refine @sim_putF _ _ _ _ _ _ _ _ _ _ _ _ H.p_rest ?_ ?_ (fun _ => by rfl)
   ·refine sim_rev ?_
    ·refine @sim_call _ _ _ _ _ _ _ _ _ _ _ _ (by rfl) ?_ (keep_type _) fn_list (by decide) ?_
     ·exact @sim_blt _ _ _ _ _ _ _ H.b_list (fun _ => by rfl) (by rfl)
     ·refine sim_cons (hn := by rfl) ?_ ?_
      ·exact @sim_loc _ _ _ _ _ _ _ (by rfl) (fun _ => by rfl) (by rfl)
      ·exact sim_nil
   ·exact @sim_loc _ _ _ _ _ _ _ (by rfl) (fun _ => by rfl) (by rfl)
  ·refine simB_cons ?_ ?_
   ·refine @sim_putF _ _ _ _ _ _ _ _ _ _ _ _ H.p_inner ?_ ?_ (fun _ => by rfl)
    ·refine sim_ifexp ?_ ?_ ?_
     ·refine @simT_cmp _ _ _ _ _ _ _ _ _ _ _ ?_ ?_ p_is (by rfl)
      ·exact @sim_loc _ _ _ _ _ _ _ (by rfl) (fun _ => by rfl) (by rfl)
      ·exact sim_none
     ·exact sim_dict0
     ·exact sim_stuck
    ·exact @sim_loc _ _ _ _ _ _ _ (by rfl) (fun _ => by rfl) (by rfl)
   ·refine simB_cons ?_ ?_
    ·refine @sim_forD0 _ _ _ _ _ _ _ _ _ ?_ (fun _ _ => by rfl)
     ·refine @sim_attr _ _ _ _ _ _ _ _ _ H.a_inner ?_ (fun _ => by rfl)
      ·exact @sim_loc _ _ _ _ _ _ _ (by rfl) (fun _ => by rfl) (by rfl)
    ·refine simB_cons ?_ ?_
     ·refine @sim_putF _ _ _ _ _ _ _ _ _ _ _ _ H.p_names ?_ ?_ (fun _ => by rfl)
      ·exact @sim_loc _ _ _ _ _ _ _ (by rfl) (fun _ => by rfl) (by rfl)
      ·exact @sim_loc _ _ _ _ _ _ _ (by rfl) (fun _ => by rfl) (by rfl)
     ·refine simB_cons ?_ ?_
      ·refine @sim_putF _ _ _ _ _ _ _ _ _ _ _ _ H.p_sizes ?_ ?_ (fun _ => by rfl)
       ·refine sim_tup ?_
        ·refine sim_cons (hn := by rfl) ?_ ?_
         ·refine @sim_call _ _ _ _ _ _ _ _ _ _ _ _ (by rfl) ?_ (keep_fn (H.kp 16 rfl)) (fn_check_dimen H) (by decide) ?_
          ·exact @sim_glob _ _ _ _ _ _ _ (H.gr 16 rfl) (fun _ => by rfl) (by rfl)
          ·refine sim_cons (hn := by rfl) ?_ ?_
           ·exact @sim_loc _ _ _ _ _ _ _ (by rfl) (fun _ => by rfl) (by rfl)
           ·exact sim_nil
         ·refine sim_cons (hn := by rfl) ?_ ?_
          ·refine @sim_call _ _ _ _ _ _ _ _ _ _ _ _ (by rfl) ?_ (keep_fn (H.kp 16 rfl)) (fn_check_dimen H) (by decide) ?_
           ·exact @sim_glob _ _ _ _ _ _ _ (H.gr 16 rfl) (fun _ => by rfl) (by rfl)
           ·refine sim_cons (hn := by rfl) ?_ ?_
            ·exact @sim_loc _ _ _ _ _ _ _ (by rfl) (fun _ => by rfl) (by rfl)
            ·exact sim_nil
          ·exact sim_nil
       ·exact @sim_loc _ _ _ _ _ _ _ (by rfl) (fun _ => by rfl) (by rfl)
      ·refine simB_cons ?_ ?_
       ·refine @sim_putF _ _ _ _ _ _ _ _ _ _ _ _ H.p_balance ?_ ?_ (fun _ => by rfl)
        ·exact sim_int
        ·exact @sim_loc _ _ _ _ _ _ _ (by rfl) (fun _ => by rfl) (by rfl)
       ·exact simB_nil
theorem fn_PlainSource (H : KF c sa is) : FnV c 5 true (.ref 544) F_PlainSource := fn_cls H.make H.initf H.fninit H.i___init__ (sim___init___ H)
theorem sim_unread_ {tn : Bool} (H : KF c sa is) : SimB c 3 tn s_unread b_unread m_unread := by
 refine simB_cons ?_ ?_
 ·refine sim_if ?_ ?_ ?_
  ·refine @simT_cmp _ _ _ _ _ _ _ _ _ _ _ ?_ ?_ p_isNot (by rfl)
   ·refine @sim_item _ _ _ _ _ _ _ _ _ (fun _ _ _ => by rfl) ?_ ?_
    ·exact @sim_loc _ _ _ _ _ _ _ (by rfl) (fun _ => by rfl) (by rfl)
    ·exact sim_int
   ·exact sim_none
  ·refine simB_cons ?_ ?_
   ·refine @sim_expr _ _ _ _ _ _ _ ?_ (fun _ => by rfl) (fun _ => by rfl)
    ·refine @sim_meth _ _ _ _ _ _ _ _ _ _ _ _ _ _ _ (fun _ => ⟨_, by rfl⟩) (by rfl) H.m_back (fn_back H) (by decide) ?_ ?_
     ·exact @sim_loc _ _ _ _ _ _ _ (by rfl) (fun _ => by rfl) (by rfl)
     ·refine sim_cons (hn := by rfl) ?_ ?_
      ·refine @sim_item _ _ _ _ _ _ _ _ _ (fun _ _ _ => by rfl) ?_ ?_
       ·exact @sim_loc _ _ _ _ _ _ _ (by rfl) (fun _ => by rfl) (by rfl)
       ·exact sim_int
      ·exact sim_nil
   ·exact simB_nil
  ·exact simB_nil
 ·exact simB_nil
theorem fn_unread {tn : Bool} (H : KF c sa is) : FnV c 4 tn (.ref 336) F_unread := @FnIs.fn _ _ _ _ _ _ _ _ _ _ _ _ _ _ H.i_unread (@sim_unread_ _ _ _ _ H)
theorem sim_skip_blanks_ {tn : Bool} (H : KF c sa is) : SimB c 2 tn s_skip_blanks b_skip_blanks m_skip_blanks := by
 refine simB_cons ?_ ?_
 ·refine @sim_set _ _ _ _ _ _ _ _ _ _ ⟨by rfl, fun _ => by rfl⟩ ?_ (fun _ => by rfl)
  ·refine @sim_meth _ _ _ _ _ _ _ _ _ _ _ _ _ _ _ (fun _ => ⟨_, by rfl⟩) (by rfl) H.m_read_expanded (fn_read_expanded H) (by decide) ?_ ?_
   ·exact @sim_loc _ _ _ _ _ _ _ (by rfl) (fun _ => by rfl) (by rfl)
   ·exact sim_nil
 ·refine simB_cons ?_ ?_
  ·refine @sim_while _ _ _ _ _ _ _ _ _ 200 ?_ ?_
   ·refine @simT_cmp _ _ _ _ _ _ _ _ _ _ _ ?_ ?_ p_eq (by rfl)
    ·refine @sim_item _ _ _ _ _ _ _ _ _ (fun _ _ _ => by rfl) ?_ ?_
     ·exact @sim_loc _ _ _ _ _ _ _ (by rfl) (fun _ => by rfl) (by rfl)
     ·exact sim_int
    ·exact @sim_glob _ _ _ _ _ _ _ (H.gi 20 rfl) (fun _ => by rfl) (by rfl)
   ·refine simB_cons ?_ ?_
    ·refine @sim_set _ _ _ _ _ _ _ _ _ _ ⟨by rfl, fun _ => by rfl⟩ ?_ (fun _ => by rfl)
     ·refine @sim_meth _ _ _ _ _ _ _ _ _ _ _ _ _ _ _ (fun _ => ⟨_, by rfl⟩) (by rfl) H.m_read_expanded (fn_read_expanded H) (by decide) ?_ ?_
      ·exact @sim_loc _ _ _ _ _ _ _ (by rfl) (fun _ => by rfl) (by rfl)
      ·exact sim_nil
    ·exact simB_nil
  ·refine simB_cons ?_ ?_
   ·refine sim_ret ?_
    ·exact @sim_loc _ _ _ _ _ _ _ (by rfl) (fun _ => by rfl) (by rfl)
   ·exact simB_nil
theorem fn_skip_blanks {tn : Bool} (H : KF c sa is) : FnV c 3 tn (.ref 343) F_skip_blanks := @FnIs.fn _ _ _ _ _ _ _ _ _ _ _ _ _ _ H.i_skip_blanks (@sim_skip_blanks_ _ _ _ _ H)
theorem sim_optional_blank_ {tn : Bool} (H : KF c sa is) : SimB c 4 tn s_optional_blank b_optional_blank m_optional_blank := by
 refine simB_cons ?_ ?_
 ·refine @sim_set _ _ _ _ _ _ _ _ _ _ ⟨by rfl, fun _ => by rfl⟩ ?_ (fun _ => by rfl)
  ·refine @sim_meth _ _ _ _ _ _ _ _ _ _ _ _ _ _ _ (fun _ => ⟨_, by rfl⟩) (by rfl) H.m_read_expanded (fn_read_expanded H) (by decide) ?_ ?_
   ·exact @sim_loc _ _ _ _ _ _ _ (by rfl) (fun _ => by rfl) (by rfl)
   ·exact sim_nil
 ·refine simB_cons ?_ ?_
  ·refine sim_if ?_ ?_ ?_
   ·refine @simT_cmp _ _ _ _ _ _ _ _ _ _ _ ?_ ?_ p_ne (by rfl)
    ·refine @sim_item _ _ _ _ _ _ _ _ _ (fun _ _ _ => by rfl) ?_ ?_
     ·exact @sim_loc _ _ _ _ _ _ _ (by rfl) (fun _ => by rfl) (by rfl)
     ·exact sim_int
    ·exact @sim_glob _ _ _ _ _ _ _ (H.gi 20 rfl) (fun _ => by rfl) (by rfl)
   ·refine simB_cons ?_ ?_
    ·refine @sim_expr _ _ _ _ _ _ _ ?_ (fun _ => by rfl) (fun _ => by rfl)
     ·refine @sim_call _ _ _ _ _ _ _ _ _ _ _ _ (by rfl) ?_ (keep_fn (H.kp 38 rfl)) (fn_unread H) (by decide) ?_
      ·exact @sim_glob _ _ _ _ _ _ _ (H.gr 38 rfl) (fun _ => by rfl) (by rfl)
      ·refine sim_cons (hn := by rfl) ?_ ?_
       ·exact @sim_loc _ _ _ _ _ _ _ (by rfl) (fun _ => by rfl) (by rfl)
       ·refine sim_cons (hn := by rfl) ?_ ?_
        ·exact @sim_loc _ _ _ _ _ _ _ (by rfl) (fun _ => by rfl) (by rfl)
        ·exact sim_nil
    ·exact simB_nil
   ·exact simB_nil
  ·exact simB_nil
theorem fn_optional_blank {tn : Bool} (H : KF c sa is) : FnV c 5 tn (.ref 350) F_optional_blank := @FnIs.fn _ _ _ _ _ _ _ _ _ _ _ _ _ _ H.i_optional_blank (@sim_optional_blank_ _ _ _ _ H)
theorem sim_spells_ {tn : Bool} (H : KF c sa is) : SimB c 0 tn s_spells b_spells m_spells := by
 refine simB_cons ?_ ?_
 ·refine sim_ret ?_
  ·refine sim_and ?_ ?_
   ·refine @sim_cmp _ _ _ _ _ _ _ _ _ _ _ ?_ ?_ p_isNot (by rfl)
    ·exact @sim_loc _ _ _ _ _ _ _ (by rfl) (fun _ => by rfl) (by rfl)
    ·exact sim_none
   ·refine sim_and ?_ ?_
    ·refine @sim_chain _ _ _ _ _ _ _ _ _ _ _ _ _ _ _ ?_ ?_ ?_ p_le p_le (by rfl)
     ·exact sim_int
     ·refine @sim_item _ _ _ _ _ _ _ _ _ (fun _ _ _ => by rfl) ?_ ?_
      ·exact @sim_loc _ _ _ _ _ _ _ (by rfl) (fun _ => by rfl) (by rfl)
      ·exact sim_int
     ·exact sim_int
    ·refine sim_and1 ?_
     ·refine sim_or ?_ ?_
      ·refine @sim_cmp _ _ _ _ _ _ _ _ _ _ _ ?_ ?_ p_eq (by rfl)
       ·refine @sim_item _ _ _ _ _ _ _ _ _ (fun _ _ _ => by rfl) ?_ ?_
        ·exact @sim_loc _ _ _ _ _ _ _ (by rfl) (fun _ => by rfl) (by rfl)
        ·exact sim_int
       ·refine @sim_call _ _ _ _ _ _ _ _ _ _ _ _ (by rfl) ?_ (keep_blt _) fn_ord (by decide) ?_
        ·exact @sim_blt _ _ _ _ _ _ _ H.b_ord (fun _ => by rfl) (by rfl)
        ·refine sim_cons (hn := by rfl) ?_ ?_
         ·exact @sim_loc _ _ _ _ _ _ _ (by rfl) (fun _ => by rfl) (by rfl)
         ·exact sim_nil
      ·refine sim_and1 ?_
       ·refine @sim_cmp _ _ _ _ _ _ _ _ _ _ _ ?_ ?_ p_eq (by rfl)
        ·refine @sim_item _ _ _ _ _ _ _ _ _ (fun _ _ _ => by rfl) ?_ ?_
         ·exact @sim_loc _ _ _ _ _ _ _ (by rfl) (fun _ => by rfl) (by rfl)
         ·exact sim_int
        ·refine @sim_bin _ _ _ _ _ _ _ _ _ _ _ ?_ ?_ p_sub
         ·refine @sim_call _ _ _ _ _ _ _ _ _ _ _ _ (by rfl) ?_ (keep_blt _) fn_ord (by decide) ?_
          ·exact @sim_blt _ _ _ _ _ _ _ H.b_ord (fun _ => by rfl) (by rfl)
          ·refine sim_cons (hn := by rfl) ?_ ?_
           ·exact @sim_loc _ _ _ _ _ _ _ (by rfl) (fun _ => by rfl) (by rfl)
           ·exact sim_nil
         ·exact sim_int
 ·exact simB_nil
theorem fn_spells {tn : Bool} (H : KF c sa is) : FnV c 1 tn (.ref 357) F_spells := @FnIs.fn _ _ _ _ _ _ _ _ _ _ _ _ _ _ H.i_spells (@sim_spells_ _ _ _ _ H)
theorem sim_keyword_ {tn : Bool} (H : KF c sa is) : SimB c 4 tn s_keyword b_keyword m_keyword := by
 refine simB_cons ?_ ?_
 ·refine @sim_set _ _ _ _ _ _ _ _ _ _ ⟨by rfl, fun _ => by rfl⟩ ?_ (fun _ => by rfl)
  ·refine sim_list ?_
   ·exact sim_nil
 ·refine simB_cons ?_ ?_
  ·refine @sim_while _ _ _ _ _ _ _ _ _ 200 ?_ ?_
   ·refine @simT_cmp _ _ _ _ _ _ _ _ _ _ _ ?_ ?_ p_lt (by rfl)
    ·refine @sim_call _ _ _ _ _ _ _ _ _ _ _ _ (by rfl) ?_ (keep_blt _) fn_lenA (by decide) ?_
     ·exact @sim_blt _ _ _ _ _ _ _ H.b_len (fun _ => by rfl) (by rfl)
     ·refine sim_cons (hn := by rfl) ?_ ?_
      ·exact @sim_loc _ _ _ _ _ _ _ (by rfl) (fun _ => by rfl) (by rfl)
      ·exact sim_nil
    ·refine @sim_call _ _ _ _ _ _ _ _ _ _ _ _ (by rfl) ?_ (keep_blt _) fn_lenA (by decide) ?_
     ·exact @sim_blt _ _ _ _ _ _ _ H.b_len (fun _ => by rfl) (by rfl)
     ·refine sim_cons (hn := by rfl) ?_ ?_
      ·exact @sim_loc _ _ _ _ _ _ _ (by rfl) (fun _ => by rfl) (by rfl)
      ·exact sim_nil
   ·refine simB_cons ?_ ?_
    ·refine @sim_set _ _ _ _ _ _ _ _ _ _ ⟨by rfl, fun _ => by rfl⟩ ?_ (fun _ => by rfl)
     ·refine @sim_meth _ _ _ _ _ _ _ _ _ _ _ _ _ _ _ (fun _ => ⟨_, by rfl⟩) (by rfl) H.m_read_expanded (fn_read_expanded H) (by decide) ?_ ?_
      ·exact @sim_loc _ _ _ _ _ _ _ (by rfl) (fun _ => by rfl) (by rfl)
      ·exact sim_nil
    ·refine simB_cons ?_ ?_
     ·refine sim_if ?_ ?_ ?_
      ·refine @simT_plain _ _ _ _ _ _ ?_ (fun _ => by rfl)
       ·refine @sim_call _ _ _ _ _ _ _ _ _ _ _ _ (by rfl) ?_ (keep_fn (H.kp 35 rfl)) (fn_spells H) (by decide) ?_
        ·exact @sim_glob _ _ _ _ _ _ _ (H.gr 35 rfl) (fun _ => by rfl) (by rfl)
        ·refine sim_cons (hn := by rfl) ?_ ?_
         ·refine @sim_item _ _ _ _ _ _ _ _ _ (fun _ _ _ => by rfl) ?_ ?_
          ·exact @sim_loc _ _ _ _ _ _ _ (by rfl) (fun _ => by rfl) (by rfl)
          ·exact sim_int
         ·refine sim_cons (hn := by rfl) ?_ ?_
          ·refine @sim_item _ _ _ _ _ _ _ _ _ (fun _ _ _ => by rfl) ?_ ?_
           ·exact @sim_loc _ _ _ _ _ _ _ (by rfl) (fun _ => by rfl) (by rfl)
           ·refine @sim_call _ _ _ _ _ _ _ _ _ _ _ _ (by rfl) ?_ (keep_blt _) fn_lenA (by decide) ?_
            ·exact @sim_blt _ _ _ _ _ _ _ H.b_len (fun _ => by rfl) (by rfl)
            ·refine sim_cons (hn := by rfl) ?_ ?_
             ·exact @sim_loc _ _ _ _ _ _ _ (by rfl) (fun _ => by rfl) (by rfl)
             ·exact sim_nil
          ·exact sim_nil
      ·refine simB_cons ?_ ?_
       ·refine @sim_expr _ _ _ _ _ _ _ ?_ (fun _ => by rfl) (fun _ => by rfl)
        ·refine @sim_append _ _ _ _ _ _ _ _ _ _ (fun _ => ⟨_, by rfl⟩) (by rfl) ?_ ?_
         ·exact @sim_loc _ _ _ _ _ _ _ (by rfl) (fun _ => by rfl) (by rfl)
         ·refine @sim_item _ _ _ _ _ _ _ _ _ (fun _ _ _ => by rfl) ?_ ?_
          ·exact @sim_loc _ _ _ _ _ _ _ (by rfl) (fun _ => by rfl) (by rfl)
          ·exact sim_int
       ·exact simB_nil
      ·refine simB_cons ?_ ?_
       ·refine sim_if ?_ ?_ ?_
        ·refine simT_or ?_ ?_
         ·refine @simT_cmp _ _ _ _ _ _ _ _ _ _ _ ?_ ?_ p_ne (by rfl)
          ·refine @sim_item _ _ _ _ _ _ _ _ _ (fun _ _ _ => by rfl) ?_ ?_
           ·exact @sim_loc _ _ _ _ _ _ _ (by rfl) (fun _ => by rfl) (by rfl)
           ·exact sim_int
          ·exact @sim_glob _ _ _ _ _ _ _ (H.gi 20 rfl) (fun _ => by rfl) (by rfl)
         ·refine simT_or1 ?_
          ·refine @simT_cmp _ _ _ _ _ _ _ _ _ _ _ ?_ ?_ p_ne (by rfl)
           ·exact @sim_loc _ _ _ _ _ _ _ (by rfl) (fun _ => by rfl) (by rfl)
           ·refine sim_list ?_
            ·exact sim_nil
        ·refine simB_cons ?_ ?_
         ·refine @sim_expr _ _ _ _ _ _ _ ?_ (fun _ => by rfl) (fun _ => by rfl)
          ·refine @sim_call _ _ _ _ _ _ _ _ _ _ _ _ (by rfl) ?_ (keep_fn (H.kp 38 rfl)) (fn_unread H) (by decide) ?_
           ·exact @sim_glob _ _ _ _ _ _ _ (H.gr 38 rfl) (fun _ => by rfl) (by rfl)
           ·refine sim_cons (hn := by rfl) ?_ ?_
            ·exact @sim_loc _ _ _ _ _ _ _ (by rfl) (fun _ => by rfl) (by rfl)
            ·refine sim_cons (hn := by rfl) ?_ ?_
             ·exact @sim_loc _ _ _ _ _ _ _ (by rfl) (fun _ => by rfl) (by rfl)
             ·exact sim_nil
         ·refine simB_cons ?_ ?_
          ·refine @sim_forL _ _ _ _ _ _ _ _ _ _ _ ?_ ?_ ?_ (fun _ _ => by rfl)
           ·refine sim_rev ?_
            ·exact @sim_loc _ _ _ _ _ _ _ (by rfl) (fun _ => by rfl) (by rfl)
           ·exact @tgt_name _ _ _ _ _ _ _ ⟨by rfl, fun _ => by rfl⟩
           ·refine simB_cons ?_ ?_
            ·refine @sim_expr _ _ _ _ _ _ _ ?_ (fun _ => by rfl) (fun _ => by rfl)
             ·refine @sim_meth _ _ _ _ _ _ _ _ _ _ _ _ _ _ _ (fun _ => ⟨_, by rfl⟩) (by rfl) H.m_back (fn_back H) (by decide) ?_ ?_
              ·exact @sim_loc _ _ _ _ _ _ _ (by rfl) (fun _ => by rfl) (by rfl)
              ·refine sim_cons (hn := by rfl) ?_ ?_
               ·exact @sim_loc _ _ _ _ _ _ _ (by rfl) (fun _ => by rfl) (by rfl)
               ·exact sim_nil
            ·exact simB_nil
          ·refine simB_cons ?_ ?_
           ·refine sim_ret ?_
            ·exact sim_bool
           ·exact simB_nil
        ·exact simB_nil
       ·exact simB_nil
     ·exact simB_nil
  ·refine simB_cons ?_ ?_
   ·refine sim_ret ?_
    ·exact sim_bool
   ·exact simB_nil
theorem fn_keyword {tn : Bool} (H : KF c sa is) : FnV c 5 tn (.ref 364) F_keyword := @FnIs.fn _ _ _ _ _ _ _ _ _ _ _ _ _ _ H.i_keyword (@sim_keyword_ _ _ _ _ H)
theorem sim_signs_ {tn : Bool} (H : KF c sa is) : SimB c 3 tn s_signs b_signs m_signs := by
 refine simB_cons ?_ ?_
 ·refine @sim_set _ _ _ _ _ _ _ _ _ _ ⟨by rfl, fun _ => by rfl⟩ ?_ (fun _ => by rfl)
  ·exact sim_bool
 ·refine simB_cons ?_ ?_
  ·refine @sim_set _ _ _ _ _ _ _ _ _ _ ⟨by rfl, fun _ => by rfl⟩ ?_ (fun _ => by rfl)
   ·refine @sim_call _ _ _ _ _ _ _ _ _ _ _ _ (by rfl) ?_ (keep_fn (H.kp 34 rfl)) (fn_skip_blanks H) (by decide) ?_
    ·exact @sim_glob _ _ _ _ _ _ _ (H.gr 34 rfl) (fun _ => by rfl) (by rfl)
    ·refine sim_cons (hn := by rfl) ?_ ?_
     ·exact @sim_loc _ _ _ _ _ _ _ (by rfl) (fun _ => by rfl) (by rfl)
     ·exact sim_nil
  ·refine simB_cons ?_ ?_
   ·refine @sim_while _ _ _ _ _ _ _ _ _ 200 ?_ ?_
    ·refine simT_or ?_ ?_
     ·refine @simT_cmp _ _ _ _ _ _ _ _ _ _ _ ?_ ?_ p_eq (by rfl)
      ·refine @sim_item _ _ _ _ _ _ _ _ _ (fun _ _ _ => by rfl) ?_ ?_
       ·exact @sim_loc _ _ _ _ _ _ _ (by rfl) (fun _ => by rfl) (by rfl)
       ·exact sim_int
      ·exact @sim_glob _ _ _ _ _ _ _ H.g_PLUS (fun _ => by rfl) (by rfl)
     ·refine simT_or1 ?_
      ·refine @simT_cmp _ _ _ _ _ _ _ _ _ _ _ ?_ ?_ p_eq (by rfl)
       ·refine @sim_item _ _ _ _ _ _ _ _ _ (fun _ _ _ => by rfl) ?_ ?_
        ·exact @sim_loc _ _ _ _ _ _ _ (by rfl) (fun _ => by rfl) (by rfl)
        ·exact sim_int
       ·exact @sim_glob _ _ _ _ _ _ _ H.g_MINUS (fun _ => by rfl) (by rfl)
    ·refine simB_cons ?_ ?_
     ·refine sim_if ?_ ?_ ?_
      ·refine @simT_cmp _ _ _ _ _ _ _ _ _ _ _ ?_ ?_ p_eq (by rfl)
       ·refine @sim_item _ _ _ _ _ _ _ _ _ (fun _ _ _ => by rfl) ?_ ?_
        ·exact @sim_loc _ _ _ _ _ _ _ (by rfl) (fun _ => by rfl) (by rfl)
        ·exact sim_int
       ·exact @sim_glob _ _ _ _ _ _ _ H.g_MINUS (fun _ => by rfl) (by rfl)
      ·refine simB_cons ?_ ?_
       ·refine @sim_set _ _ _ _ _ _ _ _ _ _ ⟨by rfl, fun _ => by rfl⟩ ?_ (fun _ => by rfl)
        ·refine sim_not ?_
         ·exact @sim_loc _ _ _ _ _ _ _ (by rfl) (fun _ => by rfl) (by rfl)
       ·exact simB_nil
      ·exact simB_nil
     ·refine simB_cons ?_ ?_
      ·refine @sim_set _ _ _ _ _ _ _ _ _ _ ⟨by rfl, fun _ => by rfl⟩ ?_ (fun _ => by rfl)
       ·refine @sim_call _ _ _ _ _ _ _ _ _ _ _ _ (by rfl) ?_ (keep_fn (H.kp 34 rfl)) (fn_skip_blanks H) (by decide) ?_
        ·exact @sim_glob _ _ _ _ _ _ _ (H.gr 34 rfl) (fun _ => by rfl) (by rfl)
        ·refine sim_cons (hn := by rfl) ?_ ?_
         ·exact @sim_loc _ _ _ _ _ _ _ (by rfl) (fun _ => by rfl) (by rfl)
         ·exact sim_nil
      ·exact simB_nil
   ·refine simB_cons ?_ ?_
    ·refine sim_ret ?_
     ·refine sim_tup ?_
      ·refine sim_cons (hn := by rfl) ?_ ?_
       ·exact @sim_loc _ _ _ _ _ _ _ (by rfl) (fun _ => by rfl) (by rfl)
       ·refine sim_cons (hn := by rfl) ?_ ?_
        ·exact @sim_loc _ _ _ _ _ _ _ (by rfl) (fun _ => by rfl) (by rfl)
        ·exact sim_nil
    ·exact simB_nil
theorem fn_signs {tn : Bool} (H : KF c sa is) : FnV c 4 tn (.ref 371) F_signs := @FnIs.fn _ _ _ _ _ _ _ _ _ _ _ _ _ _ H.i_signs (@sim_signs_ _ _ _ _ H)
theorem sim_digit_of_ {tn : Bool} (H : KF c sa is) : SimB c 0 tn s_digit_of b_digit_of m_digit_of := by
 refine simB_cons ?_ ?_
 ·refine sim_if ?_ ?_ ?_
  ·refine @simT_cmp _ _ _ _ _ _ _ _ _ _ _ ?_ ?_ p_is (by rfl)
   ·exact @sim_loc _ _ _ _ _ _ _ (by rfl) (fun _ => by rfl) (by rfl)
   ·exact sim_none
  ·refine simB_cons ?_ ?_
   ·refine sim_ret ?_
    ·refine @sim_un _ _ _ _ _ _ _ _ _ ?_ p_neg
     ·exact sim_int
   ·exact simB_nil
  ·exact simB_nil
 ·refine simB_cons ?_ ?_
  ·refine @sim_setTup _ _ _ _ _ _ _ _ _ _ _ ⟨fun _ => .name ⟨by rfl, fun _ => by rfl⟩ (.name ⟨by rfl, fun _ => by rfl⟩ (.nil)), fun _ => by rfl⟩ ?_ (fun _ => by rfl) (fun _ => by rfl)
   ·exact @sim_loc _ _ _ _ _ _ _ (by rfl) (fun _ => by rfl) (by rfl)
  ·refine simB_cons ?_ ?_
   ·refine sim_if ?_ ?_ ?_
    ·refine simT_and ?_ ?_
     ·refine @simT_cmp _ _ _ _ _ _ _ _ _ _ _ ?_ ?_ p_eq (by rfl)
      ·exact @sim_loc _ _ _ _ _ _ _ (by rfl) (fun _ => by rfl) (by rfl)
      ·exact @sim_glob _ _ _ _ _ _ _ (H.gi 16 rfl) (fun _ => by rfl) (by rfl)
     ·refine simT_and1 ?_
      ·refine @simT_chain _ _ _ _ _ _ _ _ _ _ _ _ _ _ _ ?_ ?_ ?_ p_le p_lt (by rfl)
       ·exact sim_int
       ·exact @sim_loc _ _ _ _ _ _ _ (by rfl) (fun _ => by rfl) (by rfl)
       ·refine @sim_bin _ _ _ _ _ _ _ _ _ _ _ ?_ ?_ p_add
        ·exact sim_int
        ·refine @sim_call _ _ _ _ _ _ _ _ _ _ _ _ (by rfl) ?_ (keep_blt _) fn_min (by decide) ?_
         ·exact @sim_blt _ _ _ _ _ _ _ H.b_min (fun _ => by rfl) (by rfl)
         ·refine sim_cons (hn := by rfl) ?_ ?_
          ·exact @sim_loc _ _ _ _ _ _ _ (by rfl) (fun _ => by rfl) (by rfl)
          ·refine sim_cons (hn := by rfl) ?_ ?_
           ·exact sim_int
           ·exact sim_nil
    ·refine simB_cons ?_ ?_
     ·refine sim_ret ?_
      ·refine @sim_bin _ _ _ _ _ _ _ _ _ _ _ ?_ ?_ p_sub
       ·exact @sim_loc _ _ _ _ _ _ _ (by rfl) (fun _ => by rfl) (by rfl)
       ·exact sim_int
     ·exact simB_nil
    ·exact simB_nil
   ·refine simB_cons ?_ ?_
    ·refine sim_if ?_ ?_ ?_
     ·refine simT_and ?_ ?_
      ·refine @simT_cmp _ _ _ _ _ _ _ _ _ _ _ ?_ ?_ p_eq (by rfl)
       ·exact @sim_loc _ _ _ _ _ _ _ (by rfl) (fun _ => by rfl) (by rfl)
       ·exact sim_int
      ·refine simT_and ?_ ?_
       ·refine @simT_chain _ _ _ _ _ _ _ _ _ _ _ _ _ _ _ ?_ ?_ ?_ p_le p_le (by rfl)
        ·exact sim_int
        ·exact @sim_loc _ _ _ _ _ _ _ (by rfl) (fun _ => by rfl) (by rfl)
        ·exact sim_int
       ·refine simT_and1 ?_
        ·refine simT_or ?_ ?_
         ·refine @simT_cmp _ _ _ _ _ _ _ _ _ _ _ ?_ ?_ p_eq (by rfl)
          ·exact @sim_loc _ _ _ _ _ _ _ (by rfl) (fun _ => by rfl) (by rfl)
          ·exact @sim_glob _ _ _ _ _ _ _ (H.gi 8 rfl) (fun _ => by rfl) (by rfl)
         ·refine simT_or1 ?_
          ·refine @simT_cmp _ _ _ _ _ _ _ _ _ _ _ ?_ ?_ p_eq (by rfl)
           ·exact @sim_loc _ _ _ _ _ _ _ (by rfl) (fun _ => by rfl) (by rfl)
           ·exact @sim_glob _ _ _ _ _ _ _ (H.gi 16 rfl) (fun _ => by rfl) (by rfl)
     ·refine simB_cons ?_ ?_
      ·refine sim_ret ?_
       ·refine @sim_bin _ _ _ _ _ _ _ _ _ _ _ ?_ ?_ p_sub
        ·exact @sim_loc _ _ _ _ _ _ _ (by rfl) (fun _ => by rfl) (by rfl)
        ·exact sim_int
      ·exact simB_nil
     ·exact simB_nil
    ·refine simB_cons ?_ ?_
     ·refine sim_ret ?_
      ·refine @sim_un _ _ _ _ _ _ _ _ _ ?_ p_neg
       ·exact sim_int
     ·exact simB_nil
theorem fn_digit_of {tn : Bool} (H : KF c sa is) : FnV c 1 tn (.ref 385) F_digit_of := @FnIs.fn _ _ _ _ _ _ _ _ _ _ _ _ _ _ H.i_digit_of (@sim_digit_of_ _ _ _ _ H)
theorem sim_written_number_ {tn : Bool} (H : KF c sa is) : SimB c 2 tn s_written_number b_written_number m_written_number := by
 refine simB_cons ?_ ?_
 ·refine @sim_set _ _ _ _ _ _ _ _ _ _ ⟨by rfl, fun _ => by rfl⟩ ?_ (fun _ => by rfl)
  ·exact sim_int
 ·refine simB_cons ?_ ?_
  ·refine sim_if ?_ ?_ ?_
   ·refine @simT_cmp _ _ _ _ _ _ _ _ _ _ _ ?_ ?_ p_eq (by rfl)
    ·refine @sim_item _ _ _ _ _ _ _ _ _ (fun _ _ _ => by rfl) ?_ ?_
     ·exact @sim_loc _ _ _ _ _ _ _ (by rfl) (fun _ => by rfl) (by rfl)
     ·exact sim_int
    ·exact @sim_glob _ _ _ _ _ _ _ H.g_OCTAL_MARK (fun _ => by rfl) (by rfl)
   ·refine simB_cons ?_ ?_
    ·refine @sim_set _ _ _ _ _ _ _ _ _ _ ⟨by rfl, fun _ => by rfl⟩ ?_ (fun _ => by rfl)
     ·exact sim_int
    ·exact simB_nil
   ·refine simB_cons ?_ ?_
    ·refine sim_if ?_ ?_ ?_
     ·refine @simT_cmp _ _ _ _ _ _ _ _ _ _ _ ?_ ?_ p_eq (by rfl)
      ·refine @sim_item _ _ _ _ _ _ _ _ _ (fun _ _ _ => by rfl) ?_ ?_
       ·exact @sim_loc _ _ _ _ _ _ _ (by rfl) (fun _ => by rfl) (by rfl)
       ·exact sim_int
      ·exact @sim_glob _ _ _ _ _ _ _ H.g_HEXADECIMAL_MARK (fun _ => by rfl) (by rfl)
     ·refine simB_cons ?_ ?_
      ·refine @sim_set _ _ _ _ _ _ _ _ _ _ ⟨by rfl, fun _ => by rfl⟩ ?_ (fun _ => by rfl)
       ·exact sim_int
      ·exact simB_nil
     ·exact simB_nil
    ·exact simB_nil
  ·refine simB_cons ?_ ?_
   ·refine sim_if ?_ ?_ ?_
    ·refine @simT_cmp _ _ _ _ _ _ _ _ _ _ _ ?_ ?_ p_ne (by rfl)
     ·exact @sim_loc _ _ _ _ _ _ _ (by rfl) (fun _ => by rfl) (by rfl)
     ·exact sim_int
    ·refine simB_cons ?_ ?_
     ·refine @sim_set _ _ _ _ _ _ _ _ _ _ ⟨by rfl, fun _ => by rfl⟩ ?_ (fun _ => by rfl)
      ·refine @sim_meth _ _ _ _ _ _ _ _ _ _ _ _ _ _ _ (fun _ => ⟨_, by rfl⟩) (by rfl) H.m_read_expanded (fn_read_expanded H) (by decide) ?_ ?_
       ·exact @sim_loc _ _ _ _ _ _ _ (by rfl) (fun _ => by rfl) (by rfl)
       ·exact sim_nil
     ·exact simB_nil
    ·exact simB_nil
   ·refine simB_cons ?_ ?_
    ·refine @sim_set _ _ _ _ _ _ _ _ _ _ ⟨by rfl, fun _ => by rfl⟩ ?_ (fun _ => by rfl)
     ·refine @sim_call _ _ _ _ _ _ _ _ _ _ _ _ (by rfl) ?_ (keep_fn (H.kp 20 rfl)) (fn_digit_of H) (by decide) ?_
      ·exact @sim_glob _ _ _ _ _ _ _ (H.gr 20 rfl) (fun _ => by rfl) (by rfl)
      ·refine sim_cons (hn := by rfl) ?_ ?_
       ·refine @sim_item _ _ _ _ _ _ _ _ _ (fun _ _ _ => by rfl) ?_ ?_
        ·exact @sim_loc _ _ _ _ _ _ _ (by rfl) (fun _ => by rfl) (by rfl)
        ·exact sim_int
       ·refine sim_cons (hn := by rfl) ?_ ?_
        ·exact @sim_loc _ _ _ _ _ _ _ (by rfl) (fun _ => by rfl) (by rfl)
        ·exact sim_nil
    ·refine simB_cons ?_ ?_
     ·refine sim_if ?_ ?_ ?_
      ·refine @simT_cmp _ _ _ _ _ _ _ _ _ _ _ ?_ ?_ p_lt (by rfl)
       ·exact @sim_loc _ _ _ _ _ _ _ (by rfl) (fun _ => by rfl) (by rfl)
       ·exact sim_int
      ·exact simB_stuckS
      ·exact simB_nil
     ·refine simB_cons ?_ ?_
      ·refine @sim_set _ _ _ _ _ _ _ _ _ _ ⟨by rfl, fun _ => by rfl⟩ ?_ (fun _ => by rfl)
       ·exact sim_int
      ·refine simB_cons ?_ ?_
       ·refine @sim_while _ _ _ _ _ _ _ _ _ 200 ?_ ?_
        ·refine @simT_cmp _ _ _ _ _ _ _ _ _ _ _ ?_ ?_ p_ge (by rfl)
         ·exact @sim_loc _ _ _ _ _ _ _ (by rfl) (fun _ => by rfl) (by rfl)
         ·exact sim_int
        ·refine simB_cons ?_ ?_
         ·refine @sim_set _ _ _ _ _ _ _ _ _ _ ⟨by rfl, fun _ => by rfl⟩ ?_ (fun _ => by rfl)
          ·refine @sim_bin _ _ _ _ _ _ _ _ _ _ _ ?_ ?_ p_add
           ·refine @sim_bin _ _ _ _ _ _ _ _ _ _ _ ?_ ?_ p_mul
            ·exact @sim_loc _ _ _ _ _ _ _ (by rfl) (fun _ => by rfl) (by rfl)
            ·exact @sim_loc _ _ _ _ _ _ _ (by rfl) (fun _ => by rfl) (by rfl)
           ·exact @sim_loc _ _ _ _ _ _ _ (by rfl) (fun _ => by rfl) (by rfl)
         ·refine simB_cons ?_ ?_
          ·refine sim_if ?_ ?_ ?_
           ·refine @simT_cmp _ _ _ _ _ _ _ _ _ _ _ ?_ ?_ p_gt (by rfl)
            ·exact @sim_loc _ _ _ _ _ _ _ (by rfl) (fun _ => by rfl) (by rfl)
            ·exact @sim_glob _ _ _ _ _ _ _ (H.gi 11 rfl) (fun _ => by rfl) (by rfl)
           ·exact simB_stuckS
           ·exact simB_nil
          ·refine simB_cons ?_ ?_
           ·refine @sim_set _ _ _ _ _ _ _ _ _ _ ⟨by rfl, fun _ => by rfl⟩ ?_ (fun _ => by rfl)
            ·refine @sim_meth _ _ _ _ _ _ _ _ _ _ _ _ _ _ _ (fun _ => ⟨_, by rfl⟩) (by rfl) H.m_read_expanded (fn_read_expanded H) (by decide) ?_ ?_
             ·exact @sim_loc _ _ _ _ _ _ _ (by rfl) (fun _ => by rfl) (by rfl)
             ·exact sim_nil
           ·refine simB_cons ?_ ?_
            ·refine @sim_set _ _ _ _ _ _ _ _ _ _ ⟨by rfl, fun _ => by rfl⟩ ?_ (fun _ => by rfl)
             ·refine @sim_call _ _ _ _ _ _ _ _ _ _ _ _ (by rfl) ?_ (keep_fn (H.kp 20 rfl)) (fn_digit_of H) (by decide) ?_
              ·exact @sim_glob _ _ _ _ _ _ _ (H.gr 20 rfl) (fun _ => by rfl) (by rfl)
              ·refine sim_cons (hn := by rfl) ?_ ?_
               ·refine @sim_item _ _ _ _ _ _ _ _ _ (fun _ _ _ => by rfl) ?_ ?_
                ·exact @sim_loc _ _ _ _ _ _ _ (by rfl) (fun _ => by rfl) (by rfl)
                ·exact sim_int
               ·refine sim_cons (hn := by rfl) ?_ ?_
                ·exact @sim_loc _ _ _ _ _ _ _ (by rfl) (fun _ => by rfl) (by rfl)
                ·exact sim_nil
            ·exact simB_nil
       ·refine simB_cons ?_ ?_
        ·refine sim_ret ?_
         ·refine sim_tup ?_
          ·refine sim_cons (hn := by rfl) ?_ ?_
           ·exact @sim_loc _ _ _ _ _ _ _ (by rfl) (fun _ => by rfl) (by rfl)
           ·refine sim_cons (hn := by rfl) ?_ ?_
            ·exact @sim_loc _ _ _ _ _ _ _ (by rfl) (fun _ => by rfl) (by rfl)
            ·refine sim_cons (hn := by rfl) ?_ ?_
             ·exact @sim_loc _ _ _ _ _ _ _ (by rfl) (fun _ => by rfl) (by rfl)
             ·exact sim_nil
        ·exact simB_nil
theorem fn_written_number {tn : Bool} (H : KF c sa is) : FnV c 3 tn (.ref 399) F_written_number := @FnIs.fn _ _ _ _ _ _ _ _ _ _ _ _ _ _ H.i_written_number (@sim_written_number_ _ _ _ _ H)
theorem sim_number_parts_ {tn : Bool} (H : KF c sa is) : SimB c 4 tn s_number_parts b_number_parts m_number_parts := by
 refine simB_cons ?_ ?_
 ·refine @sim_setTup _ _ _ _ _ _ _ _ _ _ _ ⟨fun _ => .name ⟨by rfl, fun _ => by rfl⟩ (.name ⟨by rfl, fun _ => by rfl⟩ (.nil)), fun _ => by rfl⟩ ?_ (fun _ => by rfl) (fun _ => by rfl)
  ·refine @sim_call _ _ _ _ _ _ _ _ _ _ _ _ (by rfl) ?_ (keep_fn (H.kp 33 rfl)) (fn_signs H) (by decide) ?_
   ·exact @sim_glob _ _ _ _ _ _ _ (H.gr 33 rfl) (fun _ => by rfl) (by rfl)
   ·refine sim_cons (hn := by rfl) ?_ ?_
    ·exact @sim_loc _ _ _ _ _ _ _ (by rfl) (fun _ => by rfl) (by rfl)
    ·exact sim_nil
 ·refine simB_cons ?_ ?_
  ·refine sim_if ?_ ?_ ?_
   ·refine @simT_cmp _ _ _ _ _ _ _ _ _ _ _ ?_ ?_ p_eq (by rfl)
    ·refine @sim_item _ _ _ _ _ _ _ _ _ (fun _ _ _ => by rfl) ?_ ?_
     ·exact @sim_loc _ _ _ _ _ _ _ (by rfl) (fun _ => by rfl) (by rfl)
     ·exact sim_int
    ·exact @sim_glob _ _ _ _ _ _ _ H.g_BACK_QUOTE (fun _ => by rfl) (by rfl)
   ·exact simB_stuckS
   ·refine simB_cons ?_ ?_
    ·refine @sim_set _ _ _ _ _ _ _ _ _ _ ⟨by rfl, fun _ => by rfl⟩ ?_ (fun _ => by rfl)
     ·refine @sim_meth _ _ _ _ _ _ _ _ _ _ _ _ _ _ _ (fun _ => ⟨_, by rfl⟩) (by rfl) H.m_quantity (fn_quantity H) (by decide) ?_ ?_
      ·exact @sim_loc _ _ _ _ _ _ _ (by rfl) (fun _ => by rfl) (by rfl)
      ·refine sim_cons (hn := by rfl) ?_ ?_
       ·refine @sim_item _ _ _ _ _ _ _ _ _ (fun _ _ _ => by rfl) ?_ ?_
        ·exact @sim_loc _ _ _ _ _ _ _ (by rfl) (fun _ => by rfl) (by rfl)
        ·exact sim_int
       ·refine sim_cons (hn := by rfl) ?_ ?_
        ·refine @sim_item _ _ _ _ _ _ _ _ _ (fun _ _ _ => by rfl) ?_ ?_
         ·exact @sim_loc _ _ _ _ _ _ _ (by rfl) (fun _ => by rfl) (by rfl)
         ·exact sim_int
        ·exact sim_nil
    ·refine simB_cons ?_ ?_
     ·refine sim_if ?_ ?_ ?_
      ·refine @simT_cmp _ _ _ _ _ _ _ _ _ _ _ ?_ ?_ p_is (by rfl)
       ·exact @sim_loc _ _ _ _ _ _ _ (by rfl) (fun _ => by rfl) (by rfl)
       ·exact sim_none
      ·refine simB_cons ?_ ?_
       ·refine @sim_setTup _ _ _ _ _ _ _ _ _ _ _ ⟨fun _ => .name ⟨by rfl, fun _ => by rfl⟩ (.name ⟨by rfl, fun _ => by rfl⟩ (.name ⟨by rfl, fun _ => by rfl⟩ (.nil))), fun _ => by rfl⟩ ?_ (fun _ => by rfl) (fun _ => by rfl)
        ·refine @sim_call _ _ _ _ _ _ _ _ _ _ _ _ (by rfl) ?_ (keep_fn (H.kp 40 rfl)) (fn_written_number H) (by decide) ?_
         ·exact @sim_glob _ _ _ _ _ _ _ (H.gr 40 rfl) (fun _ => by rfl) (by rfl)
         ·refine sim_cons (hn := by rfl) ?_ ?_
          ·exact @sim_loc _ _ _ _ _ _ _ (by rfl) (fun _ => by rfl) (by rfl)
          ·refine sim_cons (hn := by rfl) ?_ ?_
           ·exact @sim_loc _ _ _ _ _ _ _ (by rfl) (fun _ => by rfl) (by rfl)
           ·exact sim_nil
       ·exact simB_nil
      ·exact simB_stuckS
     ·exact simB_nil
  ·refine simB_cons ?_ ?_
   ·refine sim_ret ?_
    ·refine sim_tup ?_
     ·refine sim_cons (hn := by rfl) ?_ ?_
      ·refine sim_ifexp ?_ ?_ ?_
       ·refine @simT_plain _ _ _ _ _ _ ?_ (fun _ => by rfl)
        ·exact @sim_loc _ _ _ _ _ _ _ (by rfl) (fun _ => by rfl) (by rfl)
       ·refine @sim_un _ _ _ _ _ _ _ _ _ ?_ p_neg
        ·exact @sim_loc _ _ _ _ _ _ _ (by rfl) (fun _ => by rfl) (by rfl)
       ·exact @sim_loc _ _ _ _ _ _ _ (by rfl) (fun _ => by rfl) (by rfl)
      ·refine sim_cons (hn := by rfl) ?_ ?_
       ·exact @sim_loc _ _ _ _ _ _ _ (by rfl) (fun _ => by rfl) (by rfl)
       ·refine sim_cons (hn := by rfl) ?_ ?_
        ·exact @sim_loc _ _ _ _ _ _ _ (by rfl) (fun _ => by rfl) (by rfl)
        ·exact sim_nil
   ·exact simB_nil
theorem fn_number_parts {tn : Bool} (H : KF c sa is) : FnV c 5 tn (.ref 406) F_number_parts := @FnIs.fn _ _ _ _ _ _ _ _ _ _ _ _ _ _ H.i_number_parts (@sim_number_parts_ _ _ _ _ H)
theorem sim_decimals_ {tn : Bool} (H : KF c sa is) : SimB c 4 tn s_decimals b_decimals m_decimals := by
 refine simB_cons ?_ ?_
 ·refine @sim_set _ _ _ _ _ _ _ _ _ _ ⟨by rfl, fun _ => by rfl⟩ ?_ (fun _ => by rfl)
  ·refine sim_list ?_
   ·exact sim_nil
 ·refine simB_cons ?_ ?_
  ·refine @sim_set _ _ _ _ _ _ _ _ _ _ ⟨by rfl, fun _ => by rfl⟩ ?_ (fun _ => by rfl)
   ·refine @sim_meth _ _ _ _ _ _ _ _ _ _ _ _ _ _ _ (fun _ => ⟨_, by rfl⟩) (by rfl) H.m_read_expanded (fn_read_expanded H) (by decide) ?_ ?_
    ·exact @sim_loc _ _ _ _ _ _ _ (by rfl) (fun _ => by rfl) (by rfl)
    ·exact sim_nil
  ·refine simB_cons ?_ ?_
   ·refine @sim_set _ _ _ _ _ _ _ _ _ _ ⟨by rfl, fun _ => by rfl⟩ ?_ (fun _ => by rfl)
    ·refine @sim_call _ _ _ _ _ _ _ _ _ _ _ _ (by rfl) ?_ (keep_fn (H.kp 20 rfl)) (fn_digit_of H) (by decide) ?_
     ·exact @sim_glob _ _ _ _ _ _ _ (H.gr 20 rfl) (fun _ => by rfl) (by rfl)
     ·refine sim_cons (hn := by rfl) ?_ ?_
      ·refine @sim_item _ _ _ _ _ _ _ _ _ (fun _ _ _ => by rfl) ?_ ?_
       ·exact @sim_loc _ _ _ _ _ _ _ (by rfl) (fun _ => by rfl) (by rfl)
       ·exact sim_int
      ·refine sim_cons (hn := by rfl) ?_ ?_
       ·exact sim_int
       ·exact sim_nil
   ·refine simB_cons ?_ ?_
    ·refine @sim_while _ _ _ _ _ _ _ _ _ 200 ?_ ?_
     ·refine @simT_cmp _ _ _ _ _ _ _ _ _ _ _ ?_ ?_ p_ge (by rfl)
      ·exact @sim_loc _ _ _ _ _ _ _ (by rfl) (fun _ => by rfl) (by rfl)
      ·exact sim_int
     ·refine simB_cons ?_ ?_
      ·refine sim_if ?_ ?_ ?_
       ·refine @simT_cmp _ _ _ _ _ _ _ _ _ _ _ ?_ ?_ p_lt (by rfl)
        ·refine @sim_call _ _ _ _ _ _ _ _ _ _ _ _ (by rfl) ?_ (keep_blt _) fn_lenA (by decide) ?_
         ·exact @sim_blt _ _ _ _ _ _ _ H.b_len (fun _ => by rfl) (by rfl)
         ·refine sim_cons (hn := by rfl) ?_ ?_
          ·exact @sim_loc _ _ _ _ _ _ _ (by rfl) (fun _ => by rfl) (by rfl)
          ·exact sim_nil
        ·exact @sim_glob _ _ _ _ _ _ _ (H.gi 12 rfl) (fun _ => by rfl) (by rfl)
       ·refine simB_cons ?_ ?_
        ·refine @sim_expr _ _ _ _ _ _ _ ?_ (fun _ => by rfl) (fun _ => by rfl)
         ·refine @sim_append _ _ _ _ _ _ _ _ _ _ (fun _ => ⟨_, by rfl⟩) (by rfl) ?_ ?_
          ·exact @sim_loc _ _ _ _ _ _ _ (by rfl) (fun _ => by rfl) (by rfl)
          ·exact @sim_loc _ _ _ _ _ _ _ (by rfl) (fun _ => by rfl) (by rfl)
        ·exact simB_nil
       ·exact simB_nil
      ·refine simB_cons ?_ ?_
       ·refine @sim_set _ _ _ _ _ _ _ _ _ _ ⟨by rfl, fun _ => by rfl⟩ ?_ (fun _ => by rfl)
        ·refine @sim_meth _ _ _ _ _ _ _ _ _ _ _ _ _ _ _ (fun _ => ⟨_, by rfl⟩) (by rfl) H.m_read_expanded (fn_read_expanded H) (by decide) ?_ ?_
         ·exact @sim_loc _ _ _ _ _ _ _ (by rfl) (fun _ => by rfl) (by rfl)
         ·exact sim_nil
       ·refine simB_cons ?_ ?_
        ·refine @sim_set _ _ _ _ _ _ _ _ _ _ ⟨by rfl, fun _ => by rfl⟩ ?_ (fun _ => by rfl)
         ·refine @sim_call _ _ _ _ _ _ _ _ _ _ _ _ (by rfl) ?_ (keep_fn (H.kp 20 rfl)) (fn_digit_of H) (by decide) ?_
          ·exact @sim_glob _ _ _ _ _ _ _ (H.gr 20 rfl) (fun _ => by rfl) (by rfl)
          ·refine sim_cons (hn := by rfl) ?_ ?_
           ·refine @sim_item _ _ _ _ _ _ _ _ _ (fun _ _ _ => by rfl) ?_ ?_
            ·exact @sim_loc _ _ _ _ _ _ _ (by rfl) (fun _ => by rfl) (by rfl)
            ·exact sim_int
           ·refine sim_cons (hn := by rfl) ?_ ?_
            ·exact sim_int
            ·exact sim_nil
        ·exact simB_nil
    ·refine simB_cons ?_ ?_
     ·refine sim_if ?_ ?_ ?_
      ·refine @simT_cmp _ _ _ _ _ _ _ _ _ _ _ ?_ ?_ p_ne (by rfl)
       ·refine @sim_item _ _ _ _ _ _ _ _ _ (fun _ _ _ => by rfl) ?_ ?_
        ·exact @sim_loc _ _ _ _ _ _ _ (by rfl) (fun _ => by rfl) (by rfl)
        ·exact sim_int
       ·exact @sim_glob _ _ _ _ _ _ _ (H.gi 20 rfl) (fun _ => by rfl) (by rfl)
      ·refine simB_cons ?_ ?_
       ·refine @sim_expr _ _ _ _ _ _ _ ?_ (fun _ => by rfl) (fun _ => by rfl)
        ·refine @sim_call _ _ _ _ _ _ _ _ _ _ _ _ (by rfl) ?_ (keep_fn (H.kp 38 rfl)) (fn_unread H) (by decide) ?_
         ·exact @sim_glob _ _ _ _ _ _ _ (H.gr 38 rfl) (fun _ => by rfl) (by rfl)
         ·refine sim_cons (hn := by rfl) ?_ ?_
          ·exact @sim_loc _ _ _ _ _ _ _ (by rfl) (fun _ => by rfl) (by rfl)
          ·refine sim_cons (hn := by rfl) ?_ ?_
           ·exact @sim_loc _ _ _ _ _ _ _ (by rfl) (fun _ => by rfl) (by rfl)
           ·exact sim_nil
       ·exact simB_nil
      ·exact simB_nil
     ·refine simB_cons ?_ ?_
      ·refine sim_ret ?_
       ·refine @sim_call _ _ _ _ _ _ _ _ _ _ _ _ (by rfl) ?_ (keep_fn (H.kp 24 rfl)) (fn_from_decimals H) (by decide) ?_
        ·exact @sim_glob _ _ _ _ _ _ _ (H.gr 24 rfl) (fun _ => by rfl) (by rfl)
        ·refine sim_cons (hn := by rfl) ?_ ?_
         ·exact @sim_loc _ _ _ _ _ _ _ (by rfl) (fun _ => by rfl) (by rfl)
         ·exact sim_nil
      ·exact simB_nil
theorem fn_decimals {tn : Bool} (H : KF c sa is) : FnV c 5 tn (.ref 413) F_decimals := @FnIs.fn _ _ _ _ _ _ _ _ _ _ _ _ _ _ H.i_decimals (@sim_decimals_ _ _ _ _ H)
theorem sim_factor_ {tn : Bool} (H : KF c sa is) : SimB c 5 tn s_factor b_factor m_factor := by
 refine simB_cons ?_ ?_
 ·refine sim_if ?_ ?_ ?_
  ·refine simT_or ?_ ?_
   ·refine @simT_cmp _ _ _ _ _ _ _ _ _ _ _ ?_ ?_ p_eq (by rfl)
    ·refine @sim_item _ _ _ _ _ _ _ _ _ (fun _ _ _ => by rfl) ?_ ?_
     ·exact @sim_loc _ _ _ _ _ _ _ (by rfl) (fun _ => by rfl) (by rfl)
     ·exact sim_int
    ·exact @sim_glob _ _ _ _ _ _ _ H.g_POINT (fun _ => by rfl) (by rfl)
   ·refine simT_or1 ?_
    ·refine @simT_cmp _ _ _ _ _ _ _ _ _ _ _ ?_ ?_ p_eq (by rfl)
     ·refine @sim_item _ _ _ _ _ _ _ _ _ (fun _ _ _ => by rfl) ?_ ?_
      ·exact @sim_loc _ _ _ _ _ _ _ (by rfl) (fun _ => by rfl) (by rfl)
      ·exact sim_int
     ·exact @sim_glob _ _ _ _ _ _ _ H.g_COMMA (fun _ => by rfl) (by rfl)
  ·refine simB_cons ?_ ?_
   ·refine sim_ret ?_
    ·refine sim_tup ?_
     ·refine sim_cons (hn := by rfl) ?_ ?_
      ·exact sim_int
      ·refine sim_cons (hn := by rfl) ?_ ?_
       ·refine @sim_call _ _ _ _ _ _ _ _ _ _ _ _ (by rfl) ?_ (keep_fn (H.kp 19 rfl)) (fn_decimals H) (by decide) ?_
        ·exact @sim_glob _ _ _ _ _ _ _ (H.gr 19 rfl) (fun _ => by rfl) (by rfl)
        ·refine sim_cons (hn := by rfl) ?_ ?_
         ·exact @sim_loc _ _ _ _ _ _ _ (by rfl) (fun _ => by rfl) (by rfl)
         ·exact sim_nil
       ·exact sim_nil
   ·exact simB_nil
  ·exact simB_nil
 ·refine simB_cons ?_ ?_
  ·refine @sim_expr _ _ _ _ _ _ _ ?_ (fun _ => by rfl) (fun _ => by rfl)
   ·refine @sim_call _ _ _ _ _ _ _ _ _ _ _ _ (by rfl) ?_ (keep_fn (H.kp 38 rfl)) (fn_unread H) (by decide) ?_
    ·exact @sim_glob _ _ _ _ _ _ _ (H.gr 38 rfl) (fun _ => by rfl) (by rfl)
    ·refine sim_cons (hn := by rfl) ?_ ?_
     ·exact @sim_loc _ _ _ _ _ _ _ (by rfl) (fun _ => by rfl) (by rfl)
     ·refine sim_cons (hn := by rfl) ?_ ?_
      ·exact @sim_loc _ _ _ _ _ _ _ (by rfl) (fun _ => by rfl) (by rfl)
      ·exact sim_nil
  ·refine simB_cons ?_ ?_
   ·refine @sim_setTup _ _ _ _ _ _ _ _ _ _ _ ⟨fun _ => .name ⟨by rfl, fun _ => by rfl⟩ (.name ⟨by rfl, fun _ => by rfl⟩ (.name ⟨by rfl, fun _ => by rfl⟩ (.nil))), fun _ => by rfl⟩ ?_ (fun _ => by rfl) (fun _ => by rfl)
    ·refine @sim_call _ _ _ _ _ _ _ _ _ _ _ _ (by rfl) ?_ (keep_fn (H.kp 29 rfl)) (fn_number_parts H) (by decide) ?_
     ·exact @sim_glob _ _ _ _ _ _ _ (H.gr 29 rfl) (fun _ => by rfl) (by rfl)
     ·refine sim_cons (hn := by rfl) ?_ ?_
      ·exact @sim_loc _ _ _ _ _ _ _ (by rfl) (fun _ => by rfl) (by rfl)
      ·exact sim_nil
   ·refine simB_cons ?_ ?_
    ·refine sim_if ?_ ?_ ?_
     ·refine simT_and ?_ ?_
      ·refine @simT_cmp _ _ _ _ _ _ _ _ _ _ _ ?_ ?_ p_eq (by rfl)
       ·exact @sim_loc _ _ _ _ _ _ _ (by rfl) (fun _ => by rfl) (by rfl)
       ·exact sim_int
      ·refine simT_and1 ?_
       ·refine simT_or ?_ ?_
        ·refine @simT_cmp _ _ _ _ _ _ _ _ _ _ _ ?_ ?_ p_eq (by rfl)
         ·refine @sim_item _ _ _ _ _ _ _ _ _ (fun _ _ _ => by rfl) ?_ ?_
          ·exact @sim_loc _ _ _ _ _ _ _ (by rfl) (fun _ => by rfl) (by rfl)
          ·exact sim_int
         ·exact @sim_glob _ _ _ _ _ _ _ H.g_POINT (fun _ => by rfl) (by rfl)
        ·refine simT_or1 ?_
         ·refine @simT_cmp _ _ _ _ _ _ _ _ _ _ _ ?_ ?_ p_eq (by rfl)
          ·refine @sim_item _ _ _ _ _ _ _ _ _ (fun _ _ _ => by rfl) ?_ ?_
           ·exact @sim_loc _ _ _ _ _ _ _ (by rfl) (fun _ => by rfl) (by rfl)
           ·exact sim_int
          ·exact @sim_glob _ _ _ _ _ _ _ H.g_COMMA (fun _ => by rfl) (by rfl)
     ·refine simB_cons ?_ ?_
      ·refine sim_ret ?_
       ·refine sim_tup ?_
        ·refine sim_cons (hn := by rfl) ?_ ?_
         ·exact @sim_loc _ _ _ _ _ _ _ (by rfl) (fun _ => by rfl) (by rfl)
         ·refine sim_cons (hn := by rfl) ?_ ?_
          ·refine @sim_call _ _ _ _ _ _ _ _ _ _ _ _ (by rfl) ?_ (keep_fn (H.kp 19 rfl)) (fn_decimals H) (by decide) ?_
           ·exact @sim_glob _ _ _ _ _ _ _ (H.gr 19 rfl) (fun _ => by rfl) (by rfl)
           ·refine sim_cons (hn := by rfl) ?_ ?_
            ·exact @sim_loc _ _ _ _ _ _ _ (by rfl) (fun _ => by rfl) (by rfl)
            ·exact sim_nil
          ·exact sim_nil
      ·exact simB_nil
     ·exact simB_nil
    ·refine simB_cons ?_ ?_
     ·refine sim_if ?_ ?_ ?_
      ·refine simT_and ?_ ?_
       ·refine @simT_cmp _ _ _ _ _ _ _ _ _ _ _ ?_ ?_ p_isNot (by rfl)
        ·exact @sim_loc _ _ _ _ _ _ _ (by rfl) (fun _ => by rfl) (by rfl)
        ·exact sim_none
       ·refine simT_and1 ?_
        ·refine @simT_cmp _ _ _ _ _ _ _ _ _ _ _ ?_ ?_ p_ne (by rfl)
         ·refine @sim_item _ _ _ _ _ _ _ _ _ (fun _ _ _ => by rfl) ?_ ?_
          ·exact @sim_loc _ _ _ _ _ _ _ (by rfl) (fun _ => by rfl) (by rfl)
          ·exact sim_int
         ·exact @sim_glob _ _ _ _ _ _ _ (H.gi 20 rfl) (fun _ => by rfl) (by rfl)
      ·refine simB_cons ?_ ?_
       ·refine @sim_expr _ _ _ _ _ _ _ ?_ (fun _ => by rfl) (fun _ => by rfl)
        ·refine @sim_call _ _ _ _ _ _ _ _ _ _ _ _ (by rfl) ?_ (keep_fn (H.kp 38 rfl)) (fn_unread H) (by decide) ?_
         ·exact @sim_glob _ _ _ _ _ _ _ (H.gr 38 rfl) (fun _ => by rfl) (by rfl)
         ·refine sim_cons (hn := by rfl) ?_ ?_
          ·exact @sim_loc _ _ _ _ _ _ _ (by rfl) (fun _ => by rfl) (by rfl)
          ·refine sim_cons (hn := by rfl) ?_ ?_
           ·exact @sim_loc _ _ _ _ _ _ _ (by rfl) (fun _ => by rfl) (by rfl)
           ·exact sim_nil
       ·exact simB_nil
      ·exact simB_nil
     ·refine simB_cons ?_ ?_
      ·refine sim_ret ?_
       ·refine sim_tup ?_
        ·refine sim_cons (hn := by rfl) ?_ ?_
         ·exact @sim_loc _ _ _ _ _ _ _ (by rfl) (fun _ => by rfl) (by rfl)
         ·refine sim_cons (hn := by rfl) ?_ ?_
          ·exact sim_int
          ·exact sim_nil
      ·exact simB_nil
theorem fn_factor {tn : Bool} (H : KF c sa is) : FnV c 6 tn (.ref 420) F_factor := @FnIs.fn _ _ _ _ _ _ _ _ _ _ _ _ _ _ H.i_factor (@sim_factor_ _ _ _ _ H)
theorem sim_attached_ {tn : Bool} (H : KF c sa is) : SimB c 4 tn s_attached b_attached m_attached := by
 refine simB_cons ?_ ?_
 ·refine sim_ret ?_
  ·refine @sim_call _ _ _ _ _ _ _ _ _ _ _ _ (by rfl) ?_ (keep_fn (H.kp 36 rfl)) (fn_times H) (by decide) ?_
   ·exact @sim_glob _ _ _ _ _ _ _ (H.gr 36 rfl) (fun _ => by rfl) (by rfl)
   ·refine sim_cons (hn := by rfl) ?_ ?_
    ·exact @sim_loc _ _ _ _ _ _ _ (by rfl) (fun _ => by rfl) (by rfl)
    ·refine sim_cons (hn := by rfl) ?_ ?_
     ·exact @sim_glob _ _ _ _ _ _ _ (H.gi 21 rfl) (fun _ => by rfl) (by rfl)
     ·refine sim_cons (hn := by rfl) ?_ ?_
      ·exact @sim_loc _ _ _ _ _ _ _ (by rfl) (fun _ => by rfl) (by rfl)
      ·exact sim_nil
 ·exact simB_nil
theorem fn_attached {tn : Bool} (H : KF c sa is) : FnV c 5 tn (.ref 434) F_attached := @FnIs.fn _ _ _ _ _ _ _ _ _ _ _ _ _ _ H.i_attached (@sim_attached_ _ _ _ _ H)
theorem sim_converted_ {tn : Bool} (H : KF c sa is) : SimB c 5 tn s_converted b_converted m_converted := by
 refine simB_cons ?_ ?_
 ·refine @sim_setTup _ _ _ _ _ _ _ _ _ _ _ ⟨fun _ => .name ⟨by rfl, fun _ => by rfl⟩ (.name ⟨by rfl, fun _ => by rfl⟩ (.nil)), fun _ => by rfl⟩ ?_ (fun _ => by rfl) (fun _ => by rfl)
  ·refine @sim_call _ _ _ _ _ _ _ _ _ _ _ _ (by rfl) ?_ (keep_fn (H.kp 23 rfl)) (fn_fraction H) (by decide) ?_
   ·exact @sim_glob _ _ _ _ _ _ _ (H.gr 23 rfl) (fun _ => by rfl) (by rfl)
   ·refine sim_cons (hn := by rfl) ?_ ?_
    ·exact @sim_loc _ _ _ _ _ _ _ (by rfl) (fun _ => by rfl) (by rfl)
    ·refine sim_cons (hn := by rfl) ?_ ?_
     ·exact @sim_loc _ _ _ _ _ _ _ (by rfl) (fun _ => by rfl) (by rfl)
     ·refine sim_cons (hn := by rfl) ?_ ?_
      ·exact @sim_loc _ _ _ _ _ _ _ (by rfl) (fun _ => by rfl) (by rfl)
      ·exact sim_nil
 ·refine simB_cons ?_ ?_
  ·refine @sim_set _ _ _ _ _ _ _ _ _ _ ⟨by rfl, fun _ => by rfl⟩ ?_ (fun _ => by rfl)
   ·refine @sim_bin _ _ _ _ _ _ _ _ _ _ _ ?_ ?_ p_div
    ·refine @sim_bin _ _ _ _ _ _ _ _ _ _ _ ?_ ?_ p_add
     ·refine @sim_bin _ _ _ _ _ _ _ _ _ _ _ ?_ ?_ p_mul
      ·exact @sim_loc _ _ _ _ _ _ _ (by rfl) (fun _ => by rfl) (by rfl)
      ·exact @sim_loc _ _ _ _ _ _ _ (by rfl) (fun _ => by rfl) (by rfl)
     ·refine @sim_bin _ _ _ _ _ _ _ _ _ _ _ ?_ ?_ p_mul
      ·exact @sim_glob _ _ _ _ _ _ _ (H.gi 21 rfl) (fun _ => by rfl) (by rfl)
      ·exact @sim_loc _ _ _ _ _ _ _ (by rfl) (fun _ => by rfl) (by rfl)
    ·exact @sim_loc _ _ _ _ _ _ _ (by rfl) (fun _ => by rfl) (by rfl)
  ·refine simB_cons ?_ ?_
   ·refine sim_ret ?_
    ·refine @sim_call _ _ _ _ _ _ _ _ _ _ _ _ (by rfl) ?_ (keep_fn (H.kp 15 rfl)) (fn_attached H) (by decide) ?_
     ·exact @sim_glob _ _ _ _ _ _ _ (H.gr 15 rfl) (fun _ => by rfl) (by rfl)
     ·refine sim_cons (hn := by rfl) ?_ ?_
      ·refine @sim_bin _ _ _ _ _ _ _ _ _ _ _ ?_ ?_ p_add
       ·exact @sim_loc _ _ _ _ _ _ _ (by rfl) (fun _ => by rfl) (by rfl)
       ·refine @sim_bin _ _ _ _ _ _ _ _ _ _ _ ?_ ?_ p_div
        ·exact @sim_loc _ _ _ _ _ _ _ (by rfl) (fun _ => by rfl) (by rfl)
        ·exact @sim_glob _ _ _ _ _ _ _ (H.gi 21 rfl) (fun _ => by rfl) (by rfl)
      ·refine sim_cons (hn := by rfl) ?_ ?_
       ·refine @sim_bin _ _ _ _ _ _ _ _ _ _ _ ?_ ?_ p_mod
        ·exact @sim_loc _ _ _ _ _ _ _ (by rfl) (fun _ => by rfl) (by rfl)
        ·exact @sim_glob _ _ _ _ _ _ _ (H.gi 21 rfl) (fun _ => by rfl) (by rfl)
       ·exact sim_nil
   ·exact simB_nil
theorem fn_converted {tn : Bool} (H : KF c sa is) : FnV c 6 tn (.ref 441) F_converted := @FnIs.fn _ _ _ _ _ _ _ _ _ _ _ _ _ _ H.i_converted (@sim_converted_ _ _ _ _ H)
theorem sim_measured_ {tn : Bool} (H : KF c sa is) : SimB c 4 tn s_measured b_measured m_measured := by
 refine simB_cons ?_ ?_
 ·refine sim_ret ?_
  ·refine @sim_call _ _ _ _ _ _ _ _ _ _ _ _ (by rfl) ?_ (keep_fn (H.kp 36 rfl)) (fn_times H) (by decide) ?_
   ·exact @sim_glob _ _ _ _ _ _ _ (H.gr 36 rfl) (fun _ => by rfl) (by rfl)
   ·refine sim_cons (hn := by rfl) ?_ ?_
    ·exact @sim_loc _ _ _ _ _ _ _ (by rfl) (fun _ => by rfl) (by rfl)
    ·refine sim_cons (hn := by rfl) ?_ ?_
     ·exact @sim_loc _ _ _ _ _ _ _ (by rfl) (fun _ => by rfl) (by rfl)
     ·refine sim_cons (hn := by rfl) ?_ ?_
      ·refine @sim_item _ _ _ _ _ _ _ _ _ (fun _ _ _ => by rfl) ?_ ?_
       ·refine @sim_call _ _ _ _ _ _ _ _ _ _ _ _ (by rfl) ?_ (keep_fn (H.kp 23 rfl)) (fn_fraction H) (by decide) ?_
        ·exact @sim_glob _ _ _ _ _ _ _ (H.gr 23 rfl) (fun _ => by rfl) (by rfl)
        ·refine sim_cons (hn := by rfl) ?_ ?_
         ·exact @sim_loc _ _ _ _ _ _ _ (by rfl) (fun _ => by rfl) (by rfl)
         ·refine sim_cons (hn := by rfl) ?_ ?_
          ·exact @sim_loc _ _ _ _ _ _ _ (by rfl) (fun _ => by rfl) (by rfl)
          ·refine sim_cons (hn := by rfl) ?_ ?_
           ·exact @sim_glob _ _ _ _ _ _ _ (H.gi 21 rfl) (fun _ => by rfl) (by rfl)
           ·exact sim_nil
       ·exact sim_int
      ·exact sim_nil
 ·exact simB_nil
theorem fn_measured {tn : Bool} (H : KF c sa is) : FnV c 5 tn (.ref 448) F_measured := @FnIs.fn _ _ _ _ _ _ _ _ _ _ _ _ _ _ H.i_measured (@sim_measured_ _ _ _ _ H)
theorem sim_written_unit_ {tn : Bool} (H : KF c sa is) : SimB c 6 tn s_written_unit b_written_unit m_written_unit := by
 refine simB_cons ?_ ?_
 ·refine sim_if ?_ ?_ ?_
  ·refine @simT_plain _ _ _ _ _ _ ?_ (fun _ => by rfl)
   ·exact @sim_loc _ _ _ _ _ _ _ (by rfl) (fun _ => by rfl) (by rfl)
  ·exact simB_stuckS
  ·exact simB_nil
 ·refine simB_cons ?_ ?_
  ·refine sim_if ?_ ?_ ?_
   ·refine @simT_plain _ _ _ _ _ _ ?_ (fun _ => by rfl)
    ·refine @sim_call _ _ _ _ _ _ _ _ _ _ _ _ (by rfl) ?_ (keep_fn (H.kp 27 rfl)) (fn_keyword H) (by decide) ?_
     ·exact @sim_glob _ _ _ _ _ _ _ (H.gr 27 rfl) (fun _ => by rfl) (by rfl)
     ·refine sim_cons (hn := by rfl) ?_ ?_
      ·exact @sim_loc _ _ _ _ _ _ _ (by rfl) (fun _ => by rfl) (by rfl)
      ·refine sim_cons (hn := by rfl) ?_ ?_
       ·exact sim_str (e := by kernel_rfl)
       ·exact sim_nil
   ·refine simB_cons ?_ ?_
    ·refine sim_ret ?_
     ·refine @sim_call _ _ _ _ _ _ _ _ _ _ _ _ (by rfl) ?_ (keep_fn (H.kp 28 rfl)) (fn_measured H) (by decide) ?_
      ·exact @sim_glob _ _ _ _ _ _ _ (H.gr 28 rfl) (fun _ => by rfl) (by rfl)
      ·refine sim_cons (hn := by rfl) ?_ ?_
       ·exact @sim_loc _ _ _ _ _ _ _ (by rfl) (fun _ => by rfl) (by rfl)
       ·refine sim_cons (hn := by rfl) ?_ ?_
        ·exact @sim_loc _ _ _ _ _ _ _ (by rfl) (fun _ => by rfl) (by rfl)
        ·refine sim_cons (hn := by rfl) ?_ ?_
         ·refine @sim_meth _ _ _ _ _ _ _ _ _ _ _ _ _ _ _ (fun _ => ⟨_, by rfl⟩) (by rfl) H.m_font_size (fn_font_size H) (by decide) ?_ ?_
          ·exact @sim_loc _ _ _ _ _ _ _ (by rfl) (fun _ => by rfl) (by rfl)
          ·refine sim_cons (hn := by rfl) ?_ ?_
           ·exact @sim_glob _ _ _ _ _ _ _ (H.gi 3 rfl) (fun _ => by rfl) (by rfl)
           ·exact sim_nil
         ·exact sim_nil
    ·exact simB_nil
   ·exact simB_nil
  ·refine simB_cons ?_ ?_
   ·refine sim_if ?_ ?_ ?_
    ·refine @simT_plain _ _ _ _ _ _ ?_ (fun _ => by rfl)
     ·refine @sim_call _ _ _ _ _ _ _ _ _ _ _ _ (by rfl) ?_ (keep_fn (H.kp 27 rfl)) (fn_keyword H) (by decide) ?_
      ·exact @sim_glob _ _ _ _ _ _ _ (H.gr 27 rfl) (fun _ => by rfl) (by rfl)
      ·refine sim_cons (hn := by rfl) ?_ ?_
       ·exact @sim_loc _ _ _ _ _ _ _ (by rfl) (fun _ => by rfl) (by rfl)
       ·refine sim_cons (hn := by rfl) ?_ ?_
        ·exact sim_str (e := by kernel_rfl)
        ·exact sim_nil
    ·refine simB_cons ?_ ?_
     ·refine sim_ret ?_
      ·refine @sim_call _ _ _ _ _ _ _ _ _ _ _ _ (by rfl) ?_ (keep_fn (H.kp 28 rfl)) (fn_measured H) (by decide) ?_
       ·exact @sim_glob _ _ _ _ _ _ _ (H.gr 28 rfl) (fun _ => by rfl) (by rfl)
       ·refine sim_cons (hn := by rfl) ?_ ?_
        ·exact @sim_loc _ _ _ _ _ _ _ (by rfl) (fun _ => by rfl) (by rfl)
        ·refine sim_cons (hn := by rfl) ?_ ?_
         ·exact @sim_loc _ _ _ _ _ _ _ (by rfl) (fun _ => by rfl) (by rfl)
         ·refine sim_cons (hn := by rfl) ?_ ?_
          ·refine @sim_meth _ _ _ _ _ _ _ _ _ _ _ _ _ _ _ (fun _ => ⟨_, by rfl⟩) (by rfl) H.m_font_size (fn_font_size H) (by decide) ?_ ?_
           ·exact @sim_loc _ _ _ _ _ _ _ (by rfl) (fun _ => by rfl) (by rfl)
           ·refine sim_cons (hn := by rfl) ?_ ?_
            ·exact @sim_glob _ _ _ _ _ _ _ (H.gi 6 rfl) (fun _ => by rfl) (by rfl)
            ·exact sim_nil
          ·exact sim_nil
     ·exact simB_nil
    ·exact simB_nil
   ·refine simB_cons ?_ ?_
    ·refine @sim_forL _ _ _ _ _ _ _ _ _ _ _ ?_ ?_ ?_ (fun _ _ => by rfl)
     ·refine @sim_call _ _ _ _ _ _ _ _ _ _ _ _ (by rfl) ?_ (keep_fn (H.kp 37 rfl)) (fn_units H) (by decide) ?_
      ·exact @sim_glob _ _ _ _ _ _ _ (H.gr 37 rfl) (fun _ => by rfl) (by rfl)
      ·exact sim_nil
     ·exact @tgt_tup _ _ _ _ _ _ _ _ ⟨fun _ => .name ⟨by rfl, fun _ => by rfl⟩ (.name ⟨by rfl, fun _ => by rfl⟩ (.name ⟨by rfl, fun _ => by rfl⟩ (.nil))), fun _ => by rfl⟩
     ·refine simB_cons ?_ ?_
      ·refine sim_if ?_ ?_ ?_
       ·refine @simT_plain _ _ _ _ _ _ ?_ (fun _ => by rfl)
        ·refine @sim_call _ _ _ _ _ _ _ _ _ _ _ _ (by rfl) ?_ (keep_fn (H.kp 27 rfl)) (fn_keyword H) (by decide) ?_
         ·exact @sim_glob _ _ _ _ _ _ _ (H.gr 27 rfl) (fun _ => by rfl) (by rfl)
         ·refine sim_cons (hn := by rfl) ?_ ?_
          ·exact @sim_loc _ _ _ _ _ _ _ (by rfl) (fun _ => by rfl) (by rfl)
          ·refine sim_cons (hn := by rfl) ?_ ?_
           ·exact @sim_loc _ _ _ _ _ _ _ (by rfl) (fun _ => by rfl) (by rfl)
           ·exact sim_nil
       ·refine simB_cons ?_ ?_
        ·refine sim_ret ?_
         ·refine @sim_call _ _ _ _ _ _ _ _ _ _ _ _ (by rfl) ?_ (keep_fn (H.kp 18 rfl)) (fn_converted H) (by decide) ?_
          ·exact @sim_glob _ _ _ _ _ _ _ (H.gr 18 rfl) (fun _ => by rfl) (by rfl)
          ·refine sim_cons (hn := by rfl) ?_ ?_
           ·exact @sim_loc _ _ _ _ _ _ _ (by rfl) (fun _ => by rfl) (by rfl)
           ·refine sim_cons (hn := by rfl) ?_ ?_
            ·exact @sim_loc _ _ _ _ _ _ _ (by rfl) (fun _ => by rfl) (by rfl)
            ·refine sim_cons (hn := by rfl) ?_ ?_
             ·exact @sim_loc _ _ _ _ _ _ _ (by rfl) (fun _ => by rfl) (by rfl)
             ·refine sim_cons (hn := by rfl) ?_ ?_
              ·exact @sim_loc _ _ _ _ _ _ _ (by rfl) (fun _ => by rfl) (by rfl)
              ·exact sim_nil
        ·exact simB_nil
       ·exact simB_nil
      ·exact simB_nil
    ·refine simB_cons ?_ ?_
     ·refine sim_if ?_ ?_ ?_
      ·refine @simT_plain _ _ _ _ _ _ ?_ (fun _ => by rfl)
       ·refine @sim_call _ _ _ _ _ _ _ _ _ _ _ _ (by rfl) ?_ (keep_fn (H.kp 27 rfl)) (fn_keyword H) (by decide) ?_
        ·exact @sim_glob _ _ _ _ _ _ _ (H.gr 27 rfl) (fun _ => by rfl) (by rfl)
        ·refine sim_cons (hn := by rfl) ?_ ?_
         ·exact @sim_loc _ _ _ _ _ _ _ (by rfl) (fun _ => by rfl) (by rfl)
         ·refine sim_cons (hn := by rfl) ?_ ?_
          ·exact sim_str (e := by kernel_rfl)
          ·exact sim_nil
      ·refine simB_cons ?_ ?_
       ·refine sim_ret ?_
        ·refine @sim_call _ _ _ _ _ _ _ _ _ _ _ _ (by rfl) ?_ (keep_fn (H.kp 16 rfl)) (fn_check_dimen H) (by decide) ?_
         ·exact @sim_glob _ _ _ _ _ _ _ (H.gr 16 rfl) (fun _ => by rfl) (by rfl)
         ·refine sim_cons (hn := by rfl) ?_ ?_
          ·exact @sim_loc _ _ _ _ _ _ _ (by rfl) (fun _ => by rfl) (by rfl)
          ·exact sim_nil
       ·exact simB_nil
      ·exact simB_nil
     ·exact simB_stuckS
theorem fn_written_unit {tn : Bool} (H : KF c sa is) : FnV c 7 tn (.ref 455) F_written_unit := @FnIs.fn _ _ _ _ _ _ _ _ _ _ _ _ _ _ H.i_written_unit (@sim_written_unit_ _ _ _ _ H)
theorem sim_with_unit_ {tn : Bool} (H : KF c sa is) : SimB c 7 tn s_with_unit b_with_unit m_with_unit := by
 refine simB_cons ?_ ?_
 ·refine sim_if ?_ ?_ ?_
  ·refine @simT_cmp _ _ _ _ _ _ _ _ _ _ _ ?_ ?_ p_lt (by rfl)
   ·exact @sim_loc _ _ _ _ _ _ _ (by rfl) (fun _ => by rfl) (by rfl)
   ·exact sim_int
  ·refine simB_cons ?_ ?_
   ·refine @sim_setTupR (names := ["whole", "is_negative"]) _ _ _ _ _ _ _ _ _ _ _ (fun _ => .bind ⟨by rfl, fun _ => by rfl⟩ (.bind ⟨by rfl, fun _ => by rfl⟩ (.nil))) ?_ (fun _ => by rfl) (fun _ => by rfl)
    ·refine sim_tup ?_
     ·refine sim_cons (hn := by rfl) ?_ ?_
      ·refine @sim_un _ _ _ _ _ _ _ _ _ ?_ p_neg
       ·exact @sim_loc _ _ _ _ _ _ _ (by rfl) (fun _ => by rfl) (by rfl)
      ·refine sim_cons (hn := by rfl) ?_ ?_
       ·refine sim_not ?_
        ·exact @sim_loc _ _ _ _ _ _ _ (by rfl) (fun _ => by rfl) (by rfl)
       ·exact sim_nil
   ·exact simB_nil
  ·exact simB_nil
 ·refine simB_cons ?_ ?_
  ·refine @sim_set _ _ _ _ _ _ _ _ _ _ ⟨by rfl, fun _ => by rfl⟩ ?_ (fun _ => by rfl)
   ·refine sim_ifexp ?_ ?_ ?_
    ·refine @simT_plain _ _ _ _ _ _ ?_ (fun _ => by rfl)
     ·exact @sim_loc _ _ _ _ _ _ _ (by rfl) (fun _ => by rfl) (by rfl)
    ·exact sim_stuck
    ·exact @sim_glob _ _ _ _ _ _ _ (H.gi 14 rfl) (fun _ => by rfl) (by rfl)
  ·refine simB_cons ?_ ?_
   ·refine sim_if ?_ ?_ ?_
    ·refine @simT_cmp _ _ _ _ _ _ _ _ _ _ _ ?_ ?_ p_ne (by rfl)
     ·exact @sim_loc _ _ _ _ _ _ _ (by rfl) (fun _ => by rfl) (by rfl)
     ·exact @sim_glob _ _ _ _ _ _ _ (H.gi 14 rfl) (fun _ => by rfl) (by rfl)
    ·refine simB_cons ?_ ?_
     ·refine @sim_set _ _ _ _ _ _ _ _ _ _ ⟨by rfl, fun _ => by rfl⟩ ?_ (fun _ => by rfl)
      ·refine @sim_call _ _ _ _ _ _ _ _ _ _ _ _ (by rfl) ?_ (keep_fn (H.kp 15 rfl)) (fn_attached H) (by decide) ?_
       ·exact @sim_glob _ _ _ _ _ _ _ (H.gr 15 rfl) (fun _ => by rfl) (by rfl)
       ·refine sim_cons (hn := by rfl) ?_ ?_
        ·exact @sim_loc _ _ _ _ _ _ _ (by rfl) (fun _ => by rfl) (by rfl)
        ·refine sim_cons (hn := by rfl) ?_ ?_
         ·exact @sim_loc _ _ _ _ _ _ _ (by rfl) (fun _ => by rfl) (by rfl)
         ·exact sim_nil
     ·refine simB_cons ?_ ?_
      ·refine @sim_expr _ _ _ _ _ _ _ ?_ (fun _ => by rfl) (fun _ => by rfl)
       ·refine @sim_call _ _ _ _ _ _ _ _ _ _ _ _ (by rfl) ?_ (keep_fn (H.kp 30 rfl)) (fn_optional_blank H) (by decide) ?_
        ·exact @sim_glob _ _ _ _ _ _ _ (H.gr 30 rfl) (fun _ => by rfl) (by rfl)
        ·refine sim_cons (hn := by rfl) ?_ ?_
         ·exact @sim_loc _ _ _ _ _ _ _ (by rfl) (fun _ => by rfl) (by rfl)
         ·exact sim_nil
      ·exact simB_nil
    ·refine simB_cons ?_ ?_
     ·refine @sim_set _ _ _ _ _ _ _ _ _ _ ⟨by rfl, fun _ => by rfl⟩ ?_ (fun _ => by rfl)
      ·refine @sim_call _ _ _ _ _ _ _ _ _ _ _ _ (by rfl) ?_ (keep_fn (H.kp 34 rfl)) (fn_skip_blanks H) (by decide) ?_
       ·exact @sim_glob _ _ _ _ _ _ _ (H.gr 34 rfl) (fun _ => by rfl) (by rfl)
       ·refine sim_cons (hn := by rfl) ?_ ?_
        ·exact @sim_loc _ _ _ _ _ _ _ (by rfl) (fun _ => by rfl) (by rfl)
        ·exact sim_nil
     ·refine simB_cons ?_ ?_
      ·refine @sim_set _ _ _ _ _ _ _ _ _ _ ⟨by rfl, fun _ => by rfl⟩ ?_ (fun _ => by rfl)
       ·refine @sim_meth _ _ _ _ _ _ _ _ _ _ _ _ _ _ _ (fun _ => ⟨_, by rfl⟩) (by rfl) H.m_quantity (fn_quantity H) (by decide) ?_ ?_
        ·exact @sim_loc _ _ _ _ _ _ _ (by rfl) (fun _ => by rfl) (by rfl)
        ·refine sim_cons (hn := by rfl) ?_ ?_
         ·refine @sim_item _ _ _ _ _ _ _ _ _ (fun _ _ _ => by rfl) ?_ ?_
          ·exact @sim_loc _ _ _ _ _ _ _ (by rfl) (fun _ => by rfl) (by rfl)
          ·exact sim_int
         ·refine sim_cons (hn := by rfl) ?_ ?_
          ·refine @sim_item _ _ _ _ _ _ _ _ _ (fun _ _ _ => by rfl) ?_ ?_
           ·exact @sim_loc _ _ _ _ _ _ _ (by rfl) (fun _ => by rfl) (by rfl)
           ·exact sim_int
          ·exact sim_nil
      ·refine simB_cons ?_ ?_
       ·refine sim_if ?_ ?_ ?_
        ·refine @simT_cmp _ _ _ _ _ _ _ _ _ _ _ ?_ ?_ p_isNot (by rfl)
         ·exact @sim_loc _ _ _ _ _ _ _ (by rfl) (fun _ => by rfl) (by rfl)
         ·exact sim_none
        ·exact simB_stuckS
        ·refine simB_cons ?_ ?_
         ·refine @sim_expr _ _ _ _ _ _ _ ?_ (fun _ => by rfl) (fun _ => by rfl)
          ·refine @sim_call _ _ _ _ _ _ _ _ _ _ _ _ (by rfl) ?_ (keep_fn (H.kp 38 rfl)) (fn_unread H) (by decide) ?_
           ·exact @sim_glob _ _ _ _ _ _ _ (H.gr 38 rfl) (fun _ => by rfl) (by rfl)
           ·refine sim_cons (hn := by rfl) ?_ ?_
            ·exact @sim_loc _ _ _ _ _ _ _ (by rfl) (fun _ => by rfl) (by rfl)
            ·refine sim_cons (hn := by rfl) ?_ ?_
             ·exact @sim_loc _ _ _ _ _ _ _ (by rfl) (fun _ => by rfl) (by rfl)
             ·exact sim_nil
         ·refine simB_cons ?_ ?_
          ·refine @sim_set _ _ _ _ _ _ _ _ _ _ ⟨by rfl, fun _ => by rfl⟩ ?_ (fun _ => by rfl)
           ·refine @sim_call _ _ _ _ _ _ _ _ _ _ _ _ (by rfl) ?_ (keep_fn (H.kp 41 rfl)) (fn_written_unit H) (by decide) ?_
            ·exact @sim_glob _ _ _ _ _ _ _ (H.gr 41 rfl) (fun _ => by rfl) (by rfl)
            ·refine sim_cons (hn := by rfl) ?_ ?_
             ·exact @sim_loc _ _ _ _ _ _ _ (by rfl) (fun _ => by rfl) (by rfl)
             ·refine sim_cons (hn := by rfl) ?_ ?_
              ·exact @sim_loc _ _ _ _ _ _ _ (by rfl) (fun _ => by rfl) (by rfl)
              ·refine sim_cons (hn := by rfl) ?_ ?_
               ·exact @sim_loc _ _ _ _ _ _ _ (by rfl) (fun _ => by rfl) (by rfl)
               ·refine sim_cons (hn := by rfl) ?_ ?_
                ·exact @sim_loc _ _ _ _ _ _ _ (by rfl) (fun _ => by rfl) (by rfl)
                ·exact sim_nil
          ·refine simB_cons ?_ ?_
           ·refine @sim_expr _ _ _ _ _ _ _ ?_ (fun _ => by rfl) (fun _ => by rfl)
            ·refine @sim_call _ _ _ _ _ _ _ _ _ _ _ _ (by rfl) ?_ (keep_fn (H.kp 30 rfl)) (fn_optional_blank H) (by decide) ?_
             ·exact @sim_glob _ _ _ _ _ _ _ (H.gr 30 rfl) (fun _ => by rfl) (by rfl)
             ·refine sim_cons (hn := by rfl) ?_ ?_
              ·exact @sim_loc _ _ _ _ _ _ _ (by rfl) (fun _ => by rfl) (by rfl)
              ·exact sim_nil
           ·exact simB_nil
       ·exact simB_nil
   ·refine simB_cons ?_ ?_
    ·refine sim_ret ?_
     ·refine sim_tup ?_
      ·refine sim_cons (hn := by rfl) ?_ ?_
       ·refine sim_ifexp ?_ ?_ ?_
        ·refine @simT_plain _ _ _ _ _ _ ?_ (fun _ => by rfl)
         ·exact @sim_loc _ _ _ _ _ _ _ (by rfl) (fun _ => by rfl) (by rfl)
        ·refine @sim_un _ _ _ _ _ _ _ _ _ ?_ p_neg
         ·exact @sim_loc _ _ _ _ _ _ _ (by rfl) (fun _ => by rfl) (by rfl)
        ·exact @sim_loc _ _ _ _ _ _ _ (by rfl) (fun _ => by rfl) (by rfl)
       ·refine sim_cons (hn := by rfl) ?_ ?_
        ·exact @sim_loc _ _ _ _ _ _ _ (by rfl) (fun _ => by rfl) (by rfl)
        ·exact sim_nil
    ·exact simB_nil
theorem fn_with_unit {tn : Bool} (H : KF c sa is) : FnV c 8 tn (.ref 469) F_with_unit := @FnIs.fn _ _ _ _ _ _ _ _ _ _ _ _ _ _ H.i_with_unit (@sim_with_unit_ _ _ _ _ H)
theorem sim_dimen_ {tn : Bool} (H : KF c sa is) : SimB c 8 tn s_dimen b_dimen m_dimen := by
 refine simB_cons ?_ ?_
 ·refine @sim_setTup _ _ _ _ _ _ _ _ _ _ _ ⟨fun _ => .name ⟨by rfl, fun _ => by rfl⟩ (.name ⟨by rfl, fun _ => by rfl⟩ (.nil)), fun _ => by rfl⟩ ?_ (fun _ => by rfl) (fun _ => by rfl)
  ·refine @sim_call _ _ _ _ _ _ _ _ _ _ _ _ (by rfl) ?_ (keep_fn (H.kp 33 rfl)) (fn_signs H) (by decide) ?_
   ·exact @sim_glob _ _ _ _ _ _ _ (H.gr 33 rfl) (fun _ => by rfl) (by rfl)
   ·refine sim_cons (hn := by rfl) ?_ ?_
    ·exact @sim_loc _ _ _ _ _ _ _ (by rfl) (fun _ => by rfl) (by rfl)
    ·exact sim_nil
 ·refine simB_cons ?_ ?_
  ·refine @sim_set _ _ _ _ _ _ _ _ _ _ ⟨by rfl, fun _ => by rfl⟩ ?_ (fun _ => by rfl)
   ·refine @sim_meth _ _ _ _ _ _ _ _ _ _ _ _ _ _ _ (fun _ => ⟨_, by rfl⟩) (by rfl) H.m_quantity (fn_quantity H) (by decide) ?_ ?_
    ·exact @sim_loc _ _ _ _ _ _ _ (by rfl) (fun _ => by rfl) (by rfl)
    ·refine sim_cons (hn := by rfl) ?_ ?_
     ·refine @sim_item _ _ _ _ _ _ _ _ _ (fun _ _ _ => by rfl) ?_ ?_
      ·exact @sim_loc _ _ _ _ _ _ _ (by rfl) (fun _ => by rfl) (by rfl)
      ·exact sim_int
     ·refine sim_cons (hn := by rfl) ?_ ?_
      ·refine @sim_item _ _ _ _ _ _ _ _ _ (fun _ _ _ => by rfl) ?_ ?_
       ·exact @sim_loc _ _ _ _ _ _ _ (by rfl) (fun _ => by rfl) (by rfl)
       ·exact sim_int
      ·exact sim_nil
  ·refine simB_cons ?_ ?_
   ·refine sim_if ?_ ?_ ?_
    ·refine @simT_cmp _ _ _ _ _ _ _ _ _ _ _ ?_ ?_ p_is (by rfl)
     ·exact @sim_loc _ _ _ _ _ _ _ (by rfl) (fun _ => by rfl) (by rfl)
     ·exact sim_none
    ·refine simB_cons ?_ ?_
     ·refine @sim_setTup _ _ _ _ _ _ _ _ _ _ _ ⟨fun _ => .name ⟨by rfl, fun _ => by rfl⟩ (.name ⟨by rfl, fun _ => by rfl⟩ (.nil)), fun _ => by rfl⟩ ?_ (fun _ => by rfl) (fun _ => by rfl)
      ·refine @sim_call _ _ _ _ _ _ _ _ _ _ _ _ (by rfl) ?_ (keep_fn (H.kp 22 rfl)) (fn_factor H) (by decide) ?_
       ·exact @sim_glob _ _ _ _ _ _ _ (H.gr 22 rfl) (fun _ => by rfl) (by rfl)
       ·refine sim_cons (hn := by rfl) ?_ ?_
        ·exact @sim_loc _ _ _ _ _ _ _ (by rfl) (fun _ => by rfl) (by rfl)
        ·refine sim_cons (hn := by rfl) ?_ ?_
         ·exact @sim_loc _ _ _ _ _ _ _ (by rfl) (fun _ => by rfl) (by rfl)
         ·exact sim_nil
     ·refine simB_cons ?_ ?_
      ·refine sim_ret ?_
       ·refine @sim_call _ _ _ _ _ _ _ _ _ _ _ _ (by rfl) ?_ (keep_fn (H.kp 39 rfl)) (fn_with_unit H) (by decide) ?_
        ·exact @sim_glob _ _ _ _ _ _ _ (H.gr 39 rfl) (fun _ => by rfl) (by rfl)
        ·refine sim_cons (hn := by rfl) ?_ ?_
         ·exact @sim_loc _ _ _ _ _ _ _ (by rfl) (fun _ => by rfl) (by rfl)
         ·refine sim_cons (hn := by rfl) ?_ ?_
          ·exact @sim_loc _ _ _ _ _ _ _ (by rfl) (fun _ => by rfl) (by rfl)
          ·refine sim_cons (hn := by rfl) ?_ ?_
           ·exact @sim_loc _ _ _ _ _ _ _ (by rfl) (fun _ => by rfl) (by rfl)
           ·refine sim_cons (hn := by rfl) ?_ ?_
            ·exact @sim_loc _ _ _ _ _ _ _ (by rfl) (fun _ => by rfl) (by rfl)
            ·refine sim_cons (hn := by rfl) ?_ ?_
             ·exact @sim_loc _ _ _ _ _ _ _ (by rfl) (fun _ => by rfl) (by rfl)
             ·refine sim_cons (hn := by rfl) ?_ ?_
              ·exact @sim_loc _ _ _ _ _ _ _ (by rfl) (fun _ => by rfl) (by rfl)
              ·exact sim_nil
      ·exact simB_nil
    ·exact simB_nil
   ·exact simB_stuckS
theorem fn_dimen {tn : Bool} (H : KF c sa is) : FnV c 9 tn (.ref 477) F_dimen := @FnIs.fn _ _ _ _ _ _ _ _ _ _ _ _ _ _ H.i_dimen (@sim_dimen_ _ _ _ _ H)
theorem fnX_dimen (H : KF c sa is) : FnX c 9 false (.ref 477) F_dimen := H.i_dimen.fnX (sim_dimen_ H)
theorem sim__law_rows_ {tn : Bool} (H : KF c sa is) : SimB c 0 tn s__law_rows b__law_rows m__law_rows := by
 refine simB_cons ?_ ?_
 ·refine sim_ret ?_
  ·refine sim_list ?_
   ·refine sim_cons (hn := by rfl) ?_ ?_
    ·refine sim_tup ?_
     ·refine sim_cons (hn := by rfl) ?_ ?_
      ·exact sim_int
      ·refine sim_cons (hn := by rfl) ?_ ?_
       ·exact sim_str (e := by kernel_rfl)
       ·refine sim_cons (hn := by rfl) ?_ ?_
        ·exact sim_int
        ·refine sim_cons (hn := by rfl) ?_ ?_
         ·exact sim_str (e := by kernel_rfl)
         ·refine sim_cons (hn := by rfl) ?_ ?_
          ·exact sim_int
          ·exact sim_nil
    ·refine sim_cons (hn := by rfl) ?_ ?_
     ·refine sim_tup ?_
      ·refine sim_cons (hn := by rfl) ?_ ?_
       ·exact sim_int
       ·refine sim_cons (hn := by rfl) ?_ ?_
        ·exact sim_str (e := by kernel_rfl)
        ·refine sim_cons (hn := by rfl) ?_ ?_
         ·exact sim_int
         ·refine sim_cons (hn := by rfl) ?_ ?_
          ·exact sim_str (e := by kernel_rfl)
          ·refine sim_cons (hn := by rfl) ?_ ?_
           ·exact sim_int
           ·exact sim_nil
     ·refine sim_cons (hn := by rfl) ?_ ?_
      ·refine sim_tup ?_
       ·refine sim_cons (hn := by rfl) ?_ ?_
        ·exact sim_int
        ·refine sim_cons (hn := by rfl) ?_ ?_
         ·exact sim_str (e := by kernel_rfl)
         ·refine sim_cons (hn := by rfl) ?_ ?_
          ·exact sim_int
          ·refine sim_cons (hn := by rfl) ?_ ?_
           ·exact sim_str (e := by kernel_rfl)
           ·refine sim_cons (hn := by rfl) ?_ ?_
            ·exact sim_int
            ·exact sim_nil
      ·refine sim_cons (hn := by rfl) ?_ ?_
       ·refine sim_tup ?_
        ·refine sim_cons (hn := by rfl) ?_ ?_
         ·exact sim_int
         ·refine sim_cons (hn := by rfl) ?_ ?_
          ·exact sim_str (e := by kernel_rfl)
          ·refine sim_cons (hn := by rfl) ?_ ?_
           ·exact sim_int
           ·refine sim_cons (hn := by rfl) ?_ ?_
            ·exact sim_str (e := by kernel_rfl)
            ·refine sim_cons (hn := by rfl) ?_ ?_
             ·exact sim_int
             ·exact sim_nil
       ·refine sim_cons (hn := by rfl) ?_ ?_
        ·refine sim_tup ?_
         ·refine sim_cons (hn := by rfl) ?_ ?_
          ·exact sim_int
          ·refine sim_cons (hn := by rfl) ?_ ?_
           ·exact sim_str (e := by kernel_rfl)
           ·refine sim_cons (hn := by rfl) ?_ ?_
            ·exact sim_int
            ·refine sim_cons (hn := by rfl) ?_ ?_
             ·exact sim_str (e := by kernel_rfl)
             ·refine sim_cons (hn := by rfl) ?_ ?_
              ·exact sim_int
              ·exact sim_nil
        ·refine sim_cons (hn := by rfl) ?_ ?_
         ·refine sim_tup ?_
          ·refine sim_cons (hn := by rfl) ?_ ?_
           ·exact sim_int
           ·refine sim_cons (hn := by rfl) ?_ ?_
            ·exact sim_str (e := by kernel_rfl)
            ·refine sim_cons (hn := by rfl) ?_ ?_
             ·exact sim_int
             ·refine sim_cons (hn := by rfl) ?_ ?_
              ·exact sim_str (e := by kernel_rfl)
              ·refine sim_cons (hn := by rfl) ?_ ?_
               ·exact sim_int
               ·exact sim_nil
         ·refine sim_cons (hn := by rfl) ?_ ?_
          ·refine sim_tup ?_
           ·refine sim_cons (hn := by rfl) ?_ ?_
            ·exact sim_int
            ·refine sim_cons (hn := by rfl) ?_ ?_
             ·exact sim_str (e := by kernel_rfl)
             ·refine sim_cons (hn := by rfl) ?_ ?_
              ·exact sim_int
              ·refine sim_cons (hn := by rfl) ?_ ?_
               ·exact sim_str (e := by kernel_rfl)
               ·refine sim_cons (hn := by rfl) ?_ ?_
                ·exact sim_int
                ·exact sim_nil
          ·refine sim_cons (hn := by rfl) ?_ ?_
           ·refine sim_tup ?_
            ·refine sim_cons (hn := by rfl) ?_ ?_
             ·exact sim_int
             ·refine sim_cons (hn := by rfl) ?_ ?_
              ·exact sim_str (e := by kernel_rfl)
              ·refine sim_cons (hn := by rfl) ?_ ?_
               ·exact sim_int
               ·refine sim_cons (hn := by rfl) ?_ ?_
                ·exact sim_str (e := by kernel_rfl)
                ·refine sim_cons (hn := by rfl) ?_ ?_
                 ·exact sim_int
                 ·exact sim_nil
           ·exact sim_nil
 ·exact simB_nil
theorem fn__law_rows {tn : Bool} (H : KF c sa is) : FnV c 1 tn (.ref 555) F__law_rows := @FnIs.fn _ _ _ _ _ _ _ _ _ _ _ _ _ _ H.i__law_rows (@sim__law_rows_ _ _ _ _ H)
theorem sim__law_units_ {tn : Bool} (H : KF c sa is) : SimB c 0 tn s__law_units b__law_units m__law_units := by
 refine simB_cons ?_ ?_
 ·refine sim_ret ?_
  ·refine sim_list ?_
   ·refine sim_cons (hn := by rfl) ?_ ?_
    ·refine sim_tup ?_
     ·refine sim_cons (hn := by rfl) ?_ ?_
      ·exact sim_str (e := by kernel_rfl)
      ·refine sim_cons (hn := by rfl) ?_ ?_
       ·exact sim_int
       ·refine sim_cons (hn := by rfl) ?_ ?_
        ·exact sim_int
        ·exact sim_nil
    ·refine sim_cons (hn := by rfl) ?_ ?_
     ·refine sim_tup ?_
      ·refine sim_cons (hn := by rfl) ?_ ?_
       ·exact sim_str (e := by kernel_rfl)
       ·refine sim_cons (hn := by rfl) ?_ ?_
        ·exact sim_int
        ·refine sim_cons (hn := by rfl) ?_ ?_
         ·exact sim_int
         ·exact sim_nil
     ·refine sim_cons (hn := by rfl) ?_ ?_
      ·refine sim_tup ?_
       ·refine sim_cons (hn := by rfl) ?_ ?_
        ·exact sim_str (e := by kernel_rfl)
        ·refine sim_cons (hn := by rfl) ?_ ?_
         ·exact sim_int
         ·refine sim_cons (hn := by rfl) ?_ ?_
          ·exact sim_int
          ·exact sim_nil
      ·refine sim_cons (hn := by rfl) ?_ ?_
       ·refine sim_tup ?_
        ·refine sim_cons (hn := by rfl) ?_ ?_
         ·exact sim_str (e := by kernel_rfl)
         ·refine sim_cons (hn := by rfl) ?_ ?_
          ·exact sim_int
          ·refine sim_cons (hn := by rfl) ?_ ?_
           ·exact sim_int
           ·exact sim_nil
       ·refine sim_cons (hn := by rfl) ?_ ?_
        ·refine sim_tup ?_
         ·refine sim_cons (hn := by rfl) ?_ ?_
          ·exact sim_str (e := by kernel_rfl)
          ·refine sim_cons (hn := by rfl) ?_ ?_
           ·exact sim_int
           ·refine sim_cons (hn := by rfl) ?_ ?_
            ·exact sim_int
            ·exact sim_nil
        ·refine sim_cons (hn := by rfl) ?_ ?_
         ·refine sim_tup ?_
          ·refine sim_cons (hn := by rfl) ?_ ?_
           ·exact sim_str (e := by kernel_rfl)
           ·refine sim_cons (hn := by rfl) ?_ ?_
            ·exact sim_int
            ·refine sim_cons (hn := by rfl) ?_ ?_
             ·exact sim_int
             ·exact sim_nil
         ·refine sim_cons (hn := by rfl) ?_ ?_
          ·refine sim_tup ?_
           ·refine sim_cons (hn := by rfl) ?_ ?_
            ·exact sim_str (e := by kernel_rfl)
            ·refine sim_cons (hn := by rfl) ?_ ?_
             ·exact sim_int
             ·refine sim_cons (hn := by rfl) ?_ ?_
              ·exact sim_int
              ·exact sim_nil
          ·refine sim_cons (hn := by rfl) ?_ ?_
           ·refine sim_tup ?_
            ·refine sim_cons (hn := by rfl) ?_ ?_
             ·exact sim_str (e := by kernel_rfl)
             ·refine sim_cons (hn := by rfl) ?_ ?_
              ·exact sim_int
              ·refine sim_cons (hn := by rfl) ?_ ?_
               ·exact sim_int
               ·exact sim_nil
           ·exact sim_nil
 ·exact simB_nil
theorem fn__law_units {tn : Bool} (H : KF c sa is) : FnV c 1 tn (.ref 562) F__law_units := @FnIs.fn _ _ _ _ _ _ _ _ _ _ _ _ _ _ H.i__law_units (@sim__law_units_ _ _ _ _ H)
theorem sim__law_pool_ {tn : Bool} (H : KF c sa is) : SimB c 0 tn s__law_pool b__law_pool (m__law_pool sa is) := by
 refine simB_cons ?_ ?_
 ·refine @sim_set _ _ _ _ _ _ _ _ _ _ ⟨by rfl, fun _ => by rfl⟩ ?_ (fun _ => by rfl)
  ·refine sim_list ?_
   ·refine sim_cons (hn := by rfl) ?_ ?_
    ·exact sim_int
    ·refine sim_cons (hn := by rfl) ?_ ?_
     ·exact sim_int
     ·exact sim_nil
 ·refine simB_cons ?_ ?_
  ·refine @sim_forL _ _ _ _ _ _ _ _ _ _ _ ?_ ?_ ?_ (fun _ _ => by rfl)
   ·refine @sim_script _ _ _ _ _ _ _ _ _ _ _ _ _ ?_ H.scr2 (fun _ _ => by rfl) (fun _ _ => by rfl)
    ·exact @sim_loc _ _ _ _ _ _ _ (by rfl) (fun _ => by rfl) (by rfl)
   ·exact @tgt_name _ _ _ _ _ _ _ ⟨by rfl, fun _ => by rfl⟩
   ·refine simB_cons ?_ ?_
    ·refine sim_if ?_ ?_ ?_
     ·refine @simT_cmp _ _ _ _ _ _ _ _ _ _ _ ?_ ?_ p_ge (by rfl)
      ·refine @sim_call _ _ _ _ _ _ _ _ _ _ _ _ (by rfl) ?_ (keep_blt _) fn_abs (by decide) ?_
       ·exact @sim_blt _ _ _ _ _ _ _ H.b_abs (fun _ => by rfl) (by rfl)
       ·refine sim_cons (hn := by rfl) ?_ ?_
        ·exact @sim_loc _ _ _ _ _ _ _ (by rfl) (fun _ => by rfl) (by rfl)
        ·exact sim_nil
      ·refine @sim_bin _ _ _ _ _ _ _ _ _ _ _ ?_ ?_ p_pow
       ·exact sim_int
       ·exact sim_int
     ·refine simB_cons ?_ ?_
      ·refine @sim_putI _ _ _ _ _ _ _ _ _ _ _ _ ?_ ?_ ?_ (fun _ => by rfl)
       ·refine @sim_bin _ _ _ _ _ _ _ _ _ _ _ ?_ ?_ p_add
        ·refine @sim_bin _ _ _ _ _ _ _ _ _ _ _ ?_ ?_ p_mul
         ·refine @sim_item _ _ _ _ _ _ _ _ _ (fun _ _ _ => by rfl) ?_ ?_
          ·exact @sim_loc _ _ _ _ _ _ _ (by rfl) (fun _ => by rfl) (by rfl)
          ·exact sim_int
         ·refine @sim_bin _ _ _ _ _ _ _ _ _ _ _ ?_ ?_ p_pow
          ·exact sim_int
          ·exact sim_int
        ·refine @sim_bin _ _ _ _ _ _ _ _ _ _ _ ?_ ?_ p_mod
         ·refine @sim_call _ _ _ _ _ _ _ _ _ _ _ _ (by rfl) ?_ (keep_blt _) fn_abs (by decide) ?_
          ·exact @sim_blt _ _ _ _ _ _ _ H.b_abs (fun _ => by rfl) (by rfl)
          ·refine sim_cons (hn := by rfl) ?_ ?_
           ·exact @sim_loc _ _ _ _ _ _ _ (by rfl) (fun _ => by rfl) (by rfl)
           ·exact sim_nil
         ·refine @sim_bin _ _ _ _ _ _ _ _ _ _ _ ?_ ?_ p_pow
          ·exact sim_int
          ·exact sim_int
       ·exact @sim_loc _ _ _ _ _ _ _ (by rfl) (fun _ => by rfl) (by rfl)
       ·exact sim_int
      ·exact simB_nil
     ·refine simB_cons ?_ ?_
      ·refine @sim_putI _ _ _ _ _ _ _ _ _ _ _ _ ?_ ?_ ?_ (fun _ => by rfl)
       ·refine @sim_bin _ _ _ _ _ _ _ _ _ _ _ ?_ ?_ p_mod
        ·refine @sim_bin _ _ _ _ _ _ _ _ _ _ _ ?_ ?_ p_add
         ·refine @sim_bin _ _ _ _ _ _ _ _ _ _ _ ?_ ?_ p_add
          ·refine @sim_bin _ _ _ _ _ _ _ _ _ _ _ ?_ ?_ p_mul
           ·refine @sim_item _ _ _ _ _ _ _ _ _ (fun _ _ _ => by rfl) ?_ ?_
            ·exact @sim_loc _ _ _ _ _ _ _ (by rfl) (fun _ => by rfl) (by rfl)
            ·exact sim_int
           ·exact sim_int
          ·refine @sim_bin _ _ _ _ _ _ _ _ _ _ _ ?_ ?_ p_mul
           ·exact sim_int
           ·refine @sim_call _ _ _ _ _ _ _ _ _ _ _ _ (by rfl) ?_ (keep_blt _) fn_abs (by decide) ?_
            ·exact @sim_blt _ _ _ _ _ _ _ H.b_abs (fun _ => by rfl) (by rfl)
            ·refine sim_cons (hn := by rfl) ?_ ?_
             ·exact @sim_loc _ _ _ _ _ _ _ (by rfl) (fun _ => by rfl) (by rfl)
             ·exact sim_nil
         ·refine @sim_call _ _ _ _ _ _ _ _ _ _ _ _ (by rfl) ?_ (keep_type _) fn_int (by decide) ?_
          ·exact @sim_blt _ _ _ _ _ _ _ H.b_int (fun _ => by rfl) (by rfl)
          ·refine sim_cons (hn := by rfl) ?_ ?_
           ·refine @sim_cmp _ _ _ _ _ _ _ _ _ _ _ ?_ ?_ p_lt (by rfl)
            ·exact @sim_loc _ _ _ _ _ _ _ (by rfl) (fun _ => by rfl) (by rfl)
            ·exact sim_int
           ·exact sim_nil
        ·exact sim_int
       ·exact @sim_loc _ _ _ _ _ _ _ (by rfl) (fun _ => by rfl) (by rfl)
       ·exact sim_int
      ·exact simB_nil
    ·exact simB_nil
  ·refine simB_cons ?_ ?_
   ·refine sim_ret ?_
    ·exact @sim_loc _ _ _ _ _ _ _ (by rfl) (fun _ => by rfl) (by rfl)
   ·exact simB_nil
theorem fn__law_pool {tn : Bool} (H : KF c sa is) : FnV c 1 tn (.ref 569) (F__law_pool sa is) := @FnIs.fn _ _ _ _ _ _ _ _ _ _ _ _ _ _ H.i__law_pool (@sim__law_pool_ _ _ _ _ H)
theorem sim__law_take_ {tn : Bool} (H : KF c sa is) : SimB c 0 tn s__law_take b__law_take m__law_take := by
 refine simB_cons ?_ ?_
 ·refine sim_if ?_ ?_ ?_
  ·refine @simT_cmp _ _ _ _ _ _ _ _ _ _ _ ?_ ?_ p_ge (by rfl)
   ·refine @sim_item _ _ _ _ _ _ _ _ _ (fun _ _ _ => by rfl) ?_ ?_
    ·exact @sim_loc _ _ _ _ _ _ _ (by rfl) (fun _ => by rfl) (by rfl)
    ·exact sim_int
   ·exact sim_int
  ·refine simB_cons ?_ ?_
   ·refine @sim_set _ _ _ _ _ _ _ _ _ _ ⟨by rfl, fun _ => by rfl⟩ ?_ (fun _ => by rfl)
    ·refine @sim_bin _ _ _ _ _ _ _ _ _ _ _ ?_ ?_ p_mod
     ·refine @sim_item _ _ _ _ _ _ _ _ _ (fun _ _ _ => by rfl) ?_ ?_
      ·exact @sim_loc _ _ _ _ _ _ _ (by rfl) (fun _ => by rfl) (by rfl)
      ·exact sim_int
     ·exact sim_int
   ·refine simB_cons ?_ ?_
    ·refine @sim_putI _ _ _ _ _ _ _ _ _ _ _ _ ?_ ?_ ?_ (fun _ => by rfl)
     ·refine @sim_bin _ _ _ _ _ _ _ _ _ _ _ ?_ ?_ p_div
      ·refine @sim_item _ _ _ _ _ _ _ _ _ (fun _ _ _ => by rfl) ?_ ?_
       ·exact @sim_loc _ _ _ _ _ _ _ (by rfl) (fun _ => by rfl) (by rfl)
       ·exact sim_int
      ·exact sim_int
     ·exact @sim_loc _ _ _ _ _ _ _ (by rfl) (fun _ => by rfl) (by rfl)
     ·exact sim_int
    ·refine simB_cons ?_ ?_
     ·refine sim_ret ?_
      ·refine @sim_bin _ _ _ _ _ _ _ _ _ _ _ ?_ ?_ p_mod
       ·exact @sim_loc _ _ _ _ _ _ _ (by rfl) (fun _ => by rfl) (by rfl)
       ·exact @sim_loc _ _ _ _ _ _ _ (by rfl) (fun _ => by rfl) (by rfl)
     ·exact simB_nil
  ·exact simB_nil
 ·refine simB_cons ?_ ?_
  ·refine @sim_putI _ _ _ _ _ _ _ _ _ _ _ _ ?_ ?_ ?_ (fun _ => by rfl)
   ·refine @sim_bin _ _ _ _ _ _ _ _ _ _ _ ?_ ?_ p_mod
    ·refine @sim_bin _ _ _ _ _ _ _ _ _ _ _ ?_ ?_ p_add
     ·refine @sim_bin _ _ _ _ _ _ _ _ _ _ _ ?_ ?_ p_mul
      ·refine @sim_item _ _ _ _ _ _ _ _ _ (fun _ _ _ => by rfl) ?_ ?_
       ·exact @sim_loc _ _ _ _ _ _ _ (by rfl) (fun _ => by rfl) (by rfl)
       ·exact sim_int
      ·exact sim_int
     ·exact sim_int
    ·exact sim_int
   ·exact @sim_loc _ _ _ _ _ _ _ (by rfl) (fun _ => by rfl) (by rfl)
   ·exact sim_int
  ·refine simB_cons ?_ ?_
   ·refine sim_ret ?_
    ·refine @sim_bin _ _ _ _ _ _ _ _ _ _ _ ?_ ?_ p_mod
     ·refine @sim_bin _ _ _ _ _ _ _ _ _ _ _ ?_ ?_ p_div
      ·refine @sim_item _ _ _ _ _ _ _ _ _ (fun _ _ _ => by rfl) ?_ ?_
       ·exact @sim_loc _ _ _ _ _ _ _ (by rfl) (fun _ => by rfl) (by rfl)
       ·exact sim_int
      ·exact sim_int
     ·exact @sim_loc _ _ _ _ _ _ _ (by rfl) (fun _ => by rfl) (by rfl)
   ·exact simB_nil
theorem fn__law_take {tn : Bool} (H : KF c sa is) : FnV c 1 tn (.ref 576) F__law_take := @FnIs.fn _ _ _ _ _ _ _ _ _ _ _ _ _ _ H.i__law_take (@sim__law_take_ _ _ _ _ H)
theorem sim__law_great_ {tn : Bool} (H : KF c sa is) : SimB c 1 tn s__law_great b__law_great m__law_great := by
 refine simB_cons ?_ ?_
 ·refine @sim_set _ _ _ _ _ _ _ _ _ _ ⟨by rfl, fun _ => by rfl⟩ ?_ (fun _ => by rfl)
  ·refine @sim_call _ _ _ _ _ _ _ _ _ _ _ _ (by rfl) ?_ (keep_fn (H.kp 12 rfl)) (fn__law_take H) (by decide) ?_
   ·exact @sim_glob _ _ _ _ _ _ _ (H.gr 12 rfl) (fun _ => by rfl) (by rfl)
   ·refine sim_cons (hn := by rfl) ?_ ?_
    ·exact @sim_loc _ _ _ _ _ _ _ (by rfl) (fun _ => by rfl) (by rfl)
    ·refine sim_cons (hn := by rfl) ?_ ?_
     ·exact sim_int
     ·exact sim_nil
 ·refine simB_cons ?_ ?_
  ·refine sim_ret ?_
   ·refine @sim_bin _ _ _ _ _ _ _ _ _ _ _ ?_ ?_ p_mod
    ·refine @sim_bin _ _ _ _ _ _ _ _ _ _ _ ?_ ?_ p_add
     ·refine @sim_bin _ _ _ _ _ _ _ _ _ _ _ ?_ ?_ p_mul
      ·exact sim_int
      ·exact @sim_loc _ _ _ _ _ _ _ (by rfl) (fun _ => by rfl) (by rfl)
     ·refine @sim_call _ _ _ _ _ _ _ _ _ _ _ _ (by rfl) ?_ (keep_fn (H.kp 12 rfl)) (fn__law_take H) (by decide) ?_
      ·exact @sim_glob _ _ _ _ _ _ _ (H.gr 12 rfl) (fun _ => by rfl) (by rfl)
      ·refine sim_cons (hn := by rfl) ?_ ?_
       ·exact @sim_loc _ _ _ _ _ _ _ (by rfl) (fun _ => by rfl) (by rfl)
       ·refine sim_cons (hn := by rfl) ?_ ?_
        ·exact sim_int
        ·exact sim_nil
    ·exact @sim_loc _ _ _ _ _ _ _ (by rfl) (fun _ => by rfl) (by rfl)
  ·exact simB_nil
theorem fn__law_great {tn : Bool} (H : KF c sa is) : FnV c 2 tn (.ref 583) F__law_great := @FnIs.fn _ _ _ _ _ _ _ _ _ _ _ _ _ _ H.i__law_great (@sim__law_great_ _ _ _ _ H)
theorem sim__law_read_ (H : KF c sa is) : SimB c 9 true s__law_read b__law_read m__law_read := by
 refine simB_cons ?_ ?_
 ·refine @sim_set _ _ _ _ _ _ _ _ _ _ ⟨by rfl, fun _ => by rfl⟩ ?_ (fun _ => by rfl)
  ·refine @sim_call _ _ _ _ _ _ _ _ _ _ _ _ (by rfl) ?_ (keep_fn (H.kp 0 rfl)) (fn_PlainSource H) (by decide) ?_
   ·exact @sim_glob _ _ _ _ _ _ _ (H.gr 0 rfl) (fun _ => by rfl) (by rfl)
   ·refine sim_cons (hn := by rfl) ?_ ?_
    ·refine @sim_comp (cl := fun _ => []) _ _ _ _ _ _ _ _ _ _ _ ⟨fun _ _ => by rfl, by rfl, by decide +kernel, by rfl, by decide +kernel, fun _ _ => by rfl⟩ ?_ ?_
     ·refine ce_ifeq ?_ ?_ ?_ ?_
      ·exact ce_x (hk := by rfl) (hx := by rfl) (hd := by rfl)
      ·exact ce_str (e := by kernel_rfl)
      ·refine ce_tup2 (h1 := by rfl) (h2 := by rfl) ?_ ?_
       ·exact ce_int
       ·exact ce_int
      ·refine ce_tup2 (h1 := by rfl) (h2 := by rfl) ?_ ?_
       ·exact ce_int
       ·refine @ce_call (V := .builtin "ord") _ _ _ _ _ _ _ _ _ _ _ _ _ (by rfl) (keep_blt _) fn_ord (by decide) (ceV_blt H.b_ord (by rfl) (fun _ _ => by rfl) (by rfl)) ?_
        ·exact ce_x (hk := by rfl) (hx := by rfl) (hd := by rfl)
     ·exact @sim_loc _ _ _ _ _ _ _ (by rfl) (fun _ => by rfl) (by rfl)
    ·refine sim_cons (hn := by rfl) ?_ ?_
     ·exact sim_none
     ·refine sim_cons (hn := by rfl) ?_ ?_
      ·exact sim_none
      ·refine sim_cons (hn := by rfl) ?_ ?_
       ·exact sim_int
       ·refine sim_cons (hn := by rfl) ?_ ?_
        ·exact sim_int
        ·exact sim_nil
 ·refine simB_cons ?_ ?_
  ·refine @sim_try _ _ _ _ _ _ _ _ _ _ _ _ _ _ _ _ _ _ _ _ _ _ _ _ _ ⟨by rfl, fun _ => by rfl⟩ ?_ (keep_fn (H.kp 21 rfl)) (fnX_dimen H) (by decide) (by rfl) ?_ (fun _ => by rfl) H.v_Overflow H.kts (by decide +kernel) (fun _ => by rfl) (by rfl) (by rfl)
   ·exact @sim_glob _ _ _ _ _ _ _ (H.gr 21 rfl) (fun _ => by rfl) (by rfl)
   ·exact @sim_loc _ _ _ _ _ _ _ (by rfl) (fun _ => by rfl) (by rfl)
  ·refine simB_cons ?_ ?_
   ·refine sim_ret ?_
    ·refine sim_ifexp ?_ ?_ ?_
     ·refine simT_and ?_ ?_
      ·refine @simT_cmp _ _ _ _ _ _ _ _ _ _ _ ?_ ?_ p_eq (by rfl)
       ·refine @sim_item _ _ _ _ _ _ _ _ _ (fun _ _ _ => by rfl) ?_ ?_
        ·exact @sim_loc _ _ _ _ _ _ _ (by rfl) (fun _ => by rfl) (by rfl)
        ·exact sim_int
       ·exact sim_int
      ·refine simT_and ?_ ?_
       ·refine @simT_cmp _ _ _ _ _ _ _ _ _ _ _ ?_ ?_ p_eq (by rfl)
        ·refine @sim_meth _ _ _ _ _ _ _ _ _ _ _ _ _ _ _ (fun _ => ⟨_, by rfl⟩) (by rfl) H.m_left (fn_left H) (by decide) ?_ ?_
         ·exact @sim_loc _ _ _ _ _ _ _ (by rfl) (fun _ => by rfl) (by rfl)
         ·exact sim_nil
        ·refine sim_list ?_
         ·exact sim_nil
       ·refine simT_and1 ?_
        ·refine simT_not ?_
         ·refine @simT_plain _ _ _ _ _ _ ?_ (fun _ => by rfl)
          ·refine @sim_call _ _ _ _ _ _ _ _ _ _ _ _ (by rfl) ?_ (keep_blt _) fn_isi (by decide) ?_
           ·exact @sim_blt _ _ _ _ _ _ _ H.b_isinstance (fun _ => by rfl) (by rfl)
           ·refine sim_cons (hn := by rfl) ?_ ?_
            ·refine @sim_item _ _ _ _ _ _ _ _ _ (fun _ _ _ => by rfl) ?_ ?_
             ·exact @sim_loc _ _ _ _ _ _ _ (by rfl) (fun _ => by rfl) (by rfl)
             ·exact sim_int
            ·refine sim_cons (hn := by rfl) ?_ ?_
             ·exact @sim_blt _ _ _ _ _ _ _ H.b_bool (fun _ => by rfl) (by rfl)
             ·exact sim_nil
     ·refine @sim_item _ _ _ _ _ _ _ _ _ (fun _ _ _ => by rfl) ?_ ?_
      ·exact @sim_loc _ _ _ _ _ _ _ (by rfl) (fun _ => by rfl) (by rfl)
      ·exact sim_int
     ·exact sim_str (e := by kernel_rfl)
   ·exact simB_nil
theorem fn__law_read (H : KF c sa is) : FnV c 10 true (.ref 588) F__law_read := @FnIs.fn _ _ _ _ _ _ _ _ _ _ _ _ _ _ H.i__law_read (@sim__law_read_ _ _ _ H)
theorem sim__law_multiples_ (H : KF c sa is) : SimB c 10 true s__law_multiples b__law_multiples m__law_multiples := by
 refine simB_cons ?_ ?_
 ·refine @sim_setTup _ _ _ _ _ _ _ _ _ _ _ ⟨fun _ => .name ⟨by rfl, fun _ => by rfl⟩ (.name ⟨by rfl, fun _ => by rfl⟩ (.name ⟨by rfl, fun _ => by rfl⟩ (.name ⟨by rfl, fun _ => by rfl⟩ (.name ⟨by rfl, fun _ => by rfl⟩ (.nil))))), fun _ => by rfl⟩ ?_ (fun _ => by rfl) (fun _ => by rfl)
  ·refine @sim_item _ _ _ _ _ _ _ _ _ (fun _ _ _ => by rfl) ?_ ?_
   ·refine @sim_call _ _ _ _ _ _ _ _ _ _ _ _ (by rfl) ?_ (keep_fn (H.kp 9 rfl)) (fn__law_rows H) (by decide) ?_
    ·exact @sim_glob _ _ _ _ _ _ _ (H.gr 9 rfl) (fun _ => by rfl) (by rfl)
    ·exact sim_nil
   ·refine @sim_call _ _ _ _ _ _ _ _ _ _ _ _ (by rfl) ?_ (keep_fn (H.kp 12 rfl)) (fn__law_take H) (by decide) ?_
    ·exact @sim_glob _ _ _ _ _ _ _ (H.gr 12 rfl) (fun _ => by rfl) (by rfl)
    ·refine sim_cons (hn := by rfl) ?_ ?_
     ·exact @sim_loc _ _ _ _ _ _ _ (by rfl) (fun _ => by rfl) (by rfl)
     ·refine sim_cons (hn := by rfl) ?_ ?_
      ·exact sim_int
      ·exact sim_nil
 ·refine simB_cons ?_ ?_
  ·refine @sim_set _ _ _ _ _ _ _ _ _ _ ⟨by rfl, fun _ => by rfl⟩ ?_ (fun _ => by rfl)
   ·refine @sim_call _ _ _ _ _ _ _ _ _ _ _ _ (by rfl) ?_ (keep_fn (H.kp 3 rfl)) (fn__law_great H) (by decide) ?_
    ·exact @sim_glob _ _ _ _ _ _ _ (H.gr 3 rfl) (fun _ => by rfl) (by rfl)
    ·refine sim_cons (hn := by rfl) ?_ ?_
     ·exact @sim_loc _ _ _ _ _ _ _ (by rfl) (fun _ => by rfl) (by rfl)
     ·refine sim_cons (hn := by rfl) ?_ ?_
      ·refine @sim_bin _ _ _ _ _ _ _ _ _ _ _ ?_ ?_ p_add
       ·exact @sim_loc _ _ _ _ _ _ _ (by rfl) (fun _ => by rfl) (by rfl)
       ·exact sim_int
      ·exact sim_nil
  ·refine simB_cons ?_ ?_
   ·refine @sim_set _ _ _ _ _ _ _ _ _ _ ⟨by rfl, fun _ => by rfl⟩ ?_ (fun _ => by rfl)
    ·refine @sim_call _ _ _ _ _ _ _ _ _ _ _ _ (by rfl) ?_ (keep_fn (H.kp 8 rfl)) (fn__law_read H) (by decide) ?_
     ·exact @sim_glob _ _ _ _ _ _ _ (H.gr 8 rfl) (fun _ => by rfl) (by rfl)
     ·refine sim_cons (hn := by rfl) ?_ ?_
      ·refine @sim_bin _ _ _ _ _ _ _ _ _ _ _ ?_ ?_ p_add
       ·refine @sim_call _ _ _ _ _ _ _ _ _ _ _ _ (by rfl) ?_ (keep_type _) fn_str (by decide) ?_
        ·exact @sim_blt _ _ _ _ _ _ _ H.b_str (fun _ => by rfl) (by rfl)
        ·refine sim_cons (hn := by rfl) ?_ ?_
         ·refine @sim_bin _ _ _ _ _ _ _ _ _ _ _ ?_ ?_ p_mul
          ·exact @sim_loc _ _ _ _ _ _ _ (by rfl) (fun _ => by rfl) (by rfl)
          ·exact @sim_loc _ _ _ _ _ _ _ (by rfl) (fun _ => by rfl) (by rfl)
         ·exact sim_nil
       ·exact @sim_loc _ _ _ _ _ _ _ (by rfl) (fun _ => by rfl) (by rfl)
      ·exact sim_nil
   ·refine simB_cons ?_ ?_
    ·refine sim_ret ?_
     ·refine sim_and ?_ ?_
      ·refine @sim_cmp _ _ _ _ _ _ _ _ _ _ _ ?_ ?_ p_eq (by rfl)
       ·exact @sim_loc _ _ _ _ _ _ _ (by rfl) (fun _ => by rfl) (by rfl)
       ·refine @sim_call _ _ _ _ _ _ _ _ _ _ _ _ (by rfl) ?_ (keep_fn (H.kp 8 rfl)) (fn__law_read H) (by decide) ?_
        ·exact @sim_glob _ _ _ _ _ _ _ (H.gr 8 rfl) (fun _ => by rfl) (by rfl)
        ·refine sim_cons (hn := by rfl) ?_ ?_
         ·refine @sim_bin _ _ _ _ _ _ _ _ _ _ _ ?_ ?_ p_add
          ·refine @sim_call _ _ _ _ _ _ _ _ _ _ _ _ (by rfl) ?_ (keep_type _) fn_str (by decide) ?_
           ·exact @sim_blt _ _ _ _ _ _ _ H.b_str (fun _ => by rfl) (by rfl)
           ·refine sim_cons (hn := by rfl) ?_ ?_
            ·refine @sim_bin _ _ _ _ _ _ _ _ _ _ _ ?_ ?_ p_mul
             ·exact @sim_loc _ _ _ _ _ _ _ (by rfl) (fun _ => by rfl) (by rfl)
             ·exact @sim_loc _ _ _ _ _ _ _ (by rfl) (fun _ => by rfl) (by rfl)
            ·exact sim_nil
          ·exact @sim_loc _ _ _ _ _ _ _ (by rfl) (fun _ => by rfl) (by rfl)
         ·exact sim_nil
      ·refine sim_and ?_ ?_
       ·refine @sim_cmp _ _ _ _ _ _ _ _ _ _ _ ?_ ?_ p_ne (by rfl)
        ·exact @sim_loc _ _ _ _ _ _ _ (by rfl) (fun _ => by rfl) (by rfl)
        ·exact sim_str (e := by kernel_rfl)
       ·refine sim_and1 ?_
        ·refine @sim_cmp _ _ _ _ _ _ _ _ _ _ _ ?_ ?_ p_ne (by rfl)
         ·exact @sim_loc _ _ _ _ _ _ _ (by rfl) (fun _ => by rfl) (by rfl)
         ·exact sim_str (e := by kernel_rfl)
    ·exact simB_nil
theorem fn__law_multiples (H : KF c sa is) : FnV c 11 true (.ref 595) F__law_multiples := @FnIs.fn _ _ _ _ _ _ _ _ _ _ _ _ _ _ H.i__law_multiples (@sim__law_multiples_ _ _ _ H)
theorem sim__law_decimal_ {tn : Bool} (H : KF c sa is) : SimB c 0 tn s__law_decimal b__law_decimal m__law_decimal := by
 refine simB_cons ?_ ?_
 ·refine sim_ret ?_
  ·refine @sim_bin _ _ _ _ _ _ _ _ _ _ _ ?_ ?_ p_add
   ·refine @sim_bin _ _ _ _ _ _ _ _ _ _ _ ?_ ?_ p_add
    ·refine @sim_bin _ _ _ _ _ _ _ _ _ _ _ ?_ ?_ p_add
     ·refine @sim_call _ _ _ _ _ _ _ _ _ _ _ _ (by rfl) ?_ (keep_type _) fn_str (by decide) ?_
      ·exact @sim_blt _ _ _ _ _ _ _ H.b_str (fun _ => by rfl) (by rfl)
      ·refine sim_cons (hn := by rfl) ?_ ?_
       ·refine @sim_bin _ _ _ _ _ _ _ _ _ _ _ ?_ ?_ p_div
        ·exact @sim_loc _ _ _ _ _ _ _ (by rfl) (fun _ => by rfl) (by rfl)
        ·refine @sim_bin _ _ _ _ _ _ _ _ _ _ _ ?_ ?_ p_pow
         ·exact sim_int
         ·exact @sim_loc _ _ _ _ _ _ _ (by rfl) (fun _ => by rfl) (by rfl)
       ·exact sim_nil
     ·exact sim_str (e := by kernel_rfl)
    ·refine @sim_str1 _ _ _ _ _ _ _ _ _ _ (fun _ _ => by rfl) ?_
     ·refine @sim_call _ _ _ _ _ _ _ _ _ _ _ _ (by rfl) ?_ (keep_type _) fn_str (by decide) ?_
      ·exact @sim_blt _ _ _ _ _ _ _ H.b_str (fun _ => by rfl) (by rfl)
      ·refine sim_cons (hn := by rfl) ?_ ?_
       ·refine @sim_bin _ _ _ _ _ _ _ _ _ _ _ ?_ ?_ p_add
        ·refine @sim_bin _ _ _ _ _ _ _ _ _ _ _ ?_ ?_ p_pow
         ·exact sim_int
         ·exact @sim_loc _ _ _ _ _ _ _ (by rfl) (fun _ => by rfl) (by rfl)
        ·refine @sim_bin _ _ _ _ _ _ _ _ _ _ _ ?_ ?_ p_mod
         ·exact @sim_loc _ _ _ _ _ _ _ (by rfl) (fun _ => by rfl) (by rfl)
         ·refine @sim_bin _ _ _ _ _ _ _ _ _ _ _ ?_ ?_ p_pow
          ·exact sim_int
          ·exact @sim_loc _ _ _ _ _ _ _ (by rfl) (fun _ => by rfl) (by rfl)
       ·exact sim_nil
   ·exact @sim_loc _ _ _ _ _ _ _ (by rfl) (fun _ => by rfl) (by rfl)
 ·exact simB_nil
theorem fn__law_decimal {tn : Bool} (H : KF c sa is) : FnV c 1 tn (.ref 602) F__law_decimal := @FnIs.fn _ _ _ _ _ _ _ _ _ _ _ _ _ _ H.i__law_decimal (@sim__law_decimal_ _ _ _ _ H)
theorem sim__law_order_ (H : KF c sa is) : SimB c 10 true s__law_order b__law_order m__law_order := by
 refine simB_cons ?_ ?_
 ·refine @sim_set _ _ _ _ _ _ _ _ _ _ ⟨by rfl, fun _ => by rfl⟩ ?_ (fun _ => by rfl)
  ·refine @sim_item _ _ _ _ _ _ _ _ _ (fun _ _ _ => by rfl) ?_ ?_
   ·refine @sim_item _ _ _ _ _ _ _ _ _ (fun _ _ _ => by rfl) ?_ ?_
    ·refine @sim_call _ _ _ _ _ _ _ _ _ _ _ _ (by rfl) ?_ (keep_fn (H.kp 13 rfl)) (fn__law_units H) (by decide) ?_
     ·exact @sim_glob _ _ _ _ _ _ _ (H.gr 13 rfl) (fun _ => by rfl) (by rfl)
     ·exact sim_nil
    ·refine @sim_call _ _ _ _ _ _ _ _ _ _ _ _ (by rfl) ?_ (keep_fn (H.kp 12 rfl)) (fn__law_take H) (by decide) ?_
     ·exact @sim_glob _ _ _ _ _ _ _ (H.gr 12 rfl) (fun _ => by rfl) (by rfl)
     ·refine sim_cons (hn := by rfl) ?_ ?_
      ·exact @sim_loc _ _ _ _ _ _ _ (by rfl) (fun _ => by rfl) (by rfl)
      ·refine sim_cons (hn := by rfl) ?_ ?_
       ·exact sim_int
       ·exact sim_nil
   ·exact sim_int
 ·refine simB_cons ?_ ?_
  ·refine @sim_setTupR (names := ["count", "less"]) _ _ _ _ _ _ _ _ _ _ _ (fun _ => .bind ⟨by rfl, fun _ => by rfl⟩ (.bind ⟨by rfl, fun _ => by rfl⟩ (.nil))) ?_ (fun _ => by rfl) (fun _ => by rfl)
   ·refine sim_tup ?_
    ·refine sim_cons (hn := by rfl) ?_ ?_
     ·refine @sim_bin _ _ _ _ _ _ _ _ _ _ _ ?_ ?_ p_add
      ·exact sim_int
      ·refine @sim_call _ _ _ _ _ _ _ _ _ _ _ _ (by rfl) ?_ (keep_fn (H.kp 12 rfl)) (fn__law_take H) (by decide) ?_
       ·exact @sim_glob _ _ _ _ _ _ _ (H.gr 12 rfl) (fun _ => by rfl) (by rfl)
       ·refine sim_cons (hn := by rfl) ?_ ?_
        ·exact @sim_loc _ _ _ _ _ _ _ (by rfl) (fun _ => by rfl) (by rfl)
        ·refine sim_cons (hn := by rfl) ?_ ?_
         ·exact sim_int
         ·exact sim_nil
     ·refine sim_cons (hn := by rfl) ?_ ?_
      ·refine @sim_call _ _ _ _ _ _ _ _ _ _ _ _ (by rfl) ?_ (keep_fn (H.kp 3 rfl)) (fn__law_great H) (by decide) ?_
       ·exact @sim_glob _ _ _ _ _ _ _ (H.gr 3 rfl) (fun _ => by rfl) (by rfl)
       ·refine sim_cons (hn := by rfl) ?_ ?_
        ·exact @sim_loc _ _ _ _ _ _ _ (by rfl) (fun _ => by rfl) (by rfl)
        ·refine sim_cons (hn := by rfl) ?_ ?_
         ·exact sim_int
         ·exact sim_nil
      ·exact sim_nil
  ·refine simB_cons ?_ ?_
   ·refine @sim_set _ _ _ _ _ _ _ _ _ _ ⟨by rfl, fun _ => by rfl⟩ ?_ (fun _ => by rfl)
    ·refine @sim_bin _ _ _ _ _ _ _ _ _ _ _ ?_ ?_ p_add
     ·exact @sim_loc _ _ _ _ _ _ _ (by rfl) (fun _ => by rfl) (by rfl)
     ·refine @sim_item _ _ _ _ _ _ _ _ _ (fun _ _ _ => by rfl) ?_ ?_
      ·refine sim_list ?_
       ·refine sim_cons (hn := by rfl) ?_ ?_
        ·exact sim_int
        ·refine sim_cons (hn := by rfl) ?_ ?_
         ·exact sim_int
         ·refine sim_cons (hn := by rfl) ?_ ?_
          ·refine @sim_bin _ _ _ _ _ _ _ _ _ _ _ ?_ ?_ p_sub
           ·refine @sim_bin _ _ _ _ _ _ _ _ _ _ _ ?_ ?_ p_pow
            ·exact sim_int
            ·exact @sim_loc _ _ _ _ _ _ _ (by rfl) (fun _ => by rfl) (by rfl)
           ·exact sim_int
          ·refine sim_cons (hn := by rfl) ?_ ?_
           ·refine @sim_bin _ _ _ _ _ _ _ _ _ _ _ ?_ ?_ p_pow
            ·exact sim_int
            ·exact @sim_loc _ _ _ _ _ _ _ (by rfl) (fun _ => by rfl) (by rfl)
           ·refine sim_cons (hn := by rfl) ?_ ?_
            ·refine @sim_bin _ _ _ _ _ _ _ _ _ _ _ ?_ ?_ p_add
             ·refine @sim_bin _ _ _ _ _ _ _ _ _ _ _ ?_ ?_ p_pow
              ·exact sim_int
              ·exact @sim_loc _ _ _ _ _ _ _ (by rfl) (fun _ => by rfl) (by rfl)
             ·exact sim_int
            ·refine sim_cons (hn := by rfl) ?_ ?_
             ·refine @sim_call _ _ _ _ _ _ _ _ _ _ _ _ (by rfl) ?_ (keep_fn (H.kp 12 rfl)) (fn__law_take H) (by decide) ?_
              ·exact @sim_glob _ _ _ _ _ _ _ (H.gr 12 rfl) (fun _ => by rfl) (by rfl)
              ·refine sim_cons (hn := by rfl) ?_ ?_
               ·exact @sim_loc _ _ _ _ _ _ _ (by rfl) (fun _ => by rfl) (by rfl)
               ·refine sim_cons (hn := by rfl) ?_ ?_
                ·exact sim_int
                ·exact sim_nil
             ·exact sim_nil
      ·refine @sim_call _ _ _ _ _ _ _ _ _ _ _ _ (by rfl) ?_ (keep_fn (H.kp 12 rfl)) (fn__law_take H) (by decide) ?_
       ·exact @sim_glob _ _ _ _ _ _ _ (H.gr 12 rfl) (fun _ => by rfl) (by rfl)
       ·refine sim_cons (hn := by rfl) ?_ ?_
        ·exact @sim_loc _ _ _ _ _ _ _ (by rfl) (fun _ => by rfl) (by rfl)
        ·refine sim_cons (hn := by rfl) ?_ ?_
         ·exact sim_int
         ·exact sim_nil
   ·refine simB_cons ?_ ?_
    ·refine @sim_set _ _ _ _ _ _ _ _ _ _ ⟨by rfl, fun _ => by rfl⟩ ?_ (fun _ => by rfl)
     ·refine @sim_bin _ _ _ _ _ _ _ _ _ _ _ ?_ ?_ p_mod
      ·exact @sim_loc _ _ _ _ _ _ _ (by rfl) (fun _ => by rfl) (by rfl)
      ·refine @sim_bin _ _ _ _ _ _ _ _ _ _ _ ?_ ?_ p_mul
       ·exact sim_int
       ·refine @sim_bin _ _ _ _ _ _ _ _ _ _ _ ?_ ?_ p_pow
        ·exact sim_int
        ·exact @sim_loc _ _ _ _ _ _ _ (by rfl) (fun _ => by rfl) (by rfl)
    ·refine simB_cons ?_ ?_
     ·refine @sim_setTupR (names := ["low", "high"]) _ _ _ _ _ _ _ _ _ _ _ (fun _ => .bind ⟨by rfl, fun _ => by rfl⟩ (.bind ⟨by rfl, fun _ => by rfl⟩ (.nil))) ?_ (fun _ => by rfl) (fun _ => by rfl)
      ·refine sim_tup ?_
       ·refine sim_cons (hn := by rfl) ?_ ?_
        ·refine @sim_call _ _ _ _ _ _ _ _ _ _ _ _ (by rfl) ?_ (keep_fn (H.kp 8 rfl)) (fn__law_read H) (by decide) ?_
         ·exact @sim_glob _ _ _ _ _ _ _ (H.gr 8 rfl) (fun _ => by rfl) (by rfl)
         ·refine sim_cons (hn := by rfl) ?_ ?_
          ·refine @sim_call _ _ _ _ _ _ _ _ _ _ _ _ (by rfl) ?_ (keep_fn (H.kp 2 rfl)) (fn__law_decimal H) (by decide) ?_
           ·exact @sim_glob _ _ _ _ _ _ _ (H.gr 2 rfl) (fun _ => by rfl) (by rfl)
           ·refine sim_cons (hn := by rfl) ?_ ?_
            ·exact @sim_loc _ _ _ _ _ _ _ (by rfl) (fun _ => by rfl) (by rfl)
            ·refine sim_cons (hn := by rfl) ?_ ?_
             ·exact @sim_loc _ _ _ _ _ _ _ (by rfl) (fun _ => by rfl) (by rfl)
             ·refine sim_cons (hn := by rfl) ?_ ?_
              ·exact @sim_loc _ _ _ _ _ _ _ (by rfl) (fun _ => by rfl) (by rfl)
              ·exact sim_nil
          ·exact sim_nil
        ·refine sim_cons (hn := by rfl) ?_ ?_
         ·refine @sim_call _ _ _ _ _ _ _ _ _ _ _ _ (by rfl) ?_ (keep_fn (H.kp 8 rfl)) (fn__law_read H) (by decide) ?_
          ·exact @sim_glob _ _ _ _ _ _ _ (H.gr 8 rfl) (fun _ => by rfl) (by rfl)
          ·refine sim_cons (hn := by rfl) ?_ ?_
           ·refine @sim_call _ _ _ _ _ _ _ _ _ _ _ _ (by rfl) ?_ (keep_fn (H.kp 2 rfl)) (fn__law_decimal H) (by decide) ?_
            ·exact @sim_glob _ _ _ _ _ _ _ (H.gr 2 rfl) (fun _ => by rfl) (by rfl)
            ·refine sim_cons (hn := by rfl) ?_ ?_
             ·refine @sim_bin _ _ _ _ _ _ _ _ _ _ _ ?_ ?_ p_sub
              ·refine @sim_bin _ _ _ _ _ _ _ _ _ _ _ ?_ ?_ p_add
               ·exact @sim_loc _ _ _ _ _ _ _ (by rfl) (fun _ => by rfl) (by rfl)
               ·exact @sim_loc _ _ _ _ _ _ _ (by rfl) (fun _ => by rfl) (by rfl)
              ·exact @sim_loc _ _ _ _ _ _ _ (by rfl) (fun _ => by rfl) (by rfl)
             ·refine sim_cons (hn := by rfl) ?_ ?_
              ·exact @sim_loc _ _ _ _ _ _ _ (by rfl) (fun _ => by rfl) (by rfl)
              ·refine sim_cons (hn := by rfl) ?_ ?_
               ·exact @sim_loc _ _ _ _ _ _ _ (by rfl) (fun _ => by rfl) (by rfl)
               ·exact sim_nil
           ·exact sim_nil
         ·exact sim_nil
     ·refine simB_cons ?_ ?_
      ·refine sim_if ?_ ?_ ?_
       ·refine simT_or ?_ ?_
        ·refine @simT_cmp _ _ _ _ _ _ _ _ _ _ _ ?_ ?_ p_in (by rfl)
         ·exact @sim_loc _ _ _ _ _ _ _ (by rfl) (fun _ => by rfl) (by rfl)
         ·refine sim_list ?_
          ·refine sim_cons (hn := by rfl) ?_ ?_
           ·exact sim_str (e := by kernel_rfl)
           ·refine sim_cons (hn := by rfl) ?_ ?_
            ·exact sim_str (e := by kernel_rfl)
            ·exact sim_nil
        ·refine simT_or1 ?_
         ·refine @simT_cmp _ _ _ _ _ _ _ _ _ _ _ ?_ ?_ p_in (by rfl)
          ·exact @sim_loc _ _ _ _ _ _ _ (by rfl) (fun _ => by rfl) (by rfl)
          ·refine sim_list ?_
           ·refine sim_cons (hn := by rfl) ?_ ?_
            ·exact sim_str (e := by kernel_rfl)
            ·refine sim_cons (hn := by rfl) ?_ ?_
             ·exact sim_str (e := by kernel_rfl)
             ·exact sim_nil
       ·refine simB_cons ?_ ?_
        ·refine sim_ret ?_
         ·exact sim_bool
        ·exact simB_nil
       ·exact simB_nil
      ·refine simB_cons ?_ ?_
       ·refine sim_ret ?_
        ·refine sim_and ?_ ?_
         ·refine @sim_cmp _ _ _ _ _ _ _ _ _ _ _ ?_ ?_ p_le (by rfl)
          ·exact @sim_loc _ _ _ _ _ _ _ (by rfl) (fun _ => by rfl) (by rfl)
          ·exact @sim_loc _ _ _ _ _ _ _ (by rfl) (fun _ => by rfl) (by rfl)
         ·refine sim_and1 ?_
          ·refine sim_or ?_ ?_
           ·refine @sim_cmp _ _ _ _ _ _ _ _ _ _ _ ?_ ?_ p_lt (by rfl)
            ·refine @sim_bin _ _ _ _ _ _ _ _ _ _ _ ?_ ?_ p_sub
             ·exact @sim_loc _ _ _ _ _ _ _ (by rfl) (fun _ => by rfl) (by rfl)
             ·exact @sim_loc _ _ _ _ _ _ _ (by rfl) (fun _ => by rfl) (by rfl)
            ·refine @sim_bin _ _ _ _ _ _ _ _ _ _ _ ?_ ?_ p_pow
             ·exact sim_int
             ·exact @sim_loc _ _ _ _ _ _ _ (by rfl) (fun _ => by rfl) (by rfl)
           ·refine sim_and1 ?_
            ·refine @sim_cmp _ _ _ _ _ _ _ _ _ _ _ ?_ ?_ p_ge (by rfl)
             ·refine @sim_bin _ _ _ _ _ _ _ _ _ _ _ ?_ ?_ p_sub
              ·exact @sim_loc _ _ _ _ _ _ _ (by rfl) (fun _ => by rfl) (by rfl)
              ·exact @sim_loc _ _ _ _ _ _ _ (by rfl) (fun _ => by rfl) (by rfl)
             ·exact sim_int
       ·exact simB_nil
theorem fn__law_order (H : KF c sa is) : FnV c 11 true (.ref 609) F__law_order := @FnIs.fn _ _ _ _ _ _ _ _ _ _ _ _ _ _ H.i__law_order (@sim__law_order_ _ _ _ H)
theorem sim__law_sums_ (H : KF c sa is) : SimB c 10 true s__law_sums b__law_sums m__law_sums := by
 refine simB_cons ?_ ?_
 ·refine @sim_setC _ _ _ _ _ _ _ _ _ _ (by rfl) (fun _ => by rfl) ?_ (fun _ => by rfl)
  ·refine @sim_item _ _ _ _ _ _ _ _ _ (fun _ _ _ => by rfl) ?_ ?_
   ·refine sim_listAdd ?_ ?_
    ·refine sim_list ?_
     ·refine sim_cons (hn := by rfl) ?_ ?_
      ·exact sim_str (e := by kernel_rfl)
      ·refine sim_cons (hn := by rfl) ?_ ?_
       ·exact sim_str (e := by kernel_rfl)
       ·refine sim_cons (hn := by rfl) ?_ ?_
        ·exact sim_str (e := by kernel_rfl)
        ·exact sim_nil
    ·refine @sim_comp (cl := fun _ => []) _ _ _ _ _ _ _ _ _ _ _ ⟨fun _ _ => by rfl, by rfl, by decide +kernel, by rfl, by decide +kernel, fun _ _ => by rfl⟩ ?_ ?_
     ·refine @ce_item _ _ _ _ _ _ _ _ _ _ _ (fun _ _ _ => by rfl) ?_ ?_
      ·exact ce_x (hk := by rfl) (hx := by rfl) (hd := by rfl)
      ·exact ce_int
     ·refine @sim_call _ _ _ _ _ _ _ _ _ _ _ _ (by rfl) ?_ (keep_fn (H.kp 13 rfl)) (fn__law_units H) (by decide) ?_
      ·exact @sim_glob _ _ _ _ _ _ _ (H.gr 13 rfl) (fun _ => by rfl) (by rfl)
      ·exact sim_nil
   ·refine @sim_call _ _ _ _ _ _ _ _ _ _ _ _ (by rfl) ?_ (keep_fn (H.kp 12 rfl)) (fn__law_take H) (by decide) ?_
    ·exact @sim_glob _ _ _ _ _ _ _ (H.gr 12 rfl) (fun _ => by rfl) (by rfl)
    ·refine sim_cons (hn := by rfl) ?_ ?_
     ·exact @sim_loc _ _ _ _ _ _ _ (by rfl) (fun _ => by rfl) (by rfl)
     ·refine sim_cons (hn := by rfl) ?_ ?_
      ·exact sim_int
      ·exact sim_nil
 ·refine simB_cons ?_ ?_
  ·refine @sim_setTupR (names := ["one", "other"]) _ _ _ _ _ _ _ _ _ _ _ (fun _ => .bind ⟨by rfl, fun _ => by rfl⟩ (.bind ⟨by rfl, fun _ => by rfl⟩ (.nil))) ?_ (fun _ => by rfl) (fun _ => by rfl)
   ·refine sim_tup ?_
    ·refine sim_cons (hn := by rfl) ?_ ?_
     ·refine @sim_call _ _ _ _ _ _ _ _ _ _ _ _ (by rfl) ?_ (keep_fn (H.kp 12 rfl)) (fn__law_take H) (by decide) ?_
      ·exact @sim_glob _ _ _ _ _ _ _ (H.gr 12 rfl) (fun _ => by rfl) (by rfl)
      ·refine sim_cons (hn := by rfl) ?_ ?_
       ·exact @sim_loc _ _ _ _ _ _ _ (by rfl) (fun _ => by rfl) (by rfl)
       ·refine sim_cons (hn := by rfl) ?_ ?_
        ·exact sim_int
        ·exact sim_nil
     ·refine sim_cons (hn := by rfl) ?_ ?_
      ·refine @sim_call _ _ _ _ _ _ _ _ _ _ _ _ (by rfl) ?_ (keep_fn (H.kp 12 rfl)) (fn__law_take H) (by decide) ?_
       ·exact @sim_glob _ _ _ _ _ _ _ (H.gr 12 rfl) (fun _ => by rfl) (by rfl)
       ·refine sim_cons (hn := by rfl) ?_ ?_
        ·exact @sim_loc _ _ _ _ _ _ _ (by rfl) (fun _ => by rfl) (by rfl)
        ·refine sim_cons (hn := by rfl) ?_ ?_
         ·exact sim_int
         ·exact sim_nil
      ·exact sim_nil
  ·refine simB_cons ?_ ?_
   ·refine @sim_setComp (cl := clName) _ _ _ _ _ _ _ _ _ _ _ _ _ _ _ WxName gdName ⟨fun _ h => clName_clos _ rfl h, by rfl, by decide +kernel, by rfl, by decide +kernel, fun _ _ => by rfl⟩ (fun f g₀ ρ σ W s hs h => WxName_of (i := 1) (by rfl) hs h) ?_ ?_ ⟨by rfl, fun _ => by rfl⟩ (fun _ => by rfl)
    ·refine @ce_call (V := .ref 588) _ _ _ _ _ _ _ _ _ _ _ _ _ (by rfl) (keep_fn (H.kp 8 rfl)) (fn__law_read H) (by decide) (ceV_glob H.v__law_read (by rfl) (fun _ _ => by rfl) (by rfl)) ?_
     ·refine @ce_bin _ _ _ _ _ _ _ _ _ _ _ _ _ ?_ ?_ p_add
      ·refine @ce_call (V := .type "str") _ _ _ _ _ _ _ _ _ _ _ _ _ (by rfl) (keep_type _) fn_str (by decide) (ceV_blt H.b_str (by rfl) (fun _ _ => by rfl) (by rfl)) ?_
       ·exact ce_x (hk := by rfl) (hx := by rfl) (hd := by rfl)
      ·exact @ce_free (i := 1) _ _ _ _ _ _ _ _ (by rfl) (fun _ _ h => by simp only [clName, h]; rfl) (by rfl) (fun _ _ => by rfl) (by rfl)
    ·refine sim_list ?_
     ·refine sim_cons (hn := by rfl) ?_ ?_
      ·exact @sim_loc _ _ _ _ _ _ _ (by rfl) (fun _ => by rfl) (by rfl)
      ·refine sim_cons (hn := by rfl) ?_ ?_
       ·exact @sim_loc _ _ _ _ _ _ _ (by rfl) (fun _ => by rfl) (by rfl)
       ·refine sim_cons (hn := by rfl) ?_ ?_
        ·refine @sim_bin _ _ _ _ _ _ _ _ _ _ _ ?_ ?_ p_add
         ·exact @sim_loc _ _ _ _ _ _ _ (by rfl) (fun _ => by rfl) (by rfl)
         ·exact @sim_loc _ _ _ _ _ _ _ (by rfl) (fun _ => by rfl) (by rfl)
        ·exact sim_nil
   ·refine simB_cons ?_ ?_
    ·refine sim_if ?_ ?_ ?_
     ·refine simT_or ?_ ?_
      ·refine @simT_cmp _ _ _ _ _ _ _ _ _ _ _ ?_ ?_ p_in (by rfl)
       ·exact sim_str (e := by kernel_rfl)
       ·exact @sim_loc _ _ _ _ _ _ _ (by rfl) (fun _ => by rfl) (by rfl)
      ·refine simT_or1 ?_
       ·refine @simT_cmp _ _ _ _ _ _ _ _ _ _ _ ?_ ?_ p_in (by rfl)
        ·exact sim_str (e := by kernel_rfl)
        ·exact @sim_loc _ _ _ _ _ _ _ (by rfl) (fun _ => by rfl) (by rfl)
     ·refine simB_cons ?_ ?_
      ·refine sim_ret ?_
       ·exact sim_bool
      ·exact simB_nil
     ·exact simB_nil
    ·refine simB_cons ?_ ?_
     ·refine sim_ret ?_
      ·refine @sim_chain _ _ _ _ _ _ _ _ _ _ _ _ _ _ _ ?_ ?_ ?_ p_le p_le (by rfl)
       ·exact sim_int
       ·refine @sim_bin _ _ _ _ _ _ _ _ _ _ _ ?_ ?_ p_sub
        ·refine @sim_bin _ _ _ _ _ _ _ _ _ _ _ ?_ ?_ p_sub
         ·refine @sim_item _ _ _ _ _ _ _ _ _ (fun _ _ _ => by rfl) ?_ ?_
          ·exact @sim_loc _ _ _ _ _ _ _ (by rfl) (fun _ => by rfl) (by rfl)
          ·exact sim_int
         ·refine @sim_item _ _ _ _ _ _ _ _ _ (fun _ _ _ => by rfl) ?_ ?_
          ·exact @sim_loc _ _ _ _ _ _ _ (by rfl) (fun _ => by rfl) (by rfl)
          ·exact sim_int
        ·refine @sim_item _ _ _ _ _ _ _ _ _ (fun _ _ _ => by rfl) ?_ ?_
         ·exact @sim_loc _ _ _ _ _ _ _ (by rfl) (fun _ => by rfl) (by rfl)
         ·exact sim_int
       ·refine @sim_call _ _ _ _ _ _ _ _ _ _ _ _ (by rfl) ?_ (keep_type _) fn_int (by decide) ?_
        ·exact @sim_blt _ _ _ _ _ _ _ H.b_int (fun _ => by rfl) (by rfl)
        ·refine sim_cons (hn := by rfl) ?_ ?_
         ·refine @sim_cmp _ _ _ _ _ _ _ _ _ _ _ ?_ ?_ p_notIn (by rfl)
          ·exact @sim_locC _ _ _ _ _ _ _ (by rfl) (fun _ => by rfl) (by rfl)
          ·refine sim_list ?_
           ·refine sim_cons (hn := by rfl) ?_ ?_
            ·exact sim_str (e := by kernel_rfl)
            ·refine sim_cons (hn := by rfl) ?_ ?_
             ·exact sim_str (e := by kernel_rfl)
             ·refine sim_cons (hn := by rfl) ?_ ?_
              ·exact sim_str (e := by kernel_rfl)
              ·refine sim_cons (hn := by rfl) ?_ ?_
               ·exact sim_str (e := by kernel_rfl)
               ·refine sim_cons (hn := by rfl) ?_ ?_
                ·exact sim_str (e := by kernel_rfl)
                ·exact sim_nil
         ·exact sim_nil
     ·exact simB_nil
theorem fn__law_sums (H : KF c sa is) : FnV c 11 true (.ref 614) F__law_sums := @FnIsC.fn _ _ _ _ _ _ _ _ _ _ _ H.i__law_sums (@sim__law_sums_ _ _ _ H)
theorem sim__law_ways_ (H : KF c sa is) : SimB c 10 true s__law_ways b__law_ways m__law_ways := by
 refine simB_cons ?_ ?_
 ·refine @sim_set _ _ _ _ _ _ _ _ _ _ ⟨by rfl, fun _ => by rfl⟩ ?_ (fun _ => by rfl)
  ·refine @sim_item _ _ _ _ _ _ _ _ _ (fun _ _ _ => by rfl) ?_ ?_
   ·refine @sim_item _ _ _ _ _ _ _ _ _ (fun _ _ _ => by rfl) ?_ ?_
    ·refine @sim_call _ _ _ _ _ _ _ _ _ _ _ _ (by rfl) ?_ (keep_fn (H.kp 13 rfl)) (fn__law_units H) (by decide) ?_
     ·exact @sim_glob _ _ _ _ _ _ _ (H.gr 13 rfl) (fun _ => by rfl) (by rfl)
     ·exact sim_nil
    ·refine @sim_call _ _ _ _ _ _ _ _ _ _ _ _ (by rfl) ?_ (keep_fn (H.kp 12 rfl)) (fn__law_take H) (by decide) ?_
     ·exact @sim_glob _ _ _ _ _ _ _ (H.gr 12 rfl) (fun _ => by rfl) (by rfl)
     ·refine sim_cons (hn := by rfl) ?_ ?_
      ·exact @sim_loc _ _ _ _ _ _ _ (by rfl) (fun _ => by rfl) (by rfl)
      ·refine sim_cons (hn := by rfl) ?_ ?_
       ·exact sim_int
       ·exact sim_nil
   ·exact sim_int
 ·refine simB_cons ?_ ?_
  ·refine @sim_setTupR (names := ["whole", "part"]) _ _ _ _ _ _ _ _ _ _ _ (fun _ => .bind ⟨by rfl, fun _ => by rfl⟩ (.bind ⟨by rfl, fun _ => by rfl⟩ (.nil))) ?_ (fun _ => by rfl) (fun _ => by rfl)
   ·refine sim_tup ?_
    ·refine sim_cons (hn := by rfl) ?_ ?_
     ·refine @sim_call _ _ _ _ _ _ _ _ _ _ _ _ (by rfl) ?_ (keep_type _) fn_str (by decide) ?_
      ·exact @sim_blt _ _ _ _ _ _ _ H.b_str (fun _ => by rfl) (by rfl)
      ·refine sim_cons (hn := by rfl) ?_ ?_
       ·refine @sim_call _ _ _ _ _ _ _ _ _ _ _ _ (by rfl) ?_ (keep_fn (H.kp 12 rfl)) (fn__law_take H) (by decide) ?_
        ·exact @sim_glob _ _ _ _ _ _ _ (H.gr 12 rfl) (fun _ => by rfl) (by rfl)
        ·refine sim_cons (hn := by rfl) ?_ ?_
         ·exact @sim_loc _ _ _ _ _ _ _ (by rfl) (fun _ => by rfl) (by rfl)
         ·refine sim_cons (hn := by rfl) ?_ ?_
          ·exact sim_int
          ·exact sim_nil
       ·exact sim_nil
     ·refine sim_cons (hn := by rfl) ?_ ?_
      ·refine @sim_str1 _ _ _ _ _ _ _ _ _ _ (fun _ _ => by rfl) ?_
       ·refine @sim_call _ _ _ _ _ _ _ _ _ _ _ _ (by rfl) ?_ (keep_type _) fn_str (by decide) ?_
        ·exact @sim_blt _ _ _ _ _ _ _ H.b_str (fun _ => by rfl) (by rfl)
        ·refine sim_cons (hn := by rfl) ?_ ?_
         ·refine @sim_bin _ _ _ _ _ _ _ _ _ _ _ ?_ ?_ p_add
          ·exact sim_int
          ·refine @sim_call _ _ _ _ _ _ _ _ _ _ _ _ (by rfl) ?_ (keep_fn (H.kp 12 rfl)) (fn__law_take H) (by decide) ?_
           ·exact @sim_glob _ _ _ _ _ _ _ (H.gr 12 rfl) (fun _ => by rfl) (by rfl)
           ·refine sim_cons (hn := by rfl) ?_ ?_
            ·exact @sim_loc _ _ _ _ _ _ _ (by rfl) (fun _ => by rfl) (by rfl)
            ·refine sim_cons (hn := by rfl) ?_ ?_
             ·exact sim_int
             ·exact sim_nil
         ·exact sim_nil
      ·exact sim_nil
  ·refine simB_cons ?_ ?_
   ·refine @sim_set _ _ _ _ _ _ _ _ _ _ ⟨by rfl, fun _ => by rfl⟩ ?_ (fun _ => by rfl)
    ·refine @sim_call _ _ _ _ _ _ _ _ _ _ _ _ (by rfl) ?_ (keep_fn (H.kp 8 rfl)) (fn__law_read H) (by decide) ?_
     ·exact @sim_glob _ _ _ _ _ _ _ (H.gr 8 rfl) (fun _ => by rfl) (by rfl)
     ·refine sim_cons (hn := by rfl) ?_ ?_
      ·refine @sim_bin _ _ _ _ _ _ _ _ _ _ _ ?_ ?_ p_add
       ·refine @sim_bin _ _ _ _ _ _ _ _ _ _ _ ?_ ?_ p_add
        ·refine @sim_bin _ _ _ _ _ _ _ _ _ _ _ ?_ ?_ p_add
         ·exact @sim_loc _ _ _ _ _ _ _ (by rfl) (fun _ => by rfl) (by rfl)
         ·exact sim_str (e := by kernel_rfl)
        ·exact @sim_loc _ _ _ _ _ _ _ (by rfl) (fun _ => by rfl) (by rfl)
       ·exact @sim_loc _ _ _ _ _ _ _ (by rfl) (fun _ => by rfl) (by rfl)
      ·exact sim_nil
   ·refine simB_cons ?_ ?_
    ·refine @sim_set _ _ _ _ _ _ _ _ _ _ ⟨by rfl, fun _ => by rfl⟩ ?_ (fun _ => by rfl)
     ·refine sim_list ?_
      ·refine sim_cons (hn := by rfl) ?_ ?_
       ·refine sim_tup ?_
        ·refine sim_cons (hn := by rfl) ?_ ?_
         ·refine @sim_bin _ _ _ _ _ _ _ _ _ _ _ ?_ ?_ p_add
          ·refine @sim_bin _ _ _ _ _ _ _ _ _ _ _ ?_ ?_ p_add
           ·refine @sim_bin _ _ _ _ _ _ _ _ _ _ _ ?_ ?_ p_add
            ·refine @sim_bin _ _ _ _ _ _ _ _ _ _ _ ?_ ?_ p_add
             ·exact sim_str (e := by kernel_rfl)
             ·exact @sim_loc _ _ _ _ _ _ _ (by rfl) (fun _ => by rfl) (by rfl)
            ·exact sim_str (e := by kernel_rfl)
           ·exact @sim_loc _ _ _ _ _ _ _ (by rfl) (fun _ => by rfl) (by rfl)
          ·exact @sim_loc _ _ _ _ _ _ _ (by rfl) (fun _ => by rfl) (by rfl)
         ·refine sim_cons (hn := by rfl) ?_ ?_
          ·refine @sim_un _ _ _ _ _ _ _ _ _ ?_ p_neg
           ·exact sim_int
          ·exact sim_nil
       ·refine sim_cons (hn := by rfl) ?_ ?_
        ·refine sim_tup ?_
         ·refine sim_cons (hn := by rfl) ?_ ?_
          ·refine @sim_bin _ _ _ _ _ _ _ _ _ _ _ ?_ ?_ p_add
           ·refine @sim_bin _ _ _ _ _ _ _ _ _ _ _ ?_ ?_ p_add
            ·refine @sim_bin _ _ _ _ _ _ _ _ _ _ _ ?_ ?_ p_add
             ·refine @sim_bin _ _ _ _ _ _ _ _ _ _ _ ?_ ?_ p_add
              ·refine @sim_bin _ _ _ _ _ _ _ _ _ _ _ ?_ ?_ p_add
               ·refine @sim_bin _ _ _ _ _ _ _ _ _ _ _ ?_ ?_ p_add
                ·exact sim_str (e := by kernel_rfl)
                ·exact @sim_loc _ _ _ _ _ _ _ (by rfl) (fun _ => by rfl) (by rfl)
               ·exact sim_str (e := by kernel_rfl)
              ·exact @sim_loc _ _ _ _ _ _ _ (by rfl) (fun _ => by rfl) (by rfl)
             ·exact sim_str (e := by kernel_rfl)
            ·exact @sim_loc _ _ _ _ _ _ _ (by rfl) (fun _ => by rfl) (by rfl)
           ·exact sim_str (e := by kernel_rfl)
          ·refine sim_cons (hn := by rfl) ?_ ?_
           ·exact sim_int
           ·exact sim_nil
        ·refine sim_cons (hn := by rfl) ?_ ?_
         ·refine sim_tup ?_
          ·refine sim_cons (hn := by rfl) ?_ ?_
           ·refine @sim_bin _ _ _ _ _ _ _ _ _ _ _ ?_ ?_ p_add
            ·refine @sim_bin _ _ _ _ _ _ _ _ _ _ _ ?_ ?_ p_add
             ·refine @sim_bin _ _ _ _ _ _ _ _ _ _ _ ?_ ?_ p_add
              ·refine @sim_bin _ _ _ _ _ _ _ _ _ _ _ ?_ ?_ p_add
               ·refine @sim_bin _ _ _ _ _ _ _ _ _ _ _ ?_ ?_ p_add
                ·exact sim_str (e := by kernel_rfl)
                ·exact @sim_loc _ _ _ _ _ _ _ (by rfl) (fun _ => by rfl) (by rfl)
               ·exact sim_str (e := by kernel_rfl)
              ·exact @sim_loc _ _ _ _ _ _ _ (by rfl) (fun _ => by rfl) (by rfl)
             ·exact sim_str (e := by kernel_rfl)
            ·exact @sim_loc _ _ _ _ _ _ _ (by rfl) (fun _ => by rfl) (by rfl)
           ·refine sim_cons (hn := by rfl) ?_ ?_
            ·exact sim_int
            ·exact sim_nil
         ·refine sim_cons (hn := by rfl) ?_ ?_
          ·refine sim_tup ?_
           ·refine sim_cons (hn := by rfl) ?_ ?_
            ·refine @sim_bin _ _ _ _ _ _ _ _ _ _ _ ?_ ?_ p_add
             ·refine @sim_bin _ _ _ _ _ _ _ _ _ _ _ ?_ ?_ p_add
              ·refine @sim_bin _ _ _ _ _ _ _ _ _ _ _ ?_ ?_ p_add
               ·refine @sim_bin _ _ _ _ _ _ _ _ _ _ _ ?_ ?_ p_add
                ·refine @sim_bin _ _ _ _ _ _ _ _ _ _ _ ?_ ?_ p_add
                 ·exact sim_str (e := by kernel_rfl)
                 ·exact @sim_loc _ _ _ _ _ _ _ (by rfl) (fun _ => by rfl) (by rfl)
                ·exact sim_str (e := by kernel_rfl)
               ·exact @sim_loc _ _ _ _ _ _ _ (by rfl) (fun _ => by rfl) (by rfl)
              ·exact sim_str (e := by kernel_rfl)
             ·refine @sim_join _ _ _ _ _ _ _ _ _ _ (fun _ => ⟨_, by rfl⟩) (by rfl) ?_
              ·refine @sim_comp (cl := fun _ => []) _ _ _ _ _ _ _ _ _ _ _ ⟨fun _ _ => by rfl, by rfl, by decide +kernel, by rfl, by decide +kernel, fun _ _ => by rfl⟩ ?_ ?_
               ·refine @ce_call (V := .builtin "chr") _ _ _ _ _ _ _ _ _ _ _ _ _ (by rfl) (keep_blt _) fn_chr (by decide) (ceV_blt H.b_chr (by rfl) (fun _ _ => by rfl) (by rfl)) ?_
                ·refine @ce_bin _ _ _ _ _ _ _ _ _ _ _ _ _ ?_ ?_ p_sub
                 ·refine @ce_call (V := .builtin "ord") _ _ _ _ _ _ _ _ _ _ _ _ _ (by rfl) (keep_blt _) fn_ord (by decide) (ceV_blt H.b_ord (by rfl) (fun _ _ => by rfl) (by rfl)) ?_
                  ·exact ce_x (hk := by rfl) (hx := by rfl) (hd := by rfl)
                 ·exact ce_int
               ·exact @sim_loc _ _ _ _ _ _ _ (by rfl) (fun _ => by rfl) (by rfl)
            ·refine sim_cons (hn := by rfl) ?_ ?_
             ·exact sim_int
             ·exact sim_nil
          ·refine sim_cons (hn := by rfl) ?_ ?_
           ·refine sim_tup ?_
            ·refine sim_cons (hn := by rfl) ?_ ?_
             ·refine @sim_bin _ _ _ _ _ _ _ _ _ _ _ ?_ ?_ p_add
              ·refine @sim_bin _ _ _ _ _ _ _ _ _ _ _ ?_ ?_ p_add
               ·refine @sim_bin _ _ _ _ _ _ _ _ _ _ _ ?_ ?_ p_add
                ·refine @sim_bin _ _ _ _ _ _ _ _ _ _ _ ?_ ?_ p_add
                 ·refine @sim_bin _ _ _ _ _ _ _ _ _ _ _ ?_ ?_ p_add
                  ·exact sim_str (e := by kernel_rfl)
                  ·exact @sim_loc _ _ _ _ _ _ _ (by rfl) (fun _ => by rfl) (by rfl)
                 ·exact sim_str (e := by kernel_rfl)
                ·exact @sim_loc _ _ _ _ _ _ _ (by rfl) (fun _ => by rfl) (by rfl)
               ·refine @sim_bin _ _ _ _ _ _ _ _ _ _ _ ?_ ?_ p_mul
                ·exact sim_str (e := by kernel_rfl)
                ·exact sim_int
              ·exact @sim_loc _ _ _ _ _ _ _ (by rfl) (fun _ => by rfl) (by rfl)
             ·refine sim_cons (hn := by rfl) ?_ ?_
              ·exact sim_int
              ·exact sim_nil
           ·exact sim_nil
    ·refine simB_cons ?_ ?_
     ·refine sim_if ?_ ?_ ?_
      ·refine @simT_cmp _ _ _ _ _ _ _ _ _ _ _ ?_ ?_ p_in (by rfl)
       ·exact @sim_loc _ _ _ _ _ _ _ (by rfl) (fun _ => by rfl) (by rfl)
       ·refine sim_list ?_
        ·refine sim_cons (hn := by rfl) ?_ ?_
         ·exact sim_str (e := by kernel_rfl)
         ·refine sim_cons (hn := by rfl) ?_ ?_
          ·exact sim_str (e := by kernel_rfl)
          ·exact sim_nil
      ·refine simB_cons ?_ ?_
       ·refine sim_ret ?_
        ·exact sim_bool
       ·exact simB_nil
      ·exact simB_nil
     ·refine simB_cons ?_ ?_
      ·refine @sim_forR _ _ _ _ _ _ _ _ _ _ _ _ _ _ ?_ ?_ (by rfl) ?_ ?_ (fun _ _ => by rfl)
       ·exact @sim_blt _ _ _ _ _ _ _ H.b_range (fun _ => by rfl) (by rfl)
       ·exact sim_int
       ·exact @tgt_name _ _ _ _ _ _ _ ⟨by rfl, fun _ => by rfl⟩
       ·refine simB_cons ?_ ?_
        ·refine @sim_setTup _ _ _ _ _ _ _ _ _ _ _ ⟨fun _ => .name ⟨by rfl, fun _ => by rfl⟩ (.name ⟨by rfl, fun _ => by rfl⟩ (.nil)), fun _ => by rfl⟩ ?_ (fun _ => by rfl) (fun _ => by rfl)
         ·refine @sim_item _ _ _ _ _ _ _ _ _ (fun _ _ _ => by rfl) ?_ ?_
          ·exact @sim_loc _ _ _ _ _ _ _ (by rfl) (fun _ => by rfl) (by rfl)
          ·refine @sim_call _ _ _ _ _ _ _ _ _ _ _ _ (by rfl) ?_ (keep_fn (H.kp 12 rfl)) (fn__law_take H) (by decide) ?_
           ·exact @sim_glob _ _ _ _ _ _ _ (H.gr 12 rfl) (fun _ => by rfl) (by rfl)
           ·refine sim_cons (hn := by rfl) ?_ ?_
            ·exact @sim_loc _ _ _ _ _ _ _ (by rfl) (fun _ => by rfl) (by rfl)
            ·refine sim_cons (hn := by rfl) ?_ ?_
             ·exact sim_int
             ·exact sim_nil
        ·refine simB_cons ?_ ?_
         ·refine sim_if ?_ ?_ ?_
          ·refine @simT_cmp _ _ _ _ _ _ _ _ _ _ _ ?_ ?_ p_ne (by rfl)
           ·refine @sim_call _ _ _ _ _ _ _ _ _ _ _ _ (by rfl) ?_ (keep_fn (H.kp 8 rfl)) (fn__law_read H) (by decide) ?_
            ·exact @sim_glob _ _ _ _ _ _ _ (H.gr 8 rfl) (fun _ => by rfl) (by rfl)
            ·refine sim_cons (hn := by rfl) ?_ ?_
             ·exact @sim_loc _ _ _ _ _ _ _ (by rfl) (fun _ => by rfl) (by rfl)
             ·exact sim_nil
           ·refine @sim_bin _ _ _ _ _ _ _ _ _ _ _ ?_ ?_ p_mul
            ·exact @sim_loc _ _ _ _ _ _ _ (by rfl) (fun _ => by rfl) (by rfl)
            ·exact @sim_loc _ _ _ _ _ _ _ (by rfl) (fun _ => by rfl) (by rfl)
          ·refine simB_cons ?_ ?_
           ·refine sim_ret ?_
            ·exact sim_bool
           ·exact simB_nil
          ·exact simB_nil
         ·exact simB_nil
      ·refine simB_cons ?_ ?_
       ·refine sim_ret ?_
        ·exact sim_bool
       ·exact simB_nil
theorem fn__law_ways (H : KF c sa is) : FnV c 11 true (.ref 619) F__law_ways := @FnIs.fn _ _ _ _ _ _ _ _ _ _ _ _ _ _ H.i__law_ways (@sim__law_ways_ _ _ _ H)
theorem sim__law_bounds_ (H : KF c sa is) : SimB c 10 true s__law_bounds b__law_bounds m__law_bounds := by
 refine simB_cons ?_ ?_
 ·refine @sim_set _ _ _ _ _ _ _ _ _ _ ⟨by rfl, fun _ => by rfl⟩ ?_ (fun _ => by rfl)
  ·refine @sim_call _ _ _ _ _ _ _ _ _ _ _ _ (by rfl) ?_ (keep_fn (H.kp 12 rfl)) (fn__law_take H) (by decide) ?_
   ·exact @sim_glob _ _ _ _ _ _ _ (H.gr 12 rfl) (fun _ => by rfl) (by rfl)
   ·refine sim_cons (hn := by rfl) ?_ ?_
    ·exact @sim_loc _ _ _ _ _ _ _ (by rfl) (fun _ => by rfl) (by rfl)
    ·refine sim_cons (hn := by rfl) ?_ ?_
     ·exact sim_int
     ·exact sim_nil
 ·refine simB_cons ?_ ?_
  ·refine sim_if ?_ ?_ ?_
   ·refine @simT_cmp _ _ _ _ _ _ _ _ _ _ _ ?_ ?_ p_gt (by rfl)
    ·exact @sim_loc _ _ _ _ _ _ _ (by rfl) (fun _ => by rfl) (by rfl)
    ·exact sim_int
   ·refine simB_cons ?_ ?_
    ·refine @sim_setTup _ _ _ _ _ _ _ _ _ _ _ ⟨fun _ => .name ⟨by rfl, fun _ => by rfl⟩ (.name ⟨by rfl, fun _ => by rfl⟩ (.nil)), fun _ => by rfl⟩ ?_ (fun _ => by rfl) (fun _ => by rfl)
     ·refine @sim_item _ _ _ _ _ _ _ _ _ (fun _ _ _ => by rfl) ?_ ?_
      ·refine sim_list ?_
       ·refine sim_cons (hn := by rfl) ?_ ?_
        ·refine sim_tup ?_
         ·refine sim_cons (hn := by rfl) ?_ ?_
          ·exact sim_str (e := by kernel_rfl)
          ·refine sim_cons (hn := by rfl) ?_ ?_
           ·refine @sim_bin _ _ _ _ _ _ _ _ _ _ _ ?_ ?_ p_sub
            ·refine @sim_bin _ _ _ _ _ _ _ _ _ _ _ ?_ ?_ p_pow
             ·exact sim_int
             ·exact sim_int
            ·exact sim_int
           ·exact sim_nil
        ·refine sim_cons (hn := by rfl) ?_ ?_
         ·refine sim_tup ?_
          ·refine sim_cons (hn := by rfl) ?_ ?_
           ·exact sim_str (e := by kernel_rfl)
           ·refine sim_cons (hn := by rfl) ?_ ?_
            ·refine @sim_bin _ _ _ _ _ _ _ _ _ _ _ ?_ ?_ p_div
             ·refine @sim_bin _ _ _ _ _ _ _ _ _ _ _ ?_ ?_ p_sub
              ·refine @sim_bin _ _ _ _ _ _ _ _ _ _ _ ?_ ?_ p_pow
               ·exact sim_int
               ·exact sim_int
              ·exact sim_int
             ·exact sim_int
            ·exact sim_nil
         ·exact sim_nil
      ·refine @sim_bin _ _ _ _ _ _ _ _ _ _ _ ?_ ?_ p_sub
       ·exact @sim_loc _ _ _ _ _ _ _ (by rfl) (fun _ => by rfl) (by rfl)
       ·exact sim_int
    ·refine simB_cons ?_ ?_
     ·refine @sim_set _ _ _ _ _ _ _ _ _ _ ⟨by rfl, fun _ => by rfl⟩ ?_ (fun _ => by rfl)
      ·refine sim_ifexp ?_ ?_ ?_
       ·refine @simT_cmp _ _ _ _ _ _ _ _ _ _ _ ?_ ?_ p_eq (by rfl)
        ·exact @sim_loc _ _ _ _ _ _ _ (by rfl) (fun _ => by rfl) (by rfl)
        ·exact sim_int
       ·exact @sim_loc _ _ _ _ _ _ _ (by rfl) (fun _ => by rfl) (by rfl)
       ·refine @sim_bin _ _ _ _ _ _ _ _ _ _ _ ?_ ?_ p_mul
        ·exact @sim_loc _ _ _ _ _ _ _ (by rfl) (fun _ => by rfl) (by rfl)
        ·exact sim_int
     ·exact simB_nil
   ·refine simB_cons ?_ ?_
    ·refine @sim_setTup _ _ _ _ _ _ _ _ _ _ _ ⟨fun _ => .name ⟨by rfl, fun _ => by rfl⟩ (.name ⟨by rfl, fun _ => by rfl⟩ (.name ⟨by rfl, fun _ => by rfl⟩ (.nil))), fun _ => by rfl⟩ ?_ (fun _ => by rfl) (fun _ => by rfl)
     ·refine @sim_item _ _ _ _ _ _ _ _ _ (fun _ _ _ => by rfl) ?_ ?_
      ·refine @sim_call _ _ _ _ _ _ _ _ _ _ _ _ (by rfl) ?_ (keep_fn (H.kp 13 rfl)) (fn__law_units H) (by decide) ?_
       ·exact @sim_glob _ _ _ _ _ _ _ (H.gr 13 rfl) (fun _ => by rfl) (by rfl)
       ·exact sim_nil
      ·exact @sim_loc _ _ _ _ _ _ _ (by rfl) (fun _ => by rfl) (by rfl)
    ·refine simB_cons ?_ ?_
     ·refine @sim_set _ _ _ _ _ _ _ _ _ _ ⟨by rfl, fun _ => by rfl⟩ ?_ (fun _ => by rfl)
      ·refine @sim_bin _ _ _ _ _ _ _ _ _ _ _ ?_ ?_ p_div
       ·refine @sim_bin _ _ _ _ _ _ _ _ _ _ _ ?_ ?_ p_sub
        ·refine @sim_bin _ _ _ _ _ _ _ _ _ _ _ ?_ ?_ p_mul
         ·exact sim_int
         ·exact @sim_loc _ _ _ _ _ _ _ (by rfl) (fun _ => by rfl) (by rfl)
        ·exact sim_int
       ·exact @sim_loc _ _ _ _ _ _ _ (by rfl) (fun _ => by rfl) (by rfl)
     ·refine simB_cons ?_ ?_
      ·refine @sim_set _ _ _ _ _ _ _ _ _ _ ⟨by rfl, fun _ => by rfl⟩ ?_ (fun _ => by rfl)
       ·refine @sim_bin _ _ _ _ _ _ _ _ _ _ _ ?_ ?_ p_div
        ·refine @sim_bin _ _ _ _ _ _ _ _ _ _ _ ?_ ?_ p_mul
         ·refine @sim_bin _ _ _ _ _ _ _ _ _ _ _ ?_ ?_ p_mul
          ·exact sim_int
          ·exact @sim_loc _ _ _ _ _ _ _ (by rfl) (fun _ => by rfl) (by rfl)
         ·exact @sim_loc _ _ _ _ _ _ _ (by rfl) (fun _ => by rfl) (by rfl)
        ·exact @sim_loc _ _ _ _ _ _ _ (by rfl) (fun _ => by rfl) (by rfl)
      ·exact simB_nil
  ·refine simB_cons ?_ ?_
   ·refine sim_ret ?_
    ·refine sim_and ?_ ?_
     ·refine @sim_cmp _ _ _ _ _ _ _ _ _ _ _ ?_ ?_ p_eq (by rfl)
      ·refine @sim_call _ _ _ _ _ _ _ _ _ _ _ _ (by rfl) ?_ (keep_fn (H.kp 8 rfl)) (fn__law_read H) (by decide) ?_
       ·exact @sim_glob _ _ _ _ _ _ _ (H.gr 8 rfl) (fun _ => by rfl) (by rfl)
       ·refine sim_cons (hn := by rfl) ?_ ?_
        ·refine @sim_bin _ _ _ _ _ _ _ _ _ _ _ ?_ ?_ p_add
         ·refine @sim_call _ _ _ _ _ _ _ _ _ _ _ _ (by rfl) ?_ (keep_type _) fn_str (by decide) ?_
          ·exact @sim_blt _ _ _ _ _ _ _ H.b_str (fun _ => by rfl) (by rfl)
          ·refine sim_cons (hn := by rfl) ?_ ?_
           ·exact @sim_loc _ _ _ _ _ _ _ (by rfl) (fun _ => by rfl) (by rfl)
           ·exact sim_nil
         ·exact @sim_loc _ _ _ _ _ _ _ (by rfl) (fun _ => by rfl) (by rfl)
        ·exact sim_nil
      ·exact @sim_loc _ _ _ _ _ _ _ (by rfl) (fun _ => by rfl) (by rfl)
     ·refine sim_and1 ?_
      ·refine @sim_cmp _ _ _ _ _ _ _ _ _ _ _ ?_ ?_ p_eq (by rfl)
       ·refine @sim_call _ _ _ _ _ _ _ _ _ _ _ _ (by rfl) ?_ (keep_fn (H.kp 8 rfl)) (fn__law_read H) (by decide) ?_
        ·exact @sim_glob _ _ _ _ _ _ _ (H.gr 8 rfl) (fun _ => by rfl) (by rfl)
        ·refine sim_cons (hn := by rfl) ?_ ?_
         ·refine @sim_bin _ _ _ _ _ _ _ _ _ _ _ ?_ ?_ p_add
          ·refine @sim_call _ _ _ _ _ _ _ _ _ _ _ _ (by rfl) ?_ (keep_type _) fn_str (by decide) ?_
           ·exact @sim_blt _ _ _ _ _ _ _ H.b_str (fun _ => by rfl) (by rfl)
           ·refine sim_cons (hn := by rfl) ?_ ?_
            ·refine @sim_bin _ _ _ _ _ _ _ _ _ _ _ ?_ ?_ p_add
             ·exact @sim_loc _ _ _ _ _ _ _ (by rfl) (fun _ => by rfl) (by rfl)
             ·exact sim_int
            ·exact sim_nil
          ·exact @sim_loc _ _ _ _ _ _ _ (by rfl) (fun _ => by rfl) (by rfl)
         ·exact sim_nil
       ·exact sim_str (e := by kernel_rfl)
   ·exact simB_nil
theorem fn__law_bounds (H : KF c sa is) : FnV c 11 true (.ref 626) F__law_bounds := @FnIs.fn _ _ _ _ _ _ _ _ _ _ _ _ _ _ H.i__law_bounds (@sim__law_bounds_ _ _ _ H)
theorem sim__law_part_ (H : KF c sa is) : SimB c 10 true s__law_part b__law_part m__law_part := by
 refine simB_cons ?_ ?_
 ·refine @sim_setTupR (names := ["whole", "part", "count"]) _ _ _ _ _ _ _ _ _ _ _ (fun _ => .bind ⟨by rfl, fun _ => by rfl⟩ (.bind ⟨by rfl, fun _ => by rfl⟩ (.bind ⟨by rfl, fun _ => by rfl⟩ (.nil)))) ?_ (fun _ => by rfl) (fun _ => by rfl)
  ·refine sim_tup ?_
   ·refine sim_cons (hn := by rfl) ?_ ?_
    ·refine @sim_call _ _ _ _ _ _ _ _ _ _ _ _ (by rfl) ?_ (keep_fn (H.kp 3 rfl)) (fn__law_great H) (by decide) ?_
     ·exact @sim_glob _ _ _ _ _ _ _ (H.gr 3 rfl) (fun _ => by rfl) (by rfl)
     ·refine sim_cons (hn := by rfl) ?_ ?_
      ·exact @sim_loc _ _ _ _ _ _ _ (by rfl) (fun _ => by rfl) (by rfl)
      ·refine sim_cons (hn := by rfl) ?_ ?_
       ·exact sim_int
       ·exact sim_nil
    ·refine sim_cons (hn := by rfl) ?_ ?_
     ·refine @sim_call _ _ _ _ _ _ _ _ _ _ _ _ (by rfl) ?_ (keep_fn (H.kp 3 rfl)) (fn__law_great H) (by decide) ?_
      ·exact @sim_glob _ _ _ _ _ _ _ (H.gr 3 rfl) (fun _ => by rfl) (by rfl)
      ·refine sim_cons (hn := by rfl) ?_ ?_
       ·exact @sim_loc _ _ _ _ _ _ _ (by rfl) (fun _ => by rfl) (by rfl)
       ·refine sim_cons (hn := by rfl) ?_ ?_
        ·exact sim_int
        ·exact sim_nil
     ·refine sim_cons (hn := by rfl) ?_ ?_
      ·refine @sim_call _ _ _ _ _ _ _ _ _ _ _ _ (by rfl) ?_ (keep_fn (H.kp 12 rfl)) (fn__law_take H) (by decide) ?_
       ·exact @sim_glob _ _ _ _ _ _ _ (H.gr 12 rfl) (fun _ => by rfl) (by rfl)
       ·refine sim_cons (hn := by rfl) ?_ ?_
        ·exact @sim_loc _ _ _ _ _ _ _ (by rfl) (fun _ => by rfl) (by rfl)
        ·refine sim_cons (hn := by rfl) ?_ ?_
         ·exact sim_int
         ·exact sim_nil
      ·exact sim_nil
 ·refine simB_cons ?_ ?_
  ·refine @sim_set _ _ _ _ _ _ _ _ _ _ ⟨by rfl, fun _ => by rfl⟩ ?_ (fun _ => by rfl)
   ·refine @sim_str1 _ _ _ _ _ _ _ _ _ _ (fun _ _ => by rfl) ?_
    ·refine @sim_call _ _ _ _ _ _ _ _ _ _ _ _ (by rfl) ?_ (keep_type _) fn_str (by decide) ?_
     ·exact @sim_blt _ _ _ _ _ _ _ H.b_str (fun _ => by rfl) (by rfl)
     ·refine sim_cons (hn := by rfl) ?_ ?_
      ·refine @sim_bin _ _ _ _ _ _ _ _ _ _ _ ?_ ?_ p_add
       ·exact sim_int
       ·exact @sim_loc _ _ _ _ _ _ _ (by rfl) (fun _ => by rfl) (by rfl)
      ·exact sim_nil
  ·refine simB_cons ?_ ?_
   ·refine @sim_set _ _ _ _ _ _ _ _ _ _ ⟨by rfl, fun _ => by rfl⟩ ?_ (fun _ => by rfl)
    ·refine @sim_call _ _ _ _ _ _ _ _ _ _ _ _ (by rfl) ?_ (keep_fn (H.kp 8 rfl)) (fn__law_read H) (by decide) ?_
     ·exact @sim_glob _ _ _ _ _ _ _ (H.gr 8 rfl) (fun _ => by rfl) (by rfl)
     ·refine sim_cons (hn := by rfl) ?_ ?_
      ·refine @sim_bin _ _ _ _ _ _ _ _ _ _ _ ?_ ?_ p_add
       ·refine @sim_bin _ _ _ _ _ _ _ _ _ _ _ ?_ ?_ p_add
        ·exact sim_str (e := by kernel_rfl)
        ·exact @sim_loc _ _ _ _ _ _ _ (by rfl) (fun _ => by rfl) (by rfl)
       ·exact sim_str (e := by kernel_rfl)
      ·exact sim_nil
   ·refine simB_cons ?_ ?_
    ·refine sim_if ?_ ?_ ?_
     ·refine simT_or ?_ ?_
      ·refine @simT_cmp _ _ _ _ _ _ _ _ _ _ _ ?_ ?_ p_eq (by rfl)
       ·exact @sim_loc _ _ _ _ _ _ _ (by rfl) (fun _ => by rfl) (by rfl)
       ·exact sim_str (e := by kernel_rfl)
      ·refine simT_or ?_ ?_
       ·refine @simT_cmp _ _ _ _ _ _ _ _ _ _ _ ?_ ?_ p_eq (by rfl)
        ·exact @sim_loc _ _ _ _ _ _ _ (by rfl) (fun _ => by rfl) (by rfl)
        ·exact sim_str (e := by kernel_rfl)
       ·refine simT_or1 ?_
        ·refine @simT_cmp _ _ _ _ _ _ _ _ _ _ _ ?_ ?_ p_ne (by rfl)
         ·refine @sim_call _ _ _ _ _ _ _ _ _ _ _ _ (by rfl) ?_ (keep_fn (H.kp 8 rfl)) (fn__law_read H) (by decide) ?_
          ·exact @sim_glob _ _ _ _ _ _ _ (H.gr 8 rfl) (fun _ => by rfl) (by rfl)
          ·refine sim_cons (hn := by rfl) ?_ ?_
           ·refine @sim_bin _ _ _ _ _ _ _ _ _ _ _ ?_ ?_ p_add
            ·refine @sim_bin _ _ _ _ _ _ _ _ _ _ _ ?_ ?_ p_add
             ·exact sim_str (e := by kernel_rfl)
             ·exact @sim_loc _ _ _ _ _ _ _ (by rfl) (fun _ => by rfl) (by rfl)
            ·exact sim_str (e := by kernel_rfl)
           ·exact sim_nil
         ·exact @sim_loc _ _ _ _ _ _ _ (by rfl) (fun _ => by rfl) (by rfl)
     ·refine simB_cons ?_ ?_
      ·refine sim_ret ?_
       ·exact sim_bool
      ·exact simB_nil
     ·exact simB_nil
    ·refine simB_cons ?_ ?_
     ·refine sim_if ?_ ?_ ?_
      ·refine @simT_cmp _ _ _ _ _ _ _ _ _ _ _ ?_ ?_ p_ne (by rfl)
       ·refine @sim_call _ _ _ _ _ _ _ _ _ _ _ _ (by rfl) ?_ (keep_fn (H.kp 8 rfl)) (fn__law_read H) (by decide) ?_
        ·exact @sim_glob _ _ _ _ _ _ _ (H.gr 8 rfl) (fun _ => by rfl) (by rfl)
        ·refine sim_cons (hn := by rfl) ?_ ?_
         ·refine @sim_bin _ _ _ _ _ _ _ _ _ _ _ ?_ ?_ p_add
          ·refine @sim_bin _ _ _ _ _ _ _ _ _ _ _ ?_ ?_ p_add
           ·refine @sim_bin _ _ _ _ _ _ _ _ _ _ _ ?_ ?_ p_add
            ·refine @sim_call _ _ _ _ _ _ _ _ _ _ _ _ (by rfl) ?_ (keep_type _) fn_str (by decide) ?_
             ·exact @sim_blt _ _ _ _ _ _ _ H.b_str (fun _ => by rfl) (by rfl)
             ·refine sim_cons (hn := by rfl) ?_ ?_
              ·exact @sim_loc _ _ _ _ _ _ _ (by rfl) (fun _ => by rfl) (by rfl)
              ·exact sim_nil
            ·exact sim_str (e := by kernel_rfl)
           ·exact @sim_loc _ _ _ _ _ _ _ (by rfl) (fun _ => by rfl) (by rfl)
          ·exact sim_str (e := by kernel_rfl)
         ·exact sim_nil
       ·refine @sim_bin _ _ _ _ _ _ _ _ _ _ _ ?_ ?_ p_add
        ·refine @sim_bin _ _ _ _ _ _ _ _ _ _ _ ?_ ?_ p_mul
         ·exact sim_int
         ·exact @sim_loc _ _ _ _ _ _ _ (by rfl) (fun _ => by rfl) (by rfl)
        ·exact @sim_loc _ _ _ _ _ _ _ (by rfl) (fun _ => by rfl) (by rfl)
      ·refine simB_cons ?_ ?_
       ·refine sim_ret ?_
        ·exact sim_bool
       ·exact simB_nil
      ·exact simB_nil
     ·refine simB_cons ?_ ?_
      ·refine sim_ret ?_
       ·refine @sim_cmp _ _ _ _ _ _ _ _ _ _ _ ?_ ?_ p_eq (by rfl)
        ·refine @sim_call _ _ _ _ _ _ _ _ _ _ _ _ (by rfl) ?_ (keep_fn (H.kp 8 rfl)) (fn__law_read H) (by decide) ?_
         ·exact @sim_glob _ _ _ _ _ _ _ (H.gr 8 rfl) (fun _ => by rfl) (by rfl)
         ·refine sim_cons (hn := by rfl) ?_ ?_
          ·refine @sim_bin _ _ _ _ _ _ _ _ _ _ _ ?_ ?_ p_add
           ·refine @sim_bin _ _ _ _ _ _ _ _ _ _ _ ?_ ?_ p_add
            ·refine @sim_bin _ _ _ _ _ _ _ _ _ _ _ ?_ ?_ p_add
             ·refine @sim_call _ _ _ _ _ _ _ _ _ _ _ _ (by rfl) ?_ (keep_type _) fn_str (by decide) ?_
              ·exact @sim_blt _ _ _ _ _ _ _ H.b_str (fun _ => by rfl) (by rfl)
              ·refine sim_cons (hn := by rfl) ?_ ?_
               ·exact @sim_loc _ _ _ _ _ _ _ (by rfl) (fun _ => by rfl) (by rfl)
               ·exact sim_nil
             ·exact sim_str (e := by kernel_rfl)
            ·refine @sim_str1 _ _ _ _ _ _ _ _ _ _ (fun _ _ => by rfl) ?_
             ·refine @sim_call _ _ _ _ _ _ _ _ _ _ _ _ (by rfl) ?_ (keep_type _) fn_str (by decide) ?_
              ·exact @sim_blt _ _ _ _ _ _ _ H.b_str (fun _ => by rfl) (by rfl)
              ·refine sim_cons (hn := by rfl) ?_ ?_
               ·refine @sim_bin _ _ _ _ _ _ _ _ _ _ _ ?_ ?_ p_add
                ·exact sim_int
                ·refine @sim_bin _ _ _ _ _ _ _ _ _ _ _ ?_ ?_ p_mul
                 ·exact sim_int
                 ·exact @sim_loc _ _ _ _ _ _ _ (by rfl) (fun _ => by rfl) (by rfl)
               ·exact sim_nil
           ·exact sim_str (e := by kernel_rfl)
          ·exact sim_nil
        ·refine @sim_bin _ _ _ _ _ _ _ _ _ _ _ ?_ ?_ p_add
         ·refine @sim_bin _ _ _ _ _ _ _ _ _ _ _ ?_ ?_ p_mul
          ·exact sim_int
          ·exact @sim_loc _ _ _ _ _ _ _ (by rfl) (fun _ => by rfl) (by rfl)
         ·refine @sim_bin _ _ _ _ _ _ _ _ _ _ _ ?_ ?_ p_mul
          ·exact sim_int
          ·exact @sim_loc _ _ _ _ _ _ _ (by rfl) (fun _ => by rfl) (by rfl)
      ·exact simB_nil
theorem fn__law_part (H : KF c sa is) : FnV c 11 true (.ref 633) F__law_part := @FnIs.fn _ _ _ _ _ _ _ _ _ _ _ _ _ _ H.i__law_part (@sim__law_part_ _ _ _ H)
theorem sim__law_scaled_ (H : KF c sa is) : SimB c 10 true s__law_scaled b__law_scaled m__law_scaled := by
 refine simB_cons ?_ ?_
 ·refine @sim_setTupR (names := ["whole", "part"]) _ _ _ _ _ _ _ _ _ _ _ (fun _ => .bind ⟨by rfl, fun _ => by rfl⟩ (.bind ⟨by rfl, fun _ => by rfl⟩ (.nil))) ?_ (fun _ => by rfl) (fun _ => by rfl)
  ·refine sim_tup ?_
   ·refine sim_cons (hn := by rfl) ?_ ?_
    ·refine @sim_call _ _ _ _ _ _ _ _ _ _ _ _ (by rfl) ?_ (keep_fn (H.kp 3 rfl)) (fn__law_great H) (by decide) ?_
     ·exact @sim_glob _ _ _ _ _ _ _ (H.gr 3 rfl) (fun _ => by rfl) (by rfl)
     ·refine sim_cons (hn := by rfl) ?_ ?_
      ·exact @sim_loc _ _ _ _ _ _ _ (by rfl) (fun _ => by rfl) (by rfl)
      ·refine sim_cons (hn := by rfl) ?_ ?_
       ·exact sim_int
       ·exact sim_nil
    ·refine sim_cons (hn := by rfl) ?_ ?_
     ·refine @sim_call _ _ _ _ _ _ _ _ _ _ _ _ (by rfl) ?_ (keep_fn (H.kp 12 rfl)) (fn__law_take H) (by decide) ?_
      ·exact @sim_glob _ _ _ _ _ _ _ (H.gr 12 rfl) (fun _ => by rfl) (by rfl)
      ·refine sim_cons (hn := by rfl) ?_ ?_
       ·exact @sim_loc _ _ _ _ _ _ _ (by rfl) (fun _ => by rfl) (by rfl)
       ·refine sim_cons (hn := by rfl) ?_ ?_
        ·exact sim_int
        ·exact sim_nil
     ·exact sim_nil
 ·refine simB_cons ?_ ?_
  ·refine @sim_set _ _ _ _ _ _ _ _ _ _ ⟨by rfl, fun _ => by rfl⟩ ?_ (fun _ => by rfl)
   ·refine @sim_item _ _ _ _ _ _ _ _ _ (fun _ _ _ => by rfl) ?_ ?_
    ·refine sim_list ?_
     ·refine sim_cons (hn := by rfl) ?_ ?_
      ·exact sim_str (e := by kernel_rfl)
      ·refine sim_cons (hn := by rfl) ?_ ?_
       ·exact sim_str (e := by kernel_rfl)
       ·refine sim_cons (hn := by rfl) ?_ ?_
        ·exact sim_str (e := by kernel_rfl)
        ·refine sim_cons (hn := by rfl) ?_ ?_
         ·refine @sim_bin _ _ _ _ _ _ _ _ _ _ _ ?_ ?_ p_add
          ·exact sim_str (e := by kernel_rfl)
          ·refine @sim_call _ _ _ _ _ _ _ _ _ _ _ _ (by rfl) ?_ (keep_type _) fn_str (by decide) ?_
           ·exact @sim_blt _ _ _ _ _ _ _ H.b_str (fun _ => by rfl) (by rfl)
           ·refine sim_cons (hn := by rfl) ?_ ?_
            ·exact @sim_loc _ _ _ _ _ _ _ (by rfl) (fun _ => by rfl) (by rfl)
            ·exact sim_nil
         ·refine sim_cons (hn := by rfl) ?_ ?_
          ·exact sim_str (e := by kernel_rfl)
          ·exact sim_nil
    ·refine @sim_call _ _ _ _ _ _ _ _ _ _ _ _ (by rfl) ?_ (keep_fn (H.kp 12 rfl)) (fn__law_take H) (by decide) ?_
     ·exact @sim_glob _ _ _ _ _ _ _ (H.gr 12 rfl) (fun _ => by rfl) (by rfl)
     ·refine sim_cons (hn := by rfl) ?_ ?_
      ·exact @sim_loc _ _ _ _ _ _ _ (by rfl) (fun _ => by rfl) (by rfl)
      ·refine sim_cons (hn := by rfl) ?_ ?_
       ·exact sim_int
       ·exact sim_nil
  ·refine simB_cons ?_ ?_
   ·refine sim_ret ?_
    ·refine sim_and ?_ ?_
     ·refine @sim_cmp _ _ _ _ _ _ _ _ _ _ _ ?_ ?_ p_eq (by rfl)
      ·refine @sim_call _ _ _ _ _ _ _ _ _ _ _ _ (by rfl) ?_ (keep_fn (H.kp 8 rfl)) (fn__law_read H) (by decide) ?_
       ·exact @sim_glob _ _ _ _ _ _ _ (H.gr 8 rfl) (fun _ => by rfl) (by rfl)
       ·refine sim_cons (hn := by rfl) ?_ ?_
        ·refine @sim_bin _ _ _ _ _ _ _ _ _ _ _ ?_ ?_ p_add
         ·refine @sim_bin _ _ _ _ _ _ _ _ _ _ _ ?_ ?_ p_add
          ·refine @sim_call _ _ _ _ _ _ _ _ _ _ _ _ (by rfl) ?_ (keep_type _) fn_str (by decide) ?_
           ·exact @sim_blt _ _ _ _ _ _ _ H.b_str (fun _ => by rfl) (by rfl)
           ·refine sim_cons (hn := by rfl) ?_ ?_
            ·exact @sim_loc _ _ _ _ _ _ _ (by rfl) (fun _ => by rfl) (by rfl)
            ·exact sim_nil
          ·exact @sim_loc _ _ _ _ _ _ _ (by rfl) (fun _ => by rfl) (by rfl)
         ·exact sim_str (e := by kernel_rfl)
        ·exact sim_nil
      ·exact @sim_loc _ _ _ _ _ _ _ (by rfl) (fun _ => by rfl) (by rfl)
     ·refine sim_and1 ?_
      ·refine @sim_cmp _ _ _ _ _ _ _ _ _ _ _ ?_ ?_ p_eq (by rfl)
       ·refine @sim_call _ _ _ _ _ _ _ _ _ _ _ _ (by rfl) ?_ (keep_fn (H.kp 8 rfl)) (fn__law_read H) (by decide) ?_
        ·exact @sim_glob _ _ _ _ _ _ _ (H.gr 8 rfl) (fun _ => by rfl) (by rfl)
        ·refine sim_cons (hn := by rfl) ?_ ?_
         ·refine @sim_bin _ _ _ _ _ _ _ _ _ _ _ ?_ ?_ p_add
          ·refine @sim_call _ _ _ _ _ _ _ _ _ _ _ _ (by rfl) ?_ (keep_type _) fn_str (by decide) ?_
           ·exact @sim_blt _ _ _ _ _ _ _ H.b_str (fun _ => by rfl) (by rfl)
           ·refine sim_cons (hn := by rfl) ?_ ?_
            ·exact @sim_loc _ _ _ _ _ _ _ (by rfl) (fun _ => by rfl) (by rfl)
            ·exact sim_nil
          ·exact sim_str (e := by kernel_rfl)
         ·exact sim_nil
       ·refine @sim_bin _ _ _ _ _ _ _ _ _ _ _ ?_ ?_ p_mul
        ·exact sim_int
        ·exact @sim_loc _ _ _ _ _ _ _ (by rfl) (fun _ => by rfl) (by rfl)
   ·exact simB_nil
theorem fn__law_scaled (H : KF c sa is) : FnV c 11 true (.ref 640) F__law_scaled := @FnIs.fn _ _ _ _ _ _ _ _ _ _ _ _ _ _ H.i__law_scaled (@sim__law_scaled_ _ _ _ H)
theorem sim_law_ (H : KF c sa is) : SimB c 11 true s_law b_law (m_law sa is) := by
 refine simB_cons ?_ ?_
 ·refine @sim_set _ _ _ _ _ _ _ _ _ _ ⟨by rfl, fun _ => by rfl⟩ ?_ (fun _ => by rfl)
  ·refine @sim_call _ _ _ _ _ _ _ _ _ _ _ _ (by rfl) ?_ (keep_fn (H.kp 7 rfl)) (fn__law_pool H) (by decide) ?_
   ·exact @sim_glob _ _ _ _ _ _ _ (H.gr 7 rfl) (fun _ => by rfl) (by rfl)
   ·refine sim_cons (hn := by rfl) ?_ ?_
    ·exact @sim_loc _ _ _ _ _ _ _ (by rfl) (fun _ => by rfl) (by rfl)
    ·exact sim_nil
 ·refine simB_cons ?_ ?_
  ·refine @sim_forR _ _ _ _ _ _ _ _ _ _ _ _ _ _ ?_ ?_ (by rfl) ?_ ?_ (fun _ _ => by rfl)
   ·exact @sim_blt _ _ _ _ _ _ _ H.b_range (fun _ => by rfl) (by rfl)
   ·refine @sim_bin _ _ _ _ _ _ _ _ _ _ _ ?_ ?_ p_add
    ·exact sim_int
    ·refine sim_ifexp ?_ ?_ ?_
     ·refine @simT_cmp _ _ _ _ _ _ _ _ _ _ _ ?_ ?_ p_gt (by rfl)
      ·refine @sim_call _ _ _ _ _ _ _ _ _ _ _ _ (by rfl) ?_ (keep_blt _) (fn_len H.scr) (by decide) ?_
       ·exact @sim_blt _ _ _ _ _ _ _ H.b_len (fun _ => by rfl) (by rfl)
       ·refine sim_cons (hn := by rfl) ?_ ?_
        ·exact @sim_loc _ _ _ _ _ _ _ (by rfl) (fun _ => by rfl) (by rfl)
        ·exact sim_nil
      ·exact sim_int
     ·refine @sim_call _ _ _ _ _ _ _ _ _ _ _ _ (by rfl) ?_ (keep_fn (H.kp 12 rfl)) (fn__law_take H) (by decide) ?_
      ·exact @sim_glob _ _ _ _ _ _ _ (H.gr 12 rfl) (fun _ => by rfl) (by rfl)
      ·refine sim_cons (hn := by rfl) ?_ ?_
       ·exact @sim_loc _ _ _ _ _ _ _ (by rfl) (fun _ => by rfl) (by rfl)
       ·refine sim_cons (hn := by rfl) ?_ ?_
        ·exact sim_int
        ·exact sim_nil
     ·exact sim_int
   ·exact @tgt_name _ _ _ _ _ _ _ ⟨by rfl, fun _ => by rfl⟩
   ·refine simB_cons ?_ ?_
    ·refine @sim_set _ _ _ _ _ _ _ _ _ _ ⟨by rfl, fun _ => by rfl⟩ ?_ (fun _ => by rfl)
     ·refine @sim_call _ _ _ _ _ _ _ _ _ _ _ _ (by rfl) ?_ (keep_fn (H.kp 12 rfl)) (fn__law_take H) (by decide) ?_
      ·exact @sim_glob _ _ _ _ _ _ _ (H.gr 12 rfl) (fun _ => by rfl) (by rfl)
      ·refine sim_cons (hn := by rfl) ?_ ?_
       ·exact @sim_loc _ _ _ _ _ _ _ (by rfl) (fun _ => by rfl) (by rfl)
       ·refine sim_cons (hn := by rfl) ?_ ?_
        ·exact sim_int
        ·exact sim_nil
    ·refine simB_cons ?_ ?_
     ·refine sim_if ?_ ?_ ?_
      ·refine simT_and ?_ ?_
       ·refine @simT_cmp _ _ _ _ _ _ _ _ _ _ _ ?_ ?_ p_eq (by rfl)
        ·exact @sim_loc _ _ _ _ _ _ _ (by rfl) (fun _ => by rfl) (by rfl)
        ·exact sim_int
       ·refine simT_and1 ?_
        ·refine simT_not ?_
         ·refine @simT_plain _ _ _ _ _ _ ?_ (fun _ => by rfl)
          ·refine @sim_call _ _ _ _ _ _ _ _ _ _ _ _ (by rfl) ?_ (keep_fn (H.kp 4 rfl)) (fn__law_multiples H) (by decide) ?_
           ·exact @sim_glob _ _ _ _ _ _ _ (H.gr 4 rfl) (fun _ => by rfl) (by rfl)
           ·refine sim_cons (hn := by rfl) ?_ ?_
            ·exact @sim_loc _ _ _ _ _ _ _ (by rfl) (fun _ => by rfl) (by rfl)
            ·exact sim_nil
      ·refine simB_cons ?_ ?_
       ·refine sim_ret ?_
        ·exact sim_bool
       ·exact simB_nil
      ·exact simB_nil
     ·refine simB_cons ?_ ?_
      ·refine sim_if ?_ ?_ ?_
       ·refine simT_and ?_ ?_
        ·refine @simT_cmp _ _ _ _ _ _ _ _ _ _ _ ?_ ?_ p_eq (by rfl)
         ·exact @sim_loc _ _ _ _ _ _ _ (by rfl) (fun _ => by rfl) (by rfl)
         ·exact sim_int
        ·refine simT_and1 ?_
         ·refine simT_not ?_
          ·refine @simT_plain _ _ _ _ _ _ ?_ (fun _ => by rfl)
           ·refine @sim_call _ _ _ _ _ _ _ _ _ _ _ _ (by rfl) ?_ (keep_fn (H.kp 5 rfl)) (fn__law_order H) (by decide) ?_
            ·exact @sim_glob _ _ _ _ _ _ _ (H.gr 5 rfl) (fun _ => by rfl) (by rfl)
            ·refine sim_cons (hn := by rfl) ?_ ?_
             ·exact @sim_loc _ _ _ _ _ _ _ (by rfl) (fun _ => by rfl) (by rfl)
             ·exact sim_nil
       ·refine simB_cons ?_ ?_
        ·refine sim_ret ?_
         ·exact sim_bool
        ·exact simB_nil
       ·exact simB_nil
      ·refine simB_cons ?_ ?_
       ·refine sim_if ?_ ?_ ?_
        ·refine simT_and ?_ ?_
         ·refine @simT_cmp _ _ _ _ _ _ _ _ _ _ _ ?_ ?_ p_eq (by rfl)
          ·exact @sim_loc _ _ _ _ _ _ _ (by rfl) (fun _ => by rfl) (by rfl)
          ·exact sim_int
         ·refine simT_and1 ?_
          ·refine simT_not ?_
           ·refine @simT_plain _ _ _ _ _ _ ?_ (fun _ => by rfl)
            ·refine @sim_call _ _ _ _ _ _ _ _ _ _ _ _ (by rfl) ?_ (keep_fn (H.kp 11 rfl)) (fn__law_sums H) (by decide) ?_
             ·exact @sim_glob _ _ _ _ _ _ _ (H.gr 11 rfl) (fun _ => by rfl) (by rfl)
             ·refine sim_cons (hn := by rfl) ?_ ?_
              ·exact @sim_loc _ _ _ _ _ _ _ (by rfl) (fun _ => by rfl) (by rfl)
              ·exact sim_nil
        ·refine simB_cons ?_ ?_
         ·refine sim_ret ?_
          ·exact sim_bool
         ·exact simB_nil
        ·exact simB_nil
       ·refine simB_cons ?_ ?_
        ·refine sim_if ?_ ?_ ?_
         ·refine simT_and ?_ ?_
          ·refine @simT_cmp _ _ _ _ _ _ _ _ _ _ _ ?_ ?_ p_eq (by rfl)
           ·exact @sim_loc _ _ _ _ _ _ _ (by rfl) (fun _ => by rfl) (by rfl)
           ·exact sim_int
          ·refine simT_and1 ?_
           ·refine simT_not ?_
            ·refine @simT_plain _ _ _ _ _ _ ?_ (fun _ => by rfl)
             ·refine @sim_call _ _ _ _ _ _ _ _ _ _ _ _ (by rfl) ?_ (keep_fn (H.kp 14 rfl)) (fn__law_ways H) (by decide) ?_
              ·exact @sim_glob _ _ _ _ _ _ _ (H.gr 14 rfl) (fun _ => by rfl) (by rfl)
              ·refine sim_cons (hn := by rfl) ?_ ?_
               ·exact @sim_loc _ _ _ _ _ _ _ (by rfl) (fun _ => by rfl) (by rfl)
               ·exact sim_nil
         ·refine simB_cons ?_ ?_
          ·refine sim_ret ?_
           ·exact sim_bool
          ·exact simB_nil
         ·exact simB_nil
        ·refine simB_cons ?_ ?_
         ·refine sim_if ?_ ?_ ?_
          ·refine simT_and ?_ ?_
           ·refine @simT_cmp _ _ _ _ _ _ _ _ _ _ _ ?_ ?_ p_eq (by rfl)
            ·exact @sim_loc _ _ _ _ _ _ _ (by rfl) (fun _ => by rfl) (by rfl)
            ·exact sim_int
           ·refine simT_and1 ?_
            ·refine simT_not ?_
             ·refine @simT_plain _ _ _ _ _ _ ?_ (fun _ => by rfl)
              ·refine @sim_call _ _ _ _ _ _ _ _ _ _ _ _ (by rfl) ?_ (keep_fn (H.kp 1 rfl)) (fn__law_bounds H) (by decide) ?_
               ·exact @sim_glob _ _ _ _ _ _ _ (H.gr 1 rfl) (fun _ => by rfl) (by rfl)
               ·refine sim_cons (hn := by rfl) ?_ ?_
                ·exact @sim_loc _ _ _ _ _ _ _ (by rfl) (fun _ => by rfl) (by rfl)
                ·exact sim_nil
          ·refine simB_cons ?_ ?_
           ·refine sim_ret ?_
            ·exact sim_bool
           ·exact simB_nil
          ·exact simB_nil
         ·refine simB_cons ?_ ?_
          ·refine sim_if ?_ ?_ ?_
           ·refine simT_and ?_ ?_
            ·refine @simT_cmp _ _ _ _ _ _ _ _ _ _ _ ?_ ?_ p_eq (by rfl)
             ·exact @sim_loc _ _ _ _ _ _ _ (by rfl) (fun _ => by rfl) (by rfl)
             ·exact sim_int
            ·refine simT_and1 ?_
             ·refine simT_not ?_
              ·refine @simT_plain _ _ _ _ _ _ ?_ (fun _ => by rfl)
               ·refine @sim_call _ _ _ _ _ _ _ _ _ _ _ _ (by rfl) ?_ (keep_fn (H.kp 6 rfl)) (fn__law_part H) (by decide) ?_
                ·exact @sim_glob _ _ _ _ _ _ _ (H.gr 6 rfl) (fun _ => by rfl) (by rfl)
                ·refine sim_cons (hn := by rfl) ?_ ?_
                 ·exact @sim_loc _ _ _ _ _ _ _ (by rfl) (fun _ => by rfl) (by rfl)
                 ·exact sim_nil
           ·refine simB_cons ?_ ?_
            ·refine sim_ret ?_
             ·exact sim_bool
            ·exact simB_nil
           ·exact simB_nil
          ·refine simB_cons ?_ ?_
           ·refine sim_if ?_ ?_ ?_
            ·refine simT_and ?_ ?_
             ·refine @simT_cmp _ _ _ _ _ _ _ _ _ _ _ ?_ ?_ p_eq (by rfl)
              ·exact @sim_loc _ _ _ _ _ _ _ (by rfl) (fun _ => by rfl) (by rfl)
              ·exact sim_int
             ·refine simT_and1 ?_
              ·refine simT_not ?_
               ·refine @simT_plain _ _ _ _ _ _ ?_ (fun _ => by rfl)
                ·refine @sim_call _ _ _ _ _ _ _ _ _ _ _ _ (by rfl) ?_ (keep_fn (H.kp 10 rfl)) (fn__law_scaled H) (by decide) ?_
                 ·exact @sim_glob _ _ _ _ _ _ _ (H.gr 10 rfl) (fun _ => by rfl) (by rfl)
                 ·refine sim_cons (hn := by rfl) ?_ ?_
                  ·exact @sim_loc _ _ _ _ _ _ _ (by rfl) (fun _ => by rfl) (by rfl)
                  ·exact sim_nil
            ·refine simB_cons ?_ ?_
             ·refine sim_ret ?_
              ·exact sim_bool
             ·exact simB_nil
            ·exact simB_nil
           ·exact simB_nil
  ·refine simB_cons ?_ ?_
   ·refine sim_ret ?_
    ·exact sim_bool
   ·exact simB_nil
theorem fn_law (H : KF c sa is) : FnV c 12 true (.ref 647) (F_law sa is) := @FnIs.fn _ _ _ _ _ _ _ _ _ _ _ _ _ _ H.i_law (@sim_law_ _ _ _ H)
end

/- S21 -/

noncomputable def fdAt (K : Frag) (fa : Nat) : Option FuncData := match K.lookup fa with
  | some ⟨_, _, .func fd, _⟩ => some fd
  | _ => none
noncomputable def argsOf : Stmt → Arguments
  | .FunctionDef (args := a) .. => a
  | _ => { posonlyargs := [], args := [], vararg := none, kwonlyargs := [], kw_defaults := [], kwarg := none, defaults := [] }
theorem fdAt_some {K : Frag} {fa : Nat} {fd : FuncData} (h : fdAt K fa = some fd) : ∃ oc od osl, K.lookup fa = some ⟨oc, od, .func fd, osl⟩ := by
  unfold fdAt at h
  split at h
  · rename_i e
    cases h
    exact ⟨_, _, _, e⟩
  · cases h
theorem vs_succ {k : Nat} {Vs : List Value} (h : Vs.length = k + 1) : ∃ a t, Vs = a :: t ∧ t.length = k := by
  cases Vs with
  | nil => exact absurd h (Nat.succ_ne_zero k).symm
  | cons a t => exact ⟨a, t, rfl, Nat.succ.inj h⟩
@[elab_as_elim] theorem vs0 {motive : List Value → Prop} {Vs : List Value} (hl : Vs.length = 0) (h : motive []) : motive Vs := by
  rw [List.length_eq_zero_iff.mp hl]; exact h
@[elab_as_elim] theorem vs1 {motive : List Value → Prop} {Vs : List Value} (hl : Vs.length = 1) (h : ∀ a1, motive [a1]) : motive Vs := by
  obtain ⟨a, t, rfl, h1⟩ := vs_succ hl
  exact vs0 (motive := fun t => motive (a :: t)) h1 (h a)
@[elab_as_elim] theorem vs2 {motive : List Value → Prop} {Vs : List Value} (hl : Vs.length = 2) (h : ∀ a1 a2, motive [a1, a2]) : motive Vs := by
  obtain ⟨a, t, rfl, h1⟩ := vs_succ hl
  exact vs1 (motive := fun t => motive (a :: t)) h1 (h a)
@[elab_as_elim] theorem vs3 {motive : List Value → Prop} {Vs : List Value} (hl : Vs.length = 3) (h : ∀ a1 a2 a3, motive [a1, a2, a3]) : motive Vs := by
  obtain ⟨a, t, rfl, h1⟩ := vs_succ hl
  exact vs2 (motive := fun t => motive (a :: t)) h1 (h a)
@[elab_as_elim] theorem vs4 {motive : List Value → Prop} {Vs : List Value} (hl : Vs.length = 4) (h : ∀ a1 a2 a3 a4, motive [a1, a2, a3, a4]) : motive Vs := by
  obtain ⟨a, t, rfl, h1⟩ := vs_succ hl
  exact vs3 (motive := fun t => motive (a :: t)) h1 (h a)
@[elab_as_elim] theorem vs5 {motive : List Value → Prop} {Vs : List Value} (hl : Vs.length = 5) (h : ∀ a1 a2 a3 a4 a5, motive [a1, a2, a3, a4, a5]) : motive Vs := by
  obtain ⟨a, t, rfl, h1⟩ := vs_succ hl
  exact vs4 (motive := fun t => motive (a :: t)) h1 (h a)
@[elab_as_elim] theorem vs6 {motive : List Value → Prop} {Vs : List Value} (hl : Vs.length = 6) (h : ∀ a1 a2 a3 a4 a5 a6, motive [a1, a2, a3, a4, a5, a6]) : motive Vs := by
  obtain ⟨a, t, rfl, h1⟩ := vs_succ hl
  exact vs5 (motive := fun t => motive (a :: t)) h1 (h a)
/-- what is asked of a def's scope: one check -/
noncomputable def fnOk (ps : List Str) (k e r : Nat) (sc : Scope) : Bool := decide (sc.kind = .function) && !sc.isCoroutine && !sc.isGenerator && decide (sc.names.map (·.1)).Nodup && decide (ps.length = k + e) && decide (sc.names.take ps.length = ps.map fun x => (x, NameKind.local)) && decide (∀ x ∈ sc.names, x.2 ≠ NameKind.cell) && decide (sc.names.length = ps.length + r)
theorem FnIs.of {c : Cx} {fa k : Nat} {qual : Str} {cdv : Value} {ps : List Str} {r : Nat} {ext : List AV} {extV : List Value} {body : List Stmt} {sc : Scope} (name : Str) (params : Arguments) (dV kV pm : Value)
    (h : fdAt c.K fa = some (fnOf name qual params body sc dV kV .none pm none cdv .none))
    (hb : ∀ (s : Shared), c.K.In s.heap → ∀ Vs : List Value, Vs.length = k → BindsTo s (fnOf name qual params body sc dV kV .none pm none cdv .none) ⟨Vs, []⟩ (ps.zip (Vs ++ extV)))
    (code : codeIn c.K cdv qual = true) (ok : fnOk ps k ext.length r sc = true) (ext' : ∀ W, RVs c W ext extV) : FnIs c fa k qual cdv ps r ext extV body sc := by
  simp only [fnOk, Bool.and_eq_true, decide_eq_true_eq, Bool.not_eq_true'] at ok
  obtain ⟨⟨⟨⟨⟨⟨⟨kind, co⟩, gen⟩, nodup⟩, len⟩, pars⟩, cell⟩, total⟩ := ok
  obtain ⟨oc, od, osl, e⟩ := fdAt_some h
  refine ⟨⟨oc, od, osl, name, params, dV, kV, .none, pm, none, .none, e, hb⟩, code, kind, co, gen, nodup, len, fun i x e => ?_, cell, total, ext'⟩
  have hi := (List.getElem?_eq_some_iff.mp e).1
  rw [← List.getElem?_take_of_lt hi, pars, List.getElem?_map, e]
  rfl
theorem vs_map {Vs : List Value} {k : Nat} (hl : Vs.length = k) : Vs = (List.range k).map (fun i => Vs.getD i .none) := by
  subst hl
  apply List.ext_getElem?
  intro i
  rw [List.getElem?_map]
  by_cases h : i < Vs.length
  · rw [List.getElem?_range h, List.getElem?_eq_getElem h]
    simp [h]
  · rw [List.getElem?_eq_none (by lia), List.getElem?_eq_none (by simpa using h)]
    rfl
theorem FnIs.of' {c : Cx} {fa k : Nat} {qual : Str} {cdv : Value} {ps : List Str} {r : Nat} {body : List Stmt} {sc : Scope} (name : Str) (params : Arguments) (dV kV pm : Value)
    (h : fdAt c.K fa = some (fnOf name qual params body sc dV kV .none pm none cdv .none))
    (hb : ∀ v : Nat → Value, bindArgs (fnOf name qual params body sc dV kV .none pm none cdv .none) ⟨(List.range k).map v, []⟩ = pure (ps.zip ((List.range k).map v)))
    (code : codeIn c.K cdv qual = true) (ok : fnOk ps k 0 r sc = true) : FnIs c fa k qual cdv ps r [] [] body sc :=
  FnIs.of name params dV kV pm h (fun s X Vs hl => by
    rw [List.append_nil, vs_map hl]
    exact BindsTo.of_eq (hb _)) code ok fun _ => .nil
theorem FnIsC.of {c : Cx} {fa : Nat} {qual : Str} {cdv : Value} {p y : Str} {r : Nat} {body : List Stmt} {sc : Scope} (name : Str) (params : Arguments) (dV kV pm : Value)
    (h : fdAt c.K fa = some (fnOf name qual params body sc dV kV .none pm none cdv .none)) (hb : ∀ (s : Shared) (V : Value), BindsTo s (fnOf name qual params body sc dV kV .none pm none cdv .none) ⟨[V], []⟩ [(p, V)])
    (code : codeIn c.K cdv qual = true) (kind : sc.kind = .function) (co : sc.isCoroutine = false) (gen : sc.isGenerator = false) (nodup : (sc.names.map (·.1)).Nodup) (par : sc.names[0]? = some (p, NameKind.local)) (cell : sc.names[1]? = some (y, NameKind.cell))
    (cells : ∀ n, cellsFrom n sc.names [] = [(y, n)]) (kp : ∀ (name : Str) (L a : Addr) (cd : Value), (envOfC name sc L a cd).kindOf p = some .local) : FnIsC c fa qual cdv p y r body sc where
  ho := let ⟨oc, od, osl, e⟩ := fdAt_some h; ⟨oc, od, osl, name, params, dV, kV, .none, pm, none, .none, e, hb⟩
  code := code
  kind := kind
  co := co
  gen := gen
  nodup := nodup
  par := par
  cell := cell
  cells := cells
  kp := kp
theorem BindsTo.ofK {K : Frag} {s : Shared} {fd : FuncData} {args : Args} {binds : List (Str × Value)} {T : Addr} {items : Array Value} {n : Nat} {k : Option (Array Value) → Sem (List (Str × Value))} (X : K.In s.heap) (hd : fd.defaults = .ref T) (ho : ∃ cls dd sl, K.lookup T = some ⟨cls, dd, .seq items n, sl⟩)
    (h₁ : bindArgs fd args = seqItems? fd.defaults >>= k) (h₂ : k (some items) = pure binds) : BindsTo s fd args binds := by
  obtain ⟨cls, dd, sl, ho⟩ := ho
  exact binds_K X hd ho rfl h₁ h₂

/- G3 -/

/-- the heap constant of the head, and the script's list -/
noncomputable def KK (H : Params → Frag) (P : Params) (sa : Nat) (ob : Obj) : Frag := H P ++ [(sa, ob)]
theorem getD_some {α : Type} {d : α} : ∀ {o : Option α}, o.isSome = true → o = some (o.getD d)
  | some _, _ => rfl
  | none, h => nomatch h
theorem kk_lookup {H : Params → Frag} {P : Params} {sa : Nat} {ob : Obj} {h : Heap} (KX : (H P).In h) (hl : h.get? sa = some ob) : (KK H P sa ob).In h ∧ (KK H P sa ob).lookup sa = some ob := by
  unfold KK
  constructor
  · intro a o e
    rw [List.lookup_append] at e
    cases q : (H P).lookup a with
    | some o' =>
      rw [q] at e
      cases e
      exact KX _ _ q
    | none =>
      rw [q] at e
      by_cases z : a = sa
      · subst z
        simp at e
        rw [hl, e]
      · simp [List.lookup, show (a == sa) = false from by simpa using z] at e
  · rw [List.lookup_append]
    cases q : (H P).lookup sa with
    | some o' => rw [← hl, KX _ _ q]; rfl
    | none => simp
theorem ints_rvs {c : Cx} {W : Wd} : ∀ {vs : List Value} {is : List Int}, IntsAre vs is → RVs c W (scriptAV is) vs
  | _, _, .nil => .nil
  | _, _, .cons n t h => .cons (.int n t) (ints_rvs h)
theorem intsAre_len : ∀ {vs : List Value} {is : List Int}, IntsAre vs is → vs.length = is.length
  | _, _, .nil => rfl
  | _, _, .cons n t h => congrArg (· + 1) (intsAre_len h)
/-- what the walk needs of the heap constant: proved behind the head, in one -/
noncomputable def KFor (H : Params → Frag) : Prop := ∀ (c : Cx) (P : Params) (sa : Nat) (ob : Obj) (is : List Int) (vs : List Value) (n : Nat), c.K = KK H P sa ob → (KK H P sa ob).lookup sa = some ob → ob.cls = .type "list" → ob.data = .seq vs.toArray n → IntsAre vs is → is.length ≤ 1000 → KF c sa is

/- G4 -/
noncomputable def LawPure : Prop := ∀ (sa : Nat) (is : List Int), is.length ≤ 63 → ∃ ρ' σ', m_law sa is [some (.lit (.ref sa)), none, none, none] [] = .ok (.ret (.bool true), ρ') σ'
theorem law_fin {H : Params → Frag} (kf : KFor H) (HP : LawPure) {prog : Program} {w : World} {s₁ : Shared} {p : Program} {loose : List Str} {mean : ExcName → Option Value} {mg mb : Str → Option Value} {h₁ : Heap} {l fa : Addr} {cdv : Value} {vs : List Value} {is : List Int} {t : Nat}
    (KX : (H w.params).In s₁.heap) (T : Top p loose mean mg mb s₁.heap) (K0 : Below callerA s₁.heap [] s₁.heap) (hL : s₁.heap.IsList l vs.toArray) (hI : IntsAre vs is) (hlen : ¬ ((63 : Nat) : Int) < (is.length : Int))
    (F : Fr s₁.heap s₁.heap.objs.size h₁ (fun x => List.lookup x [(("script" : Str), Value.ref l)].reverse)) (N : News s₁.heap s₁.heap.objs.size h₁ [])
    {Q : Flow → Shared → Prop} {E : Value → Shared → Prop} (hE : PassesOwn (model prog w) (callerA.deeper (envOf "law" s_law s₁.heap.objs.size fa cdv)) (envOf "law" s_law s₁.heap.objs.size fa cdv) E)
    (hq : ∀ s' : Shared, (∀ b o, s₁.heap.get? b = some o → s'.heap.get? b = some o) → s'.os = s₁.os → s'.gens = s₁.gens → Q (.ret (.bool true)) s') :
    wpAny (model prog w) (callerA.deeper (envOf "law" s_law s₁.heap.objs.size fa cdv)) (execs b_law (envOf "law" s_law s₁.heap.objs.size fa cdv)) Q E { s₁ with heap := h₁, toks := t } := by
  obtain ⟨ob, hob, hcl, n, hda⟩ := hL
  obtain ⟨KI, KL⟩ := kk_lookup KX hob
  let c : Cx := ⟨prog, w, KK H w.params l ob, p, loose, mean, mg, mb, s₁.heap, s₁.gens, s₁.drawn, s₁.os⟩
  have hc : c.Ok := ⟨KI, T⟩
  have HK : KF c l is := kf c w.params l ob is vs n rfl KL hcl hda hI (by lia)
  obtain ⟨ρ', σ', hrun⟩ := HP l is (by lia)
  let f : Fm := ⟨callerA, [], "law", s₁.heap.objs.size, fa, cdv, []⟩
  have hf : FOk 11 s_law f := by
    refine ⟨by kernel_rfl, by decide +kernel, ?_, ?_, rfl, rfl, fun _ => rfl⟩
    · show 1 + claimMargin + 1 + 11 < recursionLimit
      decide +kernel
    · show 4 + 3 + 8 * 11 + 80 < cLine
      decide +kernel
  have hs : St c f true s₁.heap s_law.names [some (.lit (.ref l)), none, none, none] [] ⟨[], []⟩ { s₁ with heap := h₁, toks := t } := by
    refine ⟨s₁.heap, _, K0, F, N, ktsDicts_nil, .refl, fun _ => rfl, ?_, ⟨rfl, .nil, fun i o e => (nomatch e)⟩, rfl, rfl, rfl⟩
    intro i x k v e q
    match i with
    | 0 =>
      cases q
      have : s_law.names[0]? = some (("script" : Str), NameKind.local) := by kernel_rfl
      rw [this] at e
      cases e
      exact ⟨.ref l, fun _ => rfl, (fun q => nomatch q), .lit _⟩
    | 1 => cases q
    | 2 => cases q
    | 3 => cases q
    | i + 4 => cases q
  refine sim_law_ HK f s₁.heap _ _ _ _ hc hf hs (by rw [hrun]; trivial) Q E hE (fun fl ρ₁ σ₁ Fl W' s' e le G r => ?_) fun C σ₁ e W' s' e' le F' => by rw [hrun] at e'; cases e'
  rw [hrun] at e
  cases e
  cases r with
  | ret rv =>
    cases rv
    obtain ⟨g, m, G⟩ := G
    refine hq s' (fun b o e => G.F.keep _ _ (G.T.other b o e (by simp [Fm.fs, f]))) G.e3 G.e1

/- Q0 -/
noncomputable def retK : Fl × Loc → Store → Res AV := fun x σ => match x with
  | (.ret v, _) => .ok v σ
  | (.next, _) => .ok .none σ
noncomputable def seqK (b : MS) : Fl × Loc → Store → Res (Fl × Loc) := fun x σ => match x with
  | (.next, ρ) => b ρ σ
  | (.ret v, ρ) => .ok (.ret v, ρ) σ
noncomputable def rtK (ρ : Loc) : AV → Store → Res (Fl × Loc) := fun v σ => .ok (.ret v, ρ) σ
noncomputable def ifK {α : Type} (a b : Loc → Store → Res α) (ρ : Loc) : Bool → Store → Res α := fun t σ => match t with | true => a ρ σ | false => b ρ σ
noncomputable def trK : AV → Store → Res Bool := fun v σ => match v with
  | .bool b => .ok b σ
  | _ => .stuck
noncomputable def andK (b : ME) (ρ : Loc) : AV → Store → Res AV := fun v σ => match v with
  | .bool true => b ρ σ
  | .bool false => .ok (.bool false) σ
  | _ => .stuck
noncomputable def orK (b : ME) (ρ : Loc) : AV → Store → Res AV := fun v σ => match v with
  | .bool true => .ok (.bool true) σ
  | .bool false => b ρ σ
  | _ => .stuck
noncomputable def notK : AV → Store → Res AV := fun v σ => match v with
  | .bool b => .ok (.bool (!b)) σ
  | _ => .stuck
noncomputable def consK (x : AV) : List AV → Store → Res (List AV) := fun l σ => .ok (x :: l) σ
noncomputable def argK (r : List ME) (ρ : Loc) : AV → Store → Res (List AV) := fun x σ => (mArgs r ρ σ).bind (consK x)
noncomputable def locR (o : Option (Option AV)) (σ : Store) : Res AV := match o with
  | some (some v) => .ok v σ
  | _ => .stuck
noncomputable def ch4 (o2 : Store → AV → AV → Option AV) (y : AV) : AV → Store → Res AV := fun z σ => .ofO (o2 σ y z) σ
noncomputable def ch3 (o2 : Store → AV → AV → Option AV) (d : ME) (ρ : Loc) (y : AV) (o : Option AV) (σ : Store) : Res AV := match o with
  | some (.bool true) => (d ρ σ).bind (ch4 o2 y)
  | some (.bool false) => .ok (.bool false) σ
  | _ => .stuck
noncomputable def ch2 (o1 o2 : Store → AV → AV → Option AV) (d : ME) (ρ : Loc) (x : AV) : AV → Store → Res AV := fun y σ => ch3 o2 d ρ y (o1 σ x y) σ
noncomputable def ch1 (o1 o2 : Store → AV → AV → Option AV) (b d : ME) (ρ : Loc) : AV → Store → Res AV := fun x σ => (b ρ σ).bind (ch2 o1 o2 d ρ x)
noncomputable def o1K (op : Store → AV → Option AV) : AV → Store → Res AV := fun x σ => .ofO (op σ x) σ
noncomputable def o2L (op : Store → AV → AV → Option AV) (x : AV) : AV → Store → Res AV := fun y σ => .ofO (op σ x y) σ
noncomputable def o2K (op : Store → AV → AV → Option AV) (b : ME) (ρ : Loc) : AV → Store → Res AV := fun x σ => (b ρ σ).bind (o2L op x)
noncomputable def tupK : List AV → Store → Res AV := fun l σ => if l.length ≤ 1000 then .ok (.tup l) σ else .stuck
noncomputable def listK : List AV → Store → Res AV := fun l σ => if l.length ≤ 1000 then .ok (.ref σ.length) (σ ++ [.list l]) else .stuck
noncomputable def setK (i : Nat) (ρ : Loc) : AV → Store → Res (Fl × Loc) := fun v σ => .ok (.next, ρ.set i (some v)) σ
noncomputable def stK (is : List Nat) (ρ : Loc) : AV → Store → Res (Fl × Loc) := fun v σ => match v with
  | .tup l => if l.length = is.length then .ok (.next, setAll is l ρ) σ else .stuck
  | _ => .stuck
noncomputable def suK (is : List Nat) (ρ : Loc) : AV → Store → Res (Fl × Loc) := fun v σ => match v with
  | .tup l => if l.length = is.length then .ok (.next, setAll is l.reverse ρ) σ else .stuck
  | _ => .stuck
noncomputable def exK (ρ : Loc) : AV → Store → Res (Fl × Loc) := fun v σ => match v with
  | .none => .ok (.next, ρ) σ
  | _ => .stuck
noncomputable def popK : AV → Store → Res AV := fun x σ => match x with
  | .ref i => (match σ[i]? with
    | some (.list l) => (match l.getLast? with
      | some v => if l.length ≤ 100000 then .ok v (σ.set i (.list l.dropLast)) else .stuck
      | none => .stuck)
    | _ => .stuck)
  | _ => .stuck
noncomputable def pfL (C : Nat) (name : Str) (ρ : Loc) (v : AV) : AV → Store → Res (Fl × Loc) := fun x σ => match x with
  | .ref i => (match σ[i]? with
    | some (.inst C' d) => if C' = C then (match σ[d]? with
      | some (.ns fs) => if fs.length ≤ 100 then .ok (.next, ρ) (σ.set d (.ns (putF name v fs))) else .stuck
      | _ => .stuck) else .stuck
    | _ => .stuck)
  | _ => .stuck
noncomputable def pfK (C : Nat) (name : Str) (mo : ME) (ρ : Loc) : AV → Store → Res (Fl × Loc) := fun v σ => (mo ρ σ).bind (pfL C name ρ v)
noncomputable def meL (F : List AV → Store → Res AV) (x : AV) : List AV → Store → Res AV := fun l σ => F (x :: l) σ
noncomputable def meK (C : Nat) (name : Str) (F : List AV → Store → Res AV) (ms : List ME) (ρ : Loc) : AV → Store → Res AV := fun x σ => if isInst C name σ x then (mArgs ms ρ σ).bind (meL F x) else .stuck
section
variable {α β : Type} {ρ : Loc} {σ : Store} {v x y z : AV} {a b d m t : ME} {s s' : MS} {ms : List ME}
@[simp] theorem bO {e : α} {k : α → Store → Res β} : Res.bind (.ok e σ) k = k e σ := rfl
@[simp] theorem bE {C : Nat} {k : α → Store → Res β} : Res.bind (.exc C σ) k = .exc C σ := rfl
@[simp] theorem oO {e : α} : Res.ofO (some e) σ = .ok e σ := rfl
theorem uFn {k r : Nat} {ext as : List AV} : mFn k ext r s as σ = if as.length = k then (s ((as ++ ext).map some ++ List.replicate r none) σ).bind retK else .stuck := rfl
@[simp] theorem uR : retK (.ret v, ρ) σ = .ok v σ := rfl
@[simp] theorem uN : retK (.next, ρ) σ = .ok .none σ := rfl
@[simp] theorem uSeq : mSeq s s' ρ σ = (s ρ σ).bind (seqK s') := rfl
@[simp] theorem uSN : seqK s (.next, ρ) σ = s ρ σ := rfl
@[simp] theorem uSR : seqK s (.ret v, ρ) σ = .ok (.ret v, ρ) σ := rfl
@[simp] theorem uRet : mRet m ρ σ = (m ρ σ).bind (rtK ρ) := rfl
@[simp] theorem uRt : rtK ρ v σ = .ok (.ret v, ρ) σ := rfl
@[simp] theorem uNil : mNil ρ σ = .ok (.next, ρ) σ := rfl
@[simp] theorem uIfS : mIfS t s s' ρ σ = (mTr t ρ σ).bind (ifK s s' ρ) := rfl
@[simp] theorem uIf : mIf t a b ρ σ = (mTr t ρ σ).bind (ifK a b ρ) := rfl
@[simp] theorem uIT {f g : Loc → Store → Res α} : ifK f g ρ true σ = f ρ σ := rfl
@[simp] theorem uIF {f g : Loc → Store → Res α} : ifK f g ρ false σ = g ρ σ := rfl
@[simp] theorem uTr : mTr m ρ σ = (m ρ σ).bind trK := rfl
@[simp] theorem uTb {e : Bool} : trK (.bool e) σ = .ok e σ := rfl
@[simp] theorem uAnd : mAnd a b ρ σ = (a ρ σ).bind (andK b ρ) := rfl
@[simp] theorem uAT : andK b ρ (.bool true) σ = b ρ σ := rfl
@[simp] theorem uAF : andK b ρ (.bool false) σ = .ok (.bool false) σ := rfl
@[simp] theorem uOr : mOr a b ρ σ = (a ρ σ).bind (orK b ρ) := rfl
@[simp] theorem uOT : orK b ρ (.bool true) σ = .ok (.bool true) σ := rfl
@[simp] theorem uOF : orK b ρ (.bool false) σ = b ρ σ := rfl
@[simp] theorem uNot : mNot a ρ σ = (a ρ σ).bind notK := rfl
@[simp] theorem uNb {e : Bool} : notK (.bool e) σ = .ok (.bool (!e)) σ := rfl
@[simp] theorem uCall {F : List AV → Store → Res AV} : mCall F ms ρ σ = (mArgs ms ρ σ).bind F := rfl
@[simp] theorem uA0 : mArgs [] ρ σ = .ok [] σ := rfl
@[simp] theorem uA1 : mArgs (a :: ms) ρ σ = (a ρ σ).bind (argK ms ρ) := rfl
@[simp] theorem uAK : argK ms ρ x σ = (mArgs ms ρ σ).bind (consK x) := rfl
@[simp] theorem uCK {l : List AV} : consK x l σ = .ok (x :: l) σ := rfl
theorem uLoc {i : Nat} : mLoc i ρ σ = locR ρ[i]? σ := rfl
theorem uLR : locR (some (some v)) σ = .ok v σ := rfl
@[simp] theorem uVal : mVal v ρ σ = .ok v σ := rfl
@[simp] theorem uCh {p q : Store → AV → AV → Option AV} : mChain p q a b d ρ σ = (a ρ σ).bind (ch1 p q b d ρ) := rfl
@[simp] theorem uC1 {p q : Store → AV → AV → Option AV} : ch1 p q b d ρ x σ = (b ρ σ).bind (ch2 p q d ρ x) := rfl
@[simp] theorem uC2 {p q : Store → AV → AV → Option AV} : ch2 p q d ρ x y σ = ch3 q d ρ y (p σ x y) σ := rfl
@[simp] theorem uC3 {q : Store → AV → AV → Option AV} : ch3 q d ρ y (some (.bool true)) σ = (d ρ σ).bind (ch4 q y) := rfl
@[simp] theorem uCF {q : Store → AV → AV → Option AV} : ch3 q d ρ y (some (.bool false)) σ = .ok (.bool false) σ := rfl
@[simp] theorem uC4 {q : Store → AV → AV → Option AV} : ch4 q y z σ = .ofO (q σ y z) σ := rfl
@[simp] theorem uO1 {p : Store → AV → Option AV} : mOp1 p a ρ σ = (a ρ σ).bind (o1K p) := rfl
@[simp] theorem uK1 {p : Store → AV → Option AV} : o1K p x σ = .ofO (p σ x) σ := rfl
@[simp] theorem uO2 {p : Store → AV → AV → Option AV} : mOp2 p a b ρ σ = (a ρ σ).bind (o2K p b ρ) := rfl
@[simp] theorem uK2 {p : Store → AV → AV → Option AV} : o2K p b ρ x σ = (b ρ σ).bind (o2L p x) := rfl
@[simp] theorem uL2 {p : Store → AV → AV → Option AV} : o2L p x y σ = .ofO (p σ x y) σ := rfl
@[simp] theorem uTup : mTup ms ρ σ = (mArgs ms ρ σ).bind tupK := rfl
theorem uTK {l : List AV} : tupK l σ = if l.length ≤ 1000 then .ok (.tup l) σ else .stuck := rfl
@[simp] theorem uLst : mList ms ρ σ = (mArgs ms ρ σ).bind listK := rfl
theorem uLK {l : List AV} : listK l σ = if l.length ≤ 1000 then .ok (.ref σ.length) (σ ++ [.list l]) else .stuck := rfl
@[simp] theorem uSet {i : Nat} : mSet i m ρ σ = (m ρ σ).bind (setK i ρ) := rfl
@[simp] theorem uSK {i : Nat} : setK i ρ v σ = .ok (.next, ρ.set i (some v)) σ := rfl
@[simp] theorem uST {is : List Nat} : mSetTup is m ρ σ = (m ρ σ).bind (stK is ρ) := rfl
theorem uSTK {is : List Nat} {l : List AV} : stK is ρ (.tup l) σ = if l.length = is.length then .ok (.next, setAll is l ρ) σ else .stuck := rfl
@[simp] theorem uSU {is : List Nat} : mSetTupR is m ρ σ = (m ρ σ).bind (suK is ρ) := rfl
theorem uSUK {is : List Nat} {l : List AV} : suK is ρ (.tup l) σ = if l.length = is.length then .ok (.next, setAll is l.reverse ρ) σ else .stuck := rfl
@[simp] theorem uEx : mExpr m ρ σ = (m ρ σ).bind (exK ρ) := rfl
@[simp] theorem uEK : exK ρ .none σ = .ok (.next, ρ) σ := rfl
@[simp] theorem uRai {C : Nat} : mRaise C ρ σ = .exc C σ := rfl
@[simp] theorem uAtt {C : Nat} {name : Str} : mAttr C name a ρ σ = (a ρ σ).bind (o1K (getF C name)) := rfl
@[simp] theorem uPop : mPop a ρ σ = (a ρ σ).bind popK := rfl
@[simp] theorem uPF {C : Nat} {name : Str} : mPutF C name m a ρ σ = (m ρ σ).bind (pfK C name a ρ) := rfl
@[simp] theorem uPK {C : Nat} {name : Str} : pfK C name a ρ v σ = (a ρ σ).bind (pfL C name ρ v) := rfl
@[simp] theorem uMe {C : Nat} {name : Str} {F : List AV → Store → Res AV} : mMeth C name F a ms ρ σ = (a ρ σ).bind (meK C name F ms ρ) := rfl
theorem uMK {C : Nat} {name : Str} {F : List AV → Store → Res AV} : meK C name F ms ρ x σ = if isInst C name σ x then (mArgs ms ρ σ).bind (meL F x) else .stuck := rfl
@[simp] theorem uML {F : List AV → Store → Res AV} {l : List AV} : meL F x l σ = F (x :: l) σ := rfl
@[simp] theorem l0 {l : Loc} : mLoc 0 (some v :: l) σ = .ok v σ := rfl
@[simp] theorem l1 {q0 : Option AV} {l : Loc} : mLoc 1 (q0 :: some v :: l) σ = .ok v σ := rfl
@[simp] theorem l2 {q0 q1 : Option AV} {l : Loc} : mLoc 2 (q0 :: q1 :: some v :: l) σ = .ok v σ := rfl
@[simp] theorem l3 {q0 q1 q2 : Option AV} {l : Loc} : mLoc 3 (q0 :: q1 :: q2 :: some v :: l) σ = .ok v σ := rfl
@[simp] theorem l4 {q0 q1 q2 q3 : Option AV} {l : Loc} : mLoc 4 (q0 :: q1 :: q2 :: q3 :: some v :: l) σ = .ok v σ := rfl
@[simp] theorem l5 {q0 q1 q2 q3 q4 : Option AV} {l : Loc} : mLoc 5 (q0 :: q1 :: q2 :: q3 :: q4 :: some v :: l) σ = .ok v σ := rfl
@[simp] theorem l6 {q0 q1 q2 q3 q4 q5 : Option AV} {l : Loc} : mLoc 6 (q0 :: q1 :: q2 :: q3 :: q4 :: q5 :: some v :: l) σ = .ok v σ := rfl
@[simp] theorem l7 {q0 q1 q2 q3 q4 q5 q6 : Option AV} {l : Loc} : mLoc 7 (q0 :: q1 :: q2 :: q3 :: q4 :: q5 :: q6 :: some v :: l) σ = .ok v σ := rfl
@[simp] theorem l8 {q0 q1 q2 q3 q4 q5 q6 q7 : Option AV} {l : Loc} : mLoc 8 (q0 :: q1 :: q2 :: q3 :: q4 :: q5 :: q6 :: q7 :: some v :: l) σ = .ok v σ := rfl
@[simp] theorem l9 {q0 q1 q2 q3 q4 q5 q6 q7 q8 : Option AV} {l : Loc} : mLoc 9 (q0 :: q1 :: q2 :: q3 :: q4 :: q5 :: q6 :: q7 :: q8 :: some v :: l) σ = .ok v σ := rfl
@[simp] theorem l10 {q0 q1 q2 q3 q4 q5 q6 q7 q8 q9 : Option AV} {l : Loc} : mLoc 10 (q0 :: q1 :: q2 :: q3 :: q4 :: q5 :: q6 :: q7 :: q8 :: q9 :: some v :: l) σ = .ok v σ := rfl
@[simp] theorem l11 {q0 q1 q2 q3 q4 q5 q6 q7 q8 q9 q10 : Option AV} {l : Loc} : mLoc 11 (q0 :: q1 :: q2 :: q3 :: q4 :: q5 :: q6 :: q7 :: q8 :: q9 :: q10 :: some v :: l) σ = .ok v σ := rfl
@[simp] theorem l12 {q0 q1 q2 q3 q4 q5 q6 q7 q8 q9 q10 q11 : Option AV} {l : Loc} : mLoc 12 (q0 :: q1 :: q2 :: q3 :: q4 :: q5 :: q6 :: q7 :: q8 :: q9 :: q10 :: q11 :: some v :: l) σ = .ok v σ := rfl
@[simp] theorem f0 {r : Nat} {ext : List AV} : mFn 0 ext r s [] σ = (s (([] ++ ext).map some ++ List.replicate r none) σ).bind retK := rfl
@[simp] theorem f1 {a1 : AV} {r : Nat} {ext : List AV} : mFn 1 ext r s [a1] σ = (s (([a1] ++ ext).map some ++ List.replicate r none) σ).bind retK := rfl
@[simp] theorem f2 {a1 a2 : AV} {r : Nat} {ext : List AV} : mFn 2 ext r s [a1, a2] σ = (s (([a1, a2] ++ ext).map some ++ List.replicate r none) σ).bind retK := rfl
@[simp] theorem f3 {a1 a2 a3 : AV} {r : Nat} {ext : List AV} : mFn 3 ext r s [a1, a2, a3] σ = (s (([a1, a2, a3] ++ ext).map some ++ List.replicate r none) σ).bind retK := rfl
@[simp] theorem f4 {a1 a2 a3 a4 : AV} {r : Nat} {ext : List AV} : mFn 4 ext r s [a1, a2, a3, a4] σ = (s (([a1, a2, a3, a4] ++ ext).map some ++ List.replicate r none) σ).bind retK := rfl
@[simp] theorem f5 {a1 a2 a3 a4 a5 : AV} {r : Nat} {ext : List AV} : mFn 5 ext r s [a1, a2, a3, a4, a5] σ = (s (([a1, a2, a3, a4, a5] ++ ext).map some ++ List.replicate r none) σ).bind retK := rfl
@[simp] theorem f6 {a1 a2 a3 a4 a5 a6 : AV} {r : Nat} {ext : List AV} : mFn 6 ext r s [a1, a2, a3, a4, a5, a6] σ = (s (([a1, a2, a3, a4, a5, a6] ++ ext).map some ++ List.replicate r none) σ).bind retK := rfl
@[simp] theorem t1 {a1 : AV} : tupK [a1] σ = .ok (.tup [a1]) σ := rfl
@[simp] theorem t2 {a1 a2 : AV} : tupK [a1, a2] σ = .ok (.tup [a1, a2]) σ := rfl
@[simp] theorem t3 {a1 a2 a3 : AV} : tupK [a1, a2, a3] σ = .ok (.tup [a1, a2, a3]) σ := rfl
@[simp] theorem t4 {a1 a2 a3 a4 : AV} : tupK [a1, a2, a3, a4] σ = .ok (.tup [a1, a2, a3, a4]) σ := rfl
@[simp] theorem t5 {a1 a2 a3 a4 a5 : AV} : tupK [a1, a2, a3, a4, a5] σ = .ok (.tup [a1, a2, a3, a4, a5]) σ := rfl
@[simp] theorem g0 : listK [] σ = .ok (.ref σ.length) (σ ++ [.list []]) := rfl
@[simp] theorem g1 {a1 : AV} : listK [a1] σ = .ok (.ref σ.length) (σ ++ [.list [a1]]) := rfl
@[simp] theorem g2 {a1 a2 : AV} : listK [a1, a2] σ = .ok (.ref σ.length) (σ ++ [.list [a1, a2]]) := rfl
@[simp] theorem g3 {a1 a2 a3 : AV} : listK [a1, a2, a3] σ = .ok (.ref σ.length) (σ ++ [.list [a1, a2, a3]]) := rfl
@[simp] theorem g4 {a1 a2 a3 a4 : AV} : listK [a1, a2, a3, a4] σ = .ok (.ref σ.length) (σ ++ [.list [a1, a2, a3, a4]]) := rfl
@[simp] theorem g5 {a1 a2 a3 a4 a5 : AV} : listK [a1, a2, a3, a4, a5] σ = .ok (.ref σ.length) (σ ++ [.list [a1, a2, a3, a4, a5]]) := rfl
@[simp] theorem g6 {a1 a2 a3 a4 a5 a6 : AV} : listK [a1, a2, a3, a4, a5, a6] σ = .ok (.ref σ.length) (σ ++ [.list [a1, a2, a3, a4, a5, a6]]) := rfl
@[simp] theorem g8 {a1 a2 a3 a4 a5 a6 a7 a8 : AV} : listK [a1, a2, a3, a4, a5, a6, a7, a8] σ = .ok (.ref σ.length) (σ ++ [.list [a1, a2, a3, a4, a5, a6, a7, a8]]) := rfl
@[simp] theorem st2 {a1 a2 : AV} {n1 n2 : Nat} : stK [n1, n2] ρ (.tup [a1, a2]) σ = .ok (.next, setAll [n1, n2] [a1, a2] ρ) σ := rfl
@[simp] theorem su2 {a1 a2 : AV} {n1 n2 : Nat} : suK [n1, n2] ρ (.tup [a1, a2]) σ = .ok (.next, setAll [n1, n2] ([a1, a2] : List AV).reverse ρ) σ := rfl
@[simp] theorem st3 {a1 a2 a3 : AV} {n1 n2 n3 : Nat} : stK [n1, n2, n3] ρ (.tup [a1, a2, a3]) σ = .ok (.next, setAll [n1, n2, n3] [a1, a2, a3] ρ) σ := rfl
@[simp] theorem su3 {a1 a2 a3 : AV} {n1 n2 n3 : Nat} : suK [n1, n2, n3] ρ (.tup [a1, a2, a3]) σ = .ok (.next, setAll [n1, n2, n3] ([a1, a2, a3] : List AV).reverse ρ) σ := rfl
@[simp] theorem st5 {a1 a2 a3 a4 a5 : AV} {n1 n2 n3 n4 n5 : Nat} : stK [n1, n2, n3, n4, n5] ρ (.tup [a1, a2, a3, a4, a5]) σ = .ok (.next, setAll [n1, n2, n3, n4, n5] [a1, a2, a3, a4, a5] ρ) σ := rfl
@[simp] theorem su5 {a1 a2 a3 a4 a5 : AV} {n1 n2 n3 n4 n5 : Nat} : suK [n1, n2, n3, n4, n5] ρ (.tup [a1, a2, a3, a4, a5]) σ = .ok (.next, setAll [n1, n2, n3, n4, n5] ([a1, a2, a3, a4, a5] : List AV).reverse ρ) σ := rfl
@[simp] theorem i0 {l : List AV} : oItem σ (.tup (x :: l)) (.int 0) = some x := rfl
@[simp] theorem i1 {l : List AV} : oItem σ (.tup (x :: y :: l)) (.int 1) = some y := rfl
@[simp] theorem i2 {l : List AV} : oItem σ (.tup (x :: y :: z :: l)) (.int 2) = some z := rfl
@[simp] theorem j0 {c : Nat} {l : List Nat} : oItem σ (.str (c :: l)) (.int 0) = some (.str [c]) := rfl
@[simp] theorem j1 {c e : Nat} {l : List Nat} : oItem σ (.str (c :: e :: l)) (.int 1) = some (.str [e]) := rfl
end
@[simp] theorem eqT {σ : Store} (a b x y : Int) : eqA σ (.tup [.int a, .int b]) (.tup [.int x, .int y]) = some (a == x && b == y) := rfl
@[simp] theorem eqI {σ : Store} (a b : Int) : eqA σ (.int a) (.int b) = some (a == b) := rfl
@[simp] theorem eqS {σ : Store} (a b : List Nat) : eqA σ (.str a) (.str b) = some (a == b) := rfl
@[simp] theorem eqIS {σ : Store} (a : Int) (b : List Nat) : eqA σ (.int a) (.str b) = some false := rfl
@[simp] theorem eqSI {σ : Store} (a : List Nat) (b : Int) : eqA σ (.str a) (.int b) = some false := rfl
theorem eq_PLUS {σ : Store} (a b : Int) : eqA σ (.tup [.int a, .int b]) V_PLUS = some (a == 12 && b == 43) := rfl
theorem eq_MINUS {σ : Store} (a b : Int) : eqA σ (.tup [.int a, .int b]) V_MINUS = some (a == 12 && b == 45) := rfl
theorem eq_POINT {σ : Store} (a b : Int) : eqA σ (.tup [.int a, .int b]) V_POINT = some (a == 12 && b == 46) := rfl
theorem eq_COMMA {σ : Store} (a b : Int) : eqA σ (.tup [.int a, .int b]) V_COMMA = some (a == 12 && b == 44) := rfl
theorem eq_BQ {σ : Store} (a b : Int) : eqA σ (.tup [.int a, .int b]) V_BACK_QUOTE = some (a == 12 && b == 96) := rfl
theorem eq_OCT {σ : Store} (a b : Int) : eqA σ (.tup [.int a, .int b]) V_OCTAL_MARK = some (a == 12 && b == 39) := rfl
theorem eq_HEX {σ : Store} (a b : Int) : eqA σ (.tup [.int a, .int b]) V_HEXADECIMAL_MARK = some (a == 12 && b == 34) := rfl
theorem eqN_PLUS {σ : Store} : eqA σ .none V_PLUS = some false := rfl
theorem eqN_MINUS {σ : Store} : eqA σ .none V_MINUS = some false := rfl
theorem eqN_POINT {σ : Store} : eqA σ .none V_POINT = some false := rfl
theorem eqN_COMMA {σ : Store} : eqA σ .none V_COMMA = some false := rfl
theorem eqN_BQ {σ : Store} : eqA σ .none V_BACK_QUOTE = some false := rfl
theorem eqN_OCT {σ : Store} : eqA σ .none V_OCTAL_MARK = some false := rfl
theorem eqN_HEX {σ : Store} : eqA σ .none V_HEXADECIMAL_MARK = some false := rfl
@[simp] theorem eqB {σ : Store} (a b : Bool) : eqA σ (.bool a) (.bool b) = some (a == b) := rfl
@[simp] theorem eqNN {σ : Store} : eqA σ .none .none = some true := rfl
theorem eqRE {σ : Store} {i j : Nat} {l : List AV} (h : σ[i]? = some (.list l)) (h2 : σ[j]? = some (.list [])) (hl : l.length ≤ 100000) (hf : (flats l).isSome = true) : eqA σ (.ref i) (.ref j) = some l.isEmpty := by
  unfold eqA
  simp only [h, h2]
  rw [if_pos ⟨hl, hf⟩]
theorem oItem_ref {σ : Store} {j v : Nat} {L : List AV} {x : AV} (h : σ[j]? = some (.list L)) (hi : L[v]? = some x) (hv : (v : Int) < 2 ^ 62) : oItem σ (.ref j) (.int (v : Int)) = some x := by
  unfold oItem itemAt
  simp only [h]
  rw [if_pos ⟨Int.natCast_nonneg v, hv⟩, Int.toNat_natCast, hi]
theorem pfL_ok {C i d : Nat} {name : Str} {ρ : Loc} {v : AV} {σ : Store} {fs : List (Str × AV)} (h : σ[i]? = some (.inst C d)) (h2 : σ[d]? = some (.ns fs)) (h3 : fs.length ≤ 100) : pfL C name ρ v (.ref i) σ = .ok (.next, ρ) (List.set σ d (.ns (putF name v fs))) := by
  simp only [pfL, h, h2, if_pos h3, if_true]
theorem popK_ok {i : Nat} {σ : Store} {l : List AV} {v : AV} (h : σ[i]? = some (.list (l ++ [v]))) (hl : l.length + 1 ≤ 100000) : popK (.ref i) σ = .ok v (List.set σ i (.list l)) := by
  simp [popK, h, hl]
theorem meK_ok {C i d : Nat} {name : Str} {F : List AV → Store → Res AV} {ms : List ME} {ρ : Loc} {σ : Store} {fs : List (Str × AV)} (h : σ[i]? = some (.inst C d)) (h2 : σ[d]? = some (.ns fs)) (h3 : fld fs name = none) : meK C name F ms ρ (.ref i) σ = (mArgs ms ρ σ).bind (meL F (.ref i)) := by
  have : isInst C name σ (.ref i) = true := by simp [isInst, h, h2, h3]
  rw [uMK, this, if_pos rfl]
theorem getF_ok {C i d : Nat} {name : Str} {σ : Store} {fs : List (Str × AV)} {v : AV} (h : σ[i]? = some (.inst C d)) (h2 : σ[d]? = some (.ns fs)) (h3 : fld fs name = some v) (h4 : handed v = true) : getF C name σ (.ref i) = some v := by
  simp [getF, h, h2, h3, h4]
section
variable {σ : Store} {x : AV} {a b : Int} {l m : List AV} {s : List Nat} {i : Nat} {is : List Nat} {e : Bool} {ρ : Loc}
@[simp] theorem vLe : oLe σ (.int a) (.int b) = some (.bool (decide (a ≤ b))) := rfl
@[simp] theorem vLt : oLt σ (.int a) (.int b) = some (.bool (decide (a < b))) := rfl
@[simp] theorem vGe : oGe σ (.int a) (.int b) = some (.bool (decide (b ≤ a))) := rfl
@[simp] theorem vGt : oGt σ (.int a) (.int b) = some (.bool (decide (b < a))) := rfl
@[simp] theorem vNeg : oNeg σ (.int a) = some (.int (-a)) := rfl
@[simp] theorem vAdd : oAdd σ (.int a) (.int b) = some (.int (a + b)) := rfl
@[simp] theorem vSub : oSub σ (.int a) (.int b) = some (.int (a - b)) := rfl
@[simp] theorem vMul : oMul σ (.int a) (.int b) = if mulOk a b then some (.int (a * b)) else none := rfl
@[simp] theorem vDiv : oDiv σ (.int a) (.int b) = if divOk a b then some (.int (a.fdiv b)) else none := rfl
@[simp] theorem vMod : oMod σ (.int a) (.int b) = if b != 0 then some (.int (a.fmod b)) else none := rfl
@[simp] theorem vPow : oPow σ (.int a) (.int b) = if 0 ≤ b ∧ b ≤ 1000000 ∧ a.natAbs < 2 ^ 64 then some (.int (a ^ b.toNat)) else none := rfl
@[simp] theorem vIs : oIs σ x .none = (noneP x).map .bool := by cases x <;> rfl
@[simp] theorem vIsN : oIsNot σ x .none = (noneP x).map fun b => .bool (!b) := by cases x <;> rfl
@[simp] theorem vn0 : noneP .none = some true := rfl
@[simp] theorem vn1 : noneP (.int a) = some false := rfl
@[simp] theorem vn2 : noneP (.str s) = some false := rfl
@[simp] theorem vn3 : noneP (.tup l) = some false := rfl
@[simp] theorem vn4 : noneP (.ref i) = some false := rfl
@[simp] theorem vn5 : noneP (.bool e) = some false := rfl
@[simp] theorem vEq {y : AV} : oEq σ x y = (eqA σ x y).map .bool := rfl
@[simp] theorem vNe {y : AV} : oNe σ x y = (eqA σ x y).map fun b => .bool (!b) := rfl
@[simp] theorem wI : F_isi [.int a, .lit (.type "int")] σ = .ok (.bool true) σ := isi1
@[simp] theorem wB : F_isi [.int a, .lit (.type "bool")] σ = .ok (.bool false) σ := isi2
@[simp] theorem wT : F_isi [.tup l, .lit (.type "tuple")] σ = .ok (.bool true) σ := isi3
@[simp] theorem wAbs : F_abs [.int a] σ = .ok (.int (if a < 0 then -a else a)) σ := rfl
@[simp] theorem wDm : F_divmod [.int a, .int b] σ = if divOk a b then .ok (.tup [.int (a.fdiv b), .int (a.fmod b)]) σ else .stuck := rfl
@[simp] theorem wMin : F_min [.int a, .int b] σ = .ok (.int (if b < a then b else a)) σ := rfl
@[simp] theorem wInt : F_int [.bool e] σ = .ok (.int (if e then 1 else 0)) σ := rfl
@[simp] theorem wOrd {c : Nat} : F_ord [.str [c]] σ = .ok (.int c) σ := rfl
@[simp] theorem wLs : F_lenA [.str s] σ = if s.length ≤ 100000 then .ok (.int s.length) σ else .stuck := rfl
@[simp] theorem wLt : F_lenA [.tup l] σ = if l.length ≤ 100000 then .ok (.int l.length) σ else .stuck := rfl
@[simp] theorem wLr : F_lenA [.ref i] σ = lenR σ[i]? σ := rfl
@[simp] theorem wLl : lenR (some (.list l)) σ = if l.length ≤ 100000 then .ok (.int l.length) σ else .stuck := rfl
@[simp] theorem sA0 : setAll [] l ρ = ρ := rfl
@[simp] theorem sA1 : setAll (i :: is) (x :: l) ρ = setAll is l (ρ.set i (some x)) := rfl
end

/- P1 -/

theorem intBits_small {a : Int} (h : a.natAbs < 2 ^ 64) : Builtin.Int.intBits a ≤ 64 := by
  unfold Builtin.Int.intBits
  split
  · lia
  · rename_i h0
    have hn : a.natAbs ≠ 0 := by simpa using h0
    have := (Nat.log2_lt hn).mpr h
    lia
theorem mulOk_l {a b : Int} (h : a.natAbs < 2 ^ 64) : mulOk a b = true := by
  have := intBits_small h
  unfold mulOk
  rw [show decide (Builtin.Int.intBits a > shortFactorBits) = false from by simp [shortFactorBits]; lia]
  rfl
theorem mulOk_r {a b : Int} (h : b.natAbs < 2 ^ 64) : mulOk a b = true := by
  have := intBits_small h
  unfold mulOk
  rw [show decide (Builtin.Int.intBits b > shortFactorBits) = false from by simp [shortFactorBits]; lia, Bool.and_false]
  rfl
theorem divOk_s {a b : Int} (h : b ≠ 0) (h2 : b.natAbs < 2 ^ 64) : divOk a b = true := by
  unfold divOk
  rw [PyProof.noPylong_of_log2 (by
    have hn : b.natAbs ≠ 0 := by lia
    have := (Nat.log2_lt hn).mpr h2
    lia)]
  simp [h]
section
theorem F_is_whole_int (v lo hi : Int) (σ : Store) : F_is_whole [.int v, .int lo, .int hi] σ = .ok (.bool (decide (lo ≤ v) && decide (v ≤ hi))) σ := by
  simp [F_is_whole, m_is_whole]
  by_cases h : lo ≤ v <;> simp [h]
theorem F_check_whole_int (v : Int) (σ : Store) : F_check_whole [.int v] σ = .ok (.int v) σ := by
  simp [F_check_whole, m_check_whole]
theorem F_check_dimen_int (v : Int) (σ : Store) : F_check_dimen [.int v] σ = if -1073741823 ≤ v ∧ v ≤ 1073741823 then .ok (.int v) σ else .exc 108 σ := by
  simp [F_check_dimen, m_check_dimen, F_check_whole_int]
  by_cases h : -1073741823 ≤ v <;> by_cases h2 : v ≤ 1073741823 <;> simp [h, h2]
theorem F_times_int (a b m : Int) (σ : Store) (h : mulOk a b = true) : F_times [.int a, .int b, .int m] σ = if -1073741823 ≤ a * b + m ∧ a * b + m ≤ 1073741823 then .ok (.int (a * b + m)) σ else .exc 108 σ := by
  simp [F_times, m_times, F_check_whole_int, h, F_check_dimen_int]
  by_cases hc : -1073741823 ≤ a * b + m ∧ a * b + m ≤ 1073741823
  · simp only [if_pos hc]; first | done | rfl | simp
  · simp only [if_neg hc]; try rfl
theorem F_reading_int (w s : Int) (σ : Store) (hs : s ≠ 0) (hs2 : s.natAbs < 2 ^ 64) : F_reading [.int w, .int s] σ = .ok (.int (((131072 * w).fdiv s + 1).fdiv 2)) σ := by
  simp [F_reading, m_reading, mulOk_l (a := 2) (b := 65536) (by decide), mulOk_l (a := 131072) (b := w) (by decide), divOk_s (a := 131072 * w) hs hs2, divOk_s (a := (131072 * w).fdiv s + 1) (b := 2) (by decide) (by decide)]
theorem F_over_int (v b : Int) (σ : Store) (hv : 0 ≤ v) (hb : 0 < b) (h : divOk v b = true) : F_over [.int v, .int b] σ = .ok (.tup [.int (v.fdiv b), .int (v.fmod b)]) σ := by
  have h1 : ¬ v < 0 := by lia
  have h2 : ¬ b < 0 := by lia
  have h3 : (b == 0) = false := by simp; lia
  simp [F_over, m_over, F_check_whole_int, h, h1, h2, h3]
theorem F_fraction_int (v u d : Int) (σ : Store) (hv : 0 ≤ v) (hu : 0 ≤ u) (hu2 : u ≤ 2147483647) (hd : 1 ≤ d) (hd2 : d ≤ 2147483647) (hm : mulOk v u = true) (h : divOk (v * u) d = true) :
    F_fraction [.int v, .int u, .int d] σ = if -1073741823 ≤ (v * u).fdiv d ∧ (v * u).fdiv d ≤ 1073741823 then .ok (.tup [.int ((v * u).fdiv d), .int ((v * u).fmod d)]) σ else .exc 108 σ := by
  have h0 : 0 ≤ v * u := Int.mul_nonneg hv hu
  simp [F_fraction, m_fraction, F_is_whole_int, F_check_whole_int, hm, hu, hu2, hd, hd2, F_over_int (v * u) d σ h0 (by lia) h, F_check_dimen_int]
  by_cases hc : -1073741823 ≤ (v * u).fdiv d ∧ (v * u).fdiv d ≤ 1073741823
  · simp only [if_pos hc]; first | done | rfl | simp
  · simp only [if_neg hc]; try rfl
end

/- P2 -/
section
/-- the number of a row of digits, behind w -/
noncomputable def numFrom (w : Int) (ds : List Nat) : Int := ds.foldl (fun (w : Int) (d : Nat) => 10 * w + (d : Int)) w
theorem fd_loop {σ : Store} {j i : Nat} : ∀ (ds : List Nat) (all : List Nat) (k : Nat) (w s : Int) (x : Option AV) (fuel : Nat), σ[j]? = some (.list (all.map fun (d : Nat) => AV.int (d : Int))) → all.drop k = ds → (∀ d ∈ ds, d < 10) → ds.length < fuel → ∃ x',
    mForF (listItem j) (tgName 3) (mSeq (mIfS (mNot (mCall F_is_whole [mLoc 3, mVal (.int 0), mVal (.int 9)])) (mStuckS) (mNil)) (mSeq (mSet 1 (mOp2 oAdd (mOp2 oMul (mVal (.int 10)) (mLoc 1)) (mLoc 3))) (mSeq (mSet 2 (mOp2 oMul (mVal (.int 10)) (mLoc 2))) (mNil)))) fuel k
      [some (.ref i), some (.int w), some (.int s), x, none, none, none, none] σ = .ok (.next, [some (.ref i), some (.int (numFrom w ds)), some (.int (10 ^ ds.length * s)), x', none, none, none, none]) σ := by
  intro ds
  induction ds with
  | nil =>
    intro all k w s x fuel h hk hd hf
    obtain ⟨fuel, rfl⟩ : ∃ n, fuel = n + 1 := ⟨fuel - 1, by simp at hf; lia⟩
    refine ⟨x, ?_⟩
    have hk' : all.length ≤ k := List.drop_eq_nil_iff.mp hk
    unfold mForF
    simp [listItem, h, numFrom, hk']
  | cons d ds ih =>
    intro all k w s x fuel h hk hd hf
    obtain ⟨fuel, rfl⟩ : ∃ n, fuel = n + 1 := ⟨fuel - 1, by simp at hf; lia⟩
    have hk1 : all[k]? = some d := by
      have := congrArg (fun l => l[0]?) hk
      simpa using this
    have hk2 : all.drop (k + 1) = ds := by
      have := congrArg (fun l => l.drop 1) hk
      simpa [List.drop_drop, Nat.add_comm] using this
    obtain ⟨x', e⟩ := ih all (k + 1) (10 * w + d) (10 * s) (some (.int d)) fuel h hk2 (fun z hz => hd z (.tail _ hz)) (by simp at hf; lia)
    refine ⟨x', ?_⟩
    have hd9 : (d : Int) ≤ 9 := by have := hd d (.head _); lia
    unfold mForF
    simp [listItem, h, hk1, tgName, F_is_whole_int, hd9, mulOk_l (a := 10) (b := w) (by decide), mulOk_l (a := 10) (b := s) (by decide)]
    rw [e]
    simp [numFrom, Int.pow_succ, Int.mul_assoc]
noncomputable def intL (ds : List Nat) : List AV := ds.map fun (d : Nat) => AV.int (d : Int)
/-- the scaled part of a row of decimals -/
noncomputable def fracOf (ds : List Nat) : Int := ((131072 * numFrom 0 ds).fdiv (10 ^ ds.length) + 1).fdiv 2
theorem F_from_decimals_ok {σ : Store} {i : Nat} (ds : List Nat) (h : σ[i]? = some (.list (intL ds))) (hd : ∀ d ∈ ds, d < 10) (hl : ds.length ≤ 100000) :
    F_from_decimals [.ref i] σ = .ok (.int (fracOf (ds.take 17))) (σ ++ [.list (intL (ds.take 17))]) := by
  have h2 : (σ ++ [AO.list (intL (ds.take 17))])[σ.length]? = some (.list ((ds.take 17).map fun (d : Nat) => AV.int (d : Int))) := by simp [intL]
  obtain ⟨x', e⟩ := fd_loop (σ := σ ++ [AO.list (intL (ds.take 17))]) (j := σ.length) (i := i) (ds.take 17) (ds.take 17) 0 0 1 none ((ds.take 17).length + 1) h2 rfl (fun d hz => hd d (List.mem_of_mem_take hz)) (Nat.lt_succ_self _)
  have hlen : (intL ds).length ≤ 100000 := by simpa [intL] using hl
  have ht : (intL ds).take 17 = intL (ds.take 17) := by simp [intL, List.map_take]
  have h10 : ((10 : Int) ^ (ds.take 17).length * 1) = (10 : Int) ^ (ds.take 17).length := by simp
  have hp : (10 : Int) ^ (ds.take 17).length ≠ 0 := Int.pow_ne_zero (by decide)
  have hb : ((10 : Int) ^ (ds.take 17).length).natAbs < 2 ^ 64 := by
    rw [Int.natAbs_pow]
    have : (ds.take 17).length ≤ 17 := List.length_take_le ..
    exact Nat.lt_of_le_of_lt (Nat.pow_le_pow_right (by decide) this) (by decide)
  clear hd
  generalize ds.take 17 = D at *
  simp [F_from_decimals, m_from_decimals, mForL, mSliceTo, sliceR, h, hlen, ht]
  simp only [intL, List.length_map] at e ⊢
  rw [e, h10]
  simp [F_reading_int _ _ _ hp hb, fracOf]
end

/- P3 -/
section
/-- the token of a sign -/
noncomputable def tokAV (ch : Nat) : AV := if ch = 32 then .tup [.int 10, .int 32] else .tup [.int 12, .int (ch : Int)]
noncomputable def catOf (ch : Nat) : Int := if ch = 32 then 10 else 12
theorem tokAV_eq (ch : Nat) : tokAV ch = .tup [.int (catOf ch), .int (ch : Int)] := by
  unfold tokAV catOf
  split <;> simp_all
theorem lc10 {σ : Store} : oItem σ V_LEAST_CODES (.int 10) = some (.int 0) := rfl
theorem lc12 {σ : Store} : oItem σ V_LEAST_CODES (.int 12) = some (.int 0) := rfl
theorem gc10 {σ : Store} : oItem σ V_GREATEST_CODES (.int 10) = some (.int 255) := rfl
theorem gc12 {σ : Store} : oItem σ V_GREATEST_CODES (.int 12) = some (.int 255) := rfl
theorem in10 {σ : Store} : oIn σ (.int 10) (.tup [.int 5, .int 9, .int 14, .int 15]) = some (.bool false) := rfl
theorem in12 {σ : Store} : oIn σ (.int 12) (.tup [.int 5, .int 9, .int 14, .int 15]) = some (.bool false) := rfl
theorem F_is_token_ok (ch : Nat) (h : ch ≤ 255) (σ : Store) : F_is_token [tokAV ch] σ = .ok (.bool true) σ := by
  have h' : (ch : Int) ≤ 255 := by lia
  unfold tokAV
  split
  · simp [F_is_token, m_is_token, F_is_whole_int, lc10, gc10]
  · simp [F_is_token, m_is_token, F_is_whole_int, lc12, gc12, h']
theorem F_spells_ok (ch m : Nat) (σ : Store) : F_spells [tokAV ch, .str [m]] σ = .ok (.bool ((ch : Int) == (m : Int) || (ch : Int) == (m : Int) - 32)) σ := by
  unfold tokAV
  split
  · subst ch
    simp [F_spells, m_spells]
    cases ((32 : Int) == (m : Int)) <;> simp
  · simp [F_spells, m_spells]
    cases ((ch : Int) == (m : Int)) <;> simp
theorem F_spells_none (m : Nat) (σ : Store) : F_spells [.none, .str [m]] σ = .ok (.bool false) σ := by
  simp [F_spells, m_spells]
theorem F_digit_of_none (σ : Store) : F_digit_of [.none, .int 10] σ = .ok (.int (-1)) σ := by
  simp [F_digit_of, m_digit_of]
noncomputable def digitOf (ch : Nat) : Int := if 48 ≤ ch ∧ ch ≤ 57 then (ch : Int) - 48 else -1
theorem F_digit_of_ok (ch : Nat) (σ : Store) : F_digit_of [tokAV ch, .int 10] σ = .ok (.int (digitOf ch)) σ := by
  unfold tokAV digitOf
  split
  · subst ch
    simp [F_digit_of, m_digit_of]
  · by_cases h1 : 48 ≤ ch
    · by_cases h2 : ch ≤ 57
      · have a1 : (48 : Int) ≤ ch := by lia
        have a2 : (ch : Int) < 58 := by lia
        simp [F_digit_of, m_digit_of, a1, a2, h1, h2]
      · have a1 : (48 : Int) ≤ ch := by lia
        have a2 : ¬ (ch : Int) < 58 := by lia
        simp [F_digit_of, m_digit_of, a1, a2, h1, h2]
    · have a1 : ¬ (48 : Int) ≤ ch := by lia
      simp [F_digit_of, m_digit_of, a1, h1]
end

/- P4 -/
noncomputable def srcFs (r x : Nat) : List (Str × AV) := [("rest", .ref r), ("inner", .ref x), ("names", .none), ("sizes", .tup [.int 282168, .int 655361]), ("balance", .int 0)]
/-- the source at i holds the word w -/
structure Src (σ : Store) (i d r x : Nat) (w : List Nat) : Prop where
  inst : σ[i]? = some (.inst 544 d)
  ns : σ[d]? = some (.ns (srcFs r x))
  rest : σ[r]? = some (.list (w.map tokAV).reverse)
  ir : i ≠ r
  dr : d ≠ r
  small : w.length ≤ 1000
/-- all below k stands, and the store does not shrink -/
structure Stands (k : Nat) (σ σ' : Store) : Prop where
  len : σ.length ≤ σ'.length
  old : ∀ j, j < k → σ'[j]? = σ[j]?
section
theorem fld_rest (r x : Nat) : fld (srcFs r x) "rest" = some (.ref r) := by
  unfold srcFs
  rw [fld_cons]
  simp
theorem F_read_nil {σ : Store} {i d r x : Nat} (S : Src σ i d r x []) : F_read [.ref i] σ = .ok (.tup [.none, .int 99, .int 0]) (σ ++ [.list []]) := by
  have hi := S.inst
  have hd := S.ns
  have hr := S.rest
  have li := (List.getElem?_eq_some_iff.mp hi).1
  have ld := (List.getElem?_eq_some_iff.mp hd).1
  have lr := (List.getElem?_eq_some_iff.mp hr).1
  have hr2 : (σ ++ [AO.list []])[r]? = some (.list []) := by rw [List.getElem?_append_left lr]; simpa using hr
  have hg := getF_ok hi hd (fld_rest r x) rfl
  have he := eqRE hr2 (show (σ ++ [AO.list []])[σ.length]? = some (.list []) by simp) (by decide) rfl
  simp [F_read, m_read, hg, he]
theorem flats_app : ∀ (l l' : List AV), (flats l).isSome = true → (flats l').isSome = true → (flats (l ++ l')).isSome = true
  | [], _, _, h => h
  | a :: l, l', h, h' => by
    rw [List.cons_append]
    unfold flats at h ⊢
    cases ha : flat a with
    | none => rw [ha] at h; cases h
    | some v =>
      rw [ha] at h
      have h2 : (flats l).isSome = true := by simpa using h
      have := flats_app l l' h2 h'
      simpa using this
theorem flat_tok (ch : Nat) : (flat (tokAV ch)).isSome = true := by
  unfold tokAV
  split <;> rfl
theorem flats_toks (w : List Nat) : (flats (w.map tokAV).reverse).isSome = true := by
  induction w with
  | nil => rfl
  | cons ch w ih =>
    rw [List.map_cons, List.reverse_cons]
    refine flats_app _ _ ih ?_
    have := flat_tok ch
    unfold flats
    cases h : flat (tokAV ch) with
    | none => rw [h] at this; cases this
    | some v => rfl
theorem isEmpty_snoc (l : List AV) (a : AV) : (l ++ [a]).isEmpty = false := by simp
theorem F_read_cons {σ : Store} {i d r x ch : Nat} {w : List Nat} (S : Src σ i d r x (ch :: w)) : F_read [.ref i] σ = .ok (.tup [tokAV ch, .int (catOf ch), .int (ch : Int)]) (List.set (σ ++ [AO.list []]) r (AO.list (w.map tokAV).reverse)) := by
  have hi := S.inst
  have hd := S.ns
  have hr := S.rest
  have li := (List.getElem?_eq_some_iff.mp hi).1
  have ld := (List.getElem?_eq_some_iff.mp hd).1
  have lr := (List.getElem?_eq_some_iff.mp hr).1
  have hr2 : (σ ++ [AO.list []])[r]? = some (.list ((w.map tokAV).reverse ++ [tokAV ch])) := by rw [List.getElem?_append_left lr, hr]; simp
  have hi2 : (σ ++ [AO.list []])[i]? = some (.inst 544 d) := by rw [List.getElem?_append_left li, hi]
  have hd2 : (σ ++ [AO.list []])[d]? = some (.ns (srcFs r x)) := by rw [List.getElem?_append_left ld, hd]
  have hf : (flats ((w.map tokAV).reverse ++ [tokAV ch])).isSome = true := by simpa using flats_toks (ch :: w)
  have hlen : w.length + 1 ≤ 100000 := by have := S.small; simp at this; lia
  have hc : catOf ch = 10 ∨ catOf ch = 12 := by unfold catOf; split <;> simp
  rw [tokAV_eq] at hr2 hf ⊢
  rcases hc with hc | hc <;> rw [hc] at hr2 hf ⊢ <;> (
    have hg := getF_ok hi hd (fld_rest r x) rfl
    have hg2 := getF_ok hi2 hd2 (fld_rest r x) rfl
    have he := eqRE hr2 (show (σ ++ [AO.list []])[σ.length]? = some (.list []) by simp) (by simpa using hlen) (by simpa using hf)
    have hp := popK_ok hr2 (by simpa using hlen)
    simp [F_read, m_read, hg, hg2, he, isEmpty_snoc, hp])
end

/- P5 -/
theorem Stands.refl {k : Nat} {σ : Store} : Stands k σ σ := ⟨Nat.le_refl _, fun _ _ => rfl⟩
theorem Stands.trans {k : Nat} {σ σ' σ'' : Store} (a : Stands k σ σ') (b : Stands k σ' σ'') : Stands k σ σ'' := ⟨Nat.le_trans a.len b.len, fun j h => (b.old j h).trans (a.old j h)⟩
/-- all but r stands, and the store does not shrink -/
structure Keeps (r : Nat) (σ σ' : Store) : Prop where
  len : σ.length ≤ σ'.length
  old : ∀ j, j < σ.length → j ≠ r → σ'[j]? = σ[j]?
theorem Keeps.refl {k : Nat} {σ : Store} : Keeps k σ σ := ⟨Nat.le_refl _, fun _ _ _ => rfl⟩
theorem Keeps.trans {k : Nat} {σ σ' σ'' : Store} (a : Keeps k σ σ') (b : Keeps k σ' σ'') : Keeps k σ σ'' := ⟨Nat.le_trans a.len b.len, fun j h h' => (b.old j (Nat.lt_of_lt_of_le h a.len) h').trans (a.old j h h')⟩
theorem Keeps.app {k : Nat} {σ l : Store} : Keeps k σ (σ ++ l) := ⟨by simp, fun j hj _ => List.getElem?_append_left hj⟩
theorem Keeps.set {r : Nat} {σ : Store} {o : AO} : Keeps r σ (List.set σ r o) := ⟨by simp, fun j hj h => List.getElem?_set_ne (by lia)⟩
theorem Keeps.get {r j : Nat} {σ σ' : Store} {o : AO} (a : Keeps r σ σ') (h : σ[j]? = some o) (hj : j ≠ r) : σ'[j]? = some o := (a.old j (List.getElem?_eq_some_iff.mp h).1 hj).trans h
theorem Src.app {σ : Store} {i d r x : Nat} {w : List Nat} (S : Src σ i d r x w) (l : Store) : Src (σ ++ l) i d r x w := by
  have li := (List.getElem?_eq_some_iff.mp S.inst).1
  have ld := (List.getElem?_eq_some_iff.mp S.ns).1
  have lr := (List.getElem?_eq_some_iff.mp S.rest).1
  exact ⟨by rw [List.getElem?_append_left li]; exact S.inst, by rw [List.getElem?_append_left ld]; exact S.ns, by rw [List.getElem?_append_left lr]; exact S.rest, S.ir, S.dr, S.small⟩
theorem Src.set {σ : Store} {i d r x : Nat} {w w' : List Nat} (S : Src σ i d r x w) (h : w'.length ≤ 1000) : Src (List.set σ r (.list (w'.map tokAV).reverse)) i d r x w' := by
  have lr := (List.getElem?_eq_some_iff.mp S.rest).1
  exact ⟨by rw [List.getElem?_set_ne S.ir.symm]; exact S.inst, by rw [List.getElem?_set_ne S.dr.symm]; exact S.ns, by rw [List.getElem?_set_self (by simpa using lr)], S.ir, S.dr, h⟩
/-- what a reading gives: the token, its sort, its code -/
noncomputable def found : List Nat → AV
  | [] => .tup [.none, .int 99, .int 0]
  | ch :: _ => .tup [tokAV ch, .int (catOf ch), .int (ch : Int)]
theorem F_read_ok {σ : Store} {i d r x : Nat} {w : List Nat} (S : Src σ i d r x w) : ∃ σ', F_read [.ref i] σ = .ok (found w) σ' ∧ Src σ' i d r x w.tail ∧ Keeps r σ σ' := by
  have lr := (List.getElem?_eq_some_iff.mp S.rest).1
  cases w with
  | nil => exact ⟨_, F_read_nil S, S.app _, .app⟩
  | cons ch w =>
    refine ⟨_, F_read_cons S, (S.app _).set ?_, Keeps.app.trans .set⟩
    have := S.small
    simp at this
    lia
section
theorem srcFs_meth (r x : Nat) : fld (srcFs r x) "read" = none ∧ fld (srcFs r x) "read_expanded" = none ∧ fld (srcFs r x) "back" = none ∧ fld (srcFs r x) "left" = none ∧ fld (srcFs r x) "quantity" = none ∧ fld (srcFs r x) "font_size" = none := by
  refine ⟨?_, ?_, ?_, ?_, ?_, ?_⟩ <;> (unfold fld srcFs; rfl)
section
variable {σ : Store} {i d r x : Nat} {w : List Nat} {F : List AV → Store → Res AV} {ms : List ME} {ρ : Loc}
theorem Src.rd (S : Src σ i d r x w) : meK 544 "read" F ms ρ (.ref i) σ = (mArgs ms ρ σ).bind (meL F (.ref i)) := meK_ok S.inst S.ns (srcFs_meth r x).1
theorem Src.rx (S : Src σ i d r x w) : meK 544 "read_expanded" F ms ρ (.ref i) σ = (mArgs ms ρ σ).bind (meL F (.ref i)) := meK_ok S.inst S.ns (srcFs_meth r x).2.1
theorem Src.bk (S : Src σ i d r x w) : meK 544 "back" F ms ρ (.ref i) σ = (mArgs ms ρ σ).bind (meL F (.ref i)) := meK_ok S.inst S.ns (srcFs_meth r x).2.2.1
theorem Src.lf (S : Src σ i d r x w) : meK 544 "left" F ms ρ (.ref i) σ = (mArgs ms ρ σ).bind (meL F (.ref i)) := meK_ok S.inst S.ns (srcFs_meth r x).2.2.2.1
theorem Src.qt (S : Src σ i d r x w) : meK 544 "quantity" F ms ρ (.ref i) σ = (mArgs ms ρ σ).bind (meL F (.ref i)) := meK_ok S.inst S.ns (srcFs_meth r x).2.2.2.2.1
theorem Src.fs (S : Src σ i d r x w) : meK 544 "font_size" F ms ρ (.ref i) σ = (mArgs ms ρ σ).bind (meL F (.ref i)) := meK_ok S.inst S.ns (srcFs_meth r x).2.2.2.2.2
theorem fld_sizes (r x : Nat) : fld (srcFs r x) "sizes" = some (.tup [.int 282168, .int 655361]) := by unfold fld srcFs; rfl
theorem Src.gr (S : Src σ i d r x w) : getF 544 "rest" σ (.ref i) = some (.ref r) := getF_ok S.inst S.ns (fld_rest r x) rfl
theorem Src.gs (S : Src σ i d r x w) : getF 544 "sizes" σ (.ref i) = some (.tup [.int 282168, .int 655361]) := getF_ok S.inst S.ns (fld_sizes r x) rfl
end
theorem F_rx_ok {σ : Store} {i d r x : Nat} {w : List Nat} (S : Src σ i d r x w) : ∃ σ', F_read_expanded [.ref i] σ = .ok (found w) σ' ∧ Src σ' i d r x w.tail ∧ Keeps r σ σ' := by
  obtain ⟨σ', e, S', st⟩ := F_read_ok S
  refine ⟨σ', ?_, S', st⟩
  simp [F_read_expanded, m_read_expanded, S.rd, e]
theorem F_quantity_ok {σ : Store} {i : Nat} (a : Int) (b : AV) (h : a ≠ 77) : F_quantity [.ref i, .int a, b] σ = .ok .none σ := by
  have : (a == 77) = false := by simpa using h
  simp [F_quantity, m_quantity, this]
theorem F_font_ok {σ : Store} {i d r x : Nat} {w : List Nat} (S : Src σ i d r x w) (a : Int) : F_font_size [.ref i, .int a] σ = .ok (.int (if a == 6 then 655361 else 282168)) σ := by
  by_cases h : a = 6
  · simp [F_font_size, m_font_size, S.gs, h]
  · have h' : (a == 6) = false := by simpa using h
    simp [F_font_size, m_font_size, S.gs, h, h']
theorem F_back_ok {σ : Store} {i d r x ch : Nat} {w : List Nat} (S : Src σ i d r x w) (hch : ch ≤ 255) (hw : w.length + 1 ≤ 1000) : ∃ σ', F_back [.ref i, tokAV ch] σ = .ok .none σ' ∧ Src σ' i d r x (ch :: w) ∧ Keeps r σ σ' := by
  have hc : catOf ch = 10 ∨ catOf ch = 12 := by unfold catOf; split <;> simp
  have hr := S.rest
  have hit := F_is_token_ok ch hch σ
  have hlen : w.length ≤ 100000 := by lia
  refine ⟨List.set σ r (.list ((ch :: w).map tokAV).reverse), ?_, S.set (by simpa using hw), .set⟩
  rw [List.map_cons, List.reverse_cons]
  rw [tokAV_eq] at hit ⊢
  rcases hc with hc | hc <;> rw [hc] at hit ⊢ <;> simp [F_back, m_back, hit, in10, in12, mAppend, isList, S.gr, hr, hlen]
theorem F_unread_nil {σ : Store} {i : Nat} : F_unread [.ref i, found []] σ = .ok .none σ := by
  simp [F_unread, m_unread, found]
theorem F_unread_ok {σ : Store} {i d r x ch : Nat} {w v : List Nat} (S : Src σ i d r x w) (hch : ch ≤ 255) (hw : w.length + 1 ≤ 1000) : ∃ σ', F_unread [.ref i, found (ch :: v)] σ = .ok .none σ' ∧ Src σ' i d r x (ch :: w) ∧ Keeps r σ σ' := by
  obtain ⟨σ', e, S', st⟩ := F_back_ok S hch hw
  refine ⟨σ', ?_, S', st⟩
  rw [tokAV_eq] at e
  simp [F_unread, m_unread, found, tokAV_eq, S.bk, e]
end

/- P6 -/
noncomputable def dropB : List Nat → List Nat
  | [] => []
  | c :: w => if c = 32 then dropB w else c :: w
theorem dropB_len (w : List Nat) : (dropB w).length ≤ w.length := by
  induction w with
  | nil => exact Nat.le_refl _
  | cons c w ih =>
    unfold dropB
    split
    · simp; lia
    · exact Nat.le_refl _
section
theorem skip_loop {i d r x : Nat} : ∀ (w : List Nat) (σ : Store) (fuel : Nat), Src σ i d r x w.tail → w.length < fuel → ∃ σ',
    mWhileF (mOp2 oEq (mOp2 oItem (mLoc 1) (mVal (.int 1))) (mVal (.int 10))) (mSeq (mSet 1 (mMeth 544 "read_expanded" F_read_expanded (mLoc 0) [])) (mNil)) fuel [some (.ref i), some (found w), none] σ
      = .ok (.next, [some (.ref i), some (found (dropB w)), none]) σ' ∧ Src σ' i d r x (dropB w).tail ∧ Keeps r σ σ'
  | [], σ, fuel, S, hf => by
    obtain ⟨fuel, rfl⟩ : ∃ n, fuel = n + 1 := ⟨fuel - 1, by simp at hf; lia⟩
    refine ⟨σ, ?_, S, .refl⟩
    unfold mWhileF
    simp [found, dropB]
  | c :: w, σ, fuel, S, hf => by
    obtain ⟨fuel, rfl⟩ : ∃ n, fuel = n + 1 := ⟨fuel - 1, by simp at hf; lia⟩
    by_cases hc : c = 32
    · subst hc
      obtain ⟨σ₁, e, S₁, K₁⟩ := F_rx_ok S
      obtain ⟨σ', e', S', K'⟩ := skip_loop w σ₁ fuel S₁ (by simp at hf; lia)
      refine ⟨σ', ?_, by simpa [dropB] using S', K₁.trans K'⟩
      simp only [List.tail_cons] at e
      unfold mWhileF
      simp [found, catOf, S.rx, e, dropB]
      exact e'
    · refine ⟨σ, ?_, by simpa [dropB, hc] using S, .refl⟩
      unfold mWhileF
      simp [found, catOf, hc, dropB]
theorem F_skip_ok {σ : Store} {i d r x : Nat} {w : List Nat} (S : Src σ i d r x w) (hw : w.length < 200) : ∃ σ', F_skip_blanks [.ref i] σ = .ok (found (dropB w)) σ' ∧ Src σ' i d r x (dropB w).tail ∧ Keeps r σ σ' := by
  obtain ⟨σ₁, e, S₁, K₁⟩ := F_rx_ok S
  obtain ⟨σ', e', S', K'⟩ := skip_loop w σ₁ 200 S₁ hw
  refine ⟨σ', ?_, S', K₁.trans K'⟩
  simp [F_skip_blanks, m_skip_blanks, S.rx, e]
  rw [e']
  simp
/-- at most one blank is dropped -/
noncomputable def dropOne : List Nat → List Nat
  | [] => []
  | c :: w => if c = 32 then w else c :: w
theorem F_unread_gen {σ : Store} {i d r x : Nat} {w : List Nat} (S : Src σ i d r x w.tail) (hch : ∀ c ∈ w, c ≤ 255) (hw : w.length < 200) : ∃ σ', F_unread [.ref i, found w] σ = .ok .none σ' ∧ Src σ' i d r x w ∧ Keeps r σ σ' := by
  cases w with
  | nil => exact ⟨σ, F_unread_nil, S, .refl⟩
  | cons c w => exact F_unread_ok S (hch c (.head _)) (by simp at hw ⊢; lia)
theorem found_1 (w : List Nat) : ∃ a b : AV, ∃ k : Int, found w = .tup [a, .int k, b] ∧ (k = 10 ↔ w.head? = some 32) := by
  cases w with
  | nil => exact ⟨_, _, _, rfl, by simp⟩
  | cons c w =>
    refine ⟨_, _, _, rfl, ?_⟩
    unfold catOf
    by_cases hc : c = 32 <;> simp [hc]
theorem F_oblank_ok {σ : Store} {i d r x : Nat} {w : List Nat} (S : Src σ i d r x w) (hch : ∀ c ∈ w, c ≤ 255) (hw : w.length < 200) : ∃ σ', F_optional_blank [.ref i] σ = .ok .none σ' ∧ Src σ' i d r x (dropOne w) ∧ Keeps r σ σ' := by
  obtain ⟨σ₁, e, S₁, K₁⟩ := F_rx_ok S
  cases w with
  | nil =>
    refine ⟨σ₁, ?_, S₁, K₁⟩
    simp [F_optional_blank, m_optional_blank, S.rx, e, found, F_unread, m_unread]
  | cons c w =>
    by_cases hc : c = 32
    · refine ⟨σ₁, ?_, by simpa [dropOne, hc] using S₁, K₁⟩
      simp [F_optional_blank, m_optional_blank, S.rx, e, found, hc, catOf]
    · obtain ⟨σ₂, e₂, S₂, K₂⟩ := F_unread_gen S₁ hch hw
      refine ⟨σ₂, ?_, by simpa [dropOne, hc] using S₂, K₁.trans K₂⟩
      unfold found at e e₂
      simp only [] at e e₂
      simp [F_optional_blank, m_optional_blank, S.rx, e, hc, catOf] at e₂ ⊢
      simp [hc, e₂]
theorem F_left_ok {σ : Store} {i d r x : Nat} {w : List Nat} (S : Src σ i d r x w) : F_left [.ref i] σ = .ok (.ref σ.length) (σ ++ [.list (w.map tokAV)]) := by
  have := S.small
  have h : w.length ≤ 100000 := by lia
  simp [F_left, m_left, mRev, S.gr, S.rest, h]
end

/- P7 -/
/-- the signs ahead -/
noncomputable def sgn : Bool → List Nat → Bool × List Nat
  | b, [] => (b, [])
  | b, c :: w => if c = 32 ∨ c = 43 then sgn b w else if c = 45 then sgn (!b) w else (b, c :: w)
theorem sgn_dropB (b : Bool) : ∀ w : List Nat, sgn b (dropB w) = sgn b w
  | [] => rfl
  | c :: w => by
    by_cases hc : c = 32
    · simp [dropB, sgn, hc, sgn_dropB b w]
    · simp [dropB, hc]
theorem dropB_head {w u : List Nat} {c : Nat} (h : dropB w = c :: u) : c ≠ 32 := by
  induction w with
  | nil => cases h
  | cons a w ih =>
    unfold dropB at h
    split at h
    · exact ih h
    · cases h; assumption
theorem dropB_mem {c : Nat} : ∀ {w : List Nat}, c ∈ dropB w → c ∈ w
  | [], h => h
  | a :: w, h => by
    unfold dropB at h
    split at h
    · exact .tail _ (dropB_mem h)
    · exact h
theorem found_nil : found [] = .tup [.none, .int 99, .int 0] := rfl
theorem found_cons (c : Nat) (w : List Nat) : found (c :: w) = .tup [.tup [.int (catOf c), .int (c : Int)], .int (catOf c), .int (c : Int)] := by rw [found, tokAV_eq]
theorem catOf_ne {c : Nat} (h : c ≠ 32) : catOf c = 12 := by simp [catOf, h]
section
theorem signs_loop {i d r x : Nat} : ∀ (fuel : Nat) (w : List Nat) (b : Bool) (σ : Store), Src σ i d r x (dropB w).tail → w.length < fuel → w.length < 200 → ∃ σ',
    mWhileF (mOr (mOp2 oEq (mOp2 oItem (mLoc 2) (mVal (.int 0))) (mVal V_PLUS)) (mOp2 oEq (mOp2 oItem (mLoc 2) (mVal (.int 0))) (mVal V_MINUS))) (mSeq (mIfS (mOp2 oEq (mOp2 oItem (mLoc 2) (mVal (.int 0))) (mVal V_MINUS)) (mSeq (mSet 1 (mNot (mLoc 1))) (mNil)) (mNil)) (mSeq (mSet 2 (mCall F_skip_blanks [mLoc 0])) (mNil))) fuel
      [some (.ref i), some (.bool b), some (found (dropB w)), none, none, none] σ
      = .ok (.next, [some (.ref i), some (.bool (sgn b w).1), some (found (sgn b w).2), none, none, none]) σ' ∧ Src σ' i d r x (sgn b w).2.tail ∧ Keeps r σ σ'
  | 0, w, b, σ, S, hf, hw => by lia
  | fuel + 1, w, b, σ, S, hf, hw => by
    have hl := dropB_len w
    rw [← sgn_dropB b w]
    generalize hv : dropB w = v at *
    match v with
    | [] =>
      refine ⟨σ, ?_, S, .refl⟩
      unfold mWhileF
      simp [found_nil, sgn, eqN_PLUS, eqN_MINUS]
    | c :: u =>
      have hc := dropB_head hv
      simp at hl
      by_cases h43 : c = 43
      · obtain ⟨σ₁, e₁, S₁, K₁⟩ := F_skip_ok S (by simp; lia)
        obtain ⟨σ', e', S', K'⟩ := signs_loop fuel u b σ₁ S₁ (by lia) (by lia)
        refine ⟨σ', ?_, by simpa [sgn, hc, h43] using S', K₁.trans K'⟩
        simp only [List.tail_cons] at e₁
        unfold mWhileF
        simp [found_cons, catOf, hc, h43, eq_PLUS, eq_MINUS, e₁, sgn]
        exact e'
      · by_cases h45 : c = 45
        · obtain ⟨σ₁, e₁, S₁, K₁⟩ := F_skip_ok S (by simp; lia)
          obtain ⟨σ', e', S', K'⟩ := signs_loop fuel u (!b) σ₁ S₁ (by lia) (by lia)
          refine ⟨σ', ?_, by simpa [sgn, hc, h43, h45] using S', K₁.trans K'⟩
          simp only [List.tail_cons] at e₁
          unfold mWhileF
          simp [found_cons, catOf, hc, h43, h45, eq_PLUS, eq_MINUS, e₁, sgn]
          exact e'
        · refine ⟨σ, ?_, by simpa [sgn, hc, h43, h45] using S, .refl⟩
          have h43' : ((c : Int) == 43) = false := by simp; lia
          have h45' : ((c : Int) == 45) = false := by simp; lia
          unfold mWhileF
          simp [found_cons, catOf, hc, h43, h45, eq_PLUS, eq_MINUS, sgn, h43', h45']
theorem F_signs_ok {σ : Store} {i d r x : Nat} {w : List Nat} (S : Src σ i d r x w) (hw : w.length < 200) : ∃ σ', F_signs [.ref i] σ = .ok (.tup [found (sgn false w).2, .bool (sgn false w).1]) σ' ∧ Src σ' i d r x (sgn false w).2.tail ∧ Keeps r σ σ' := by
  obtain ⟨σ₁, e, S₁, K₁⟩ := F_skip_ok S hw
  obtain ⟨σ', e', S', K'⟩ := signs_loop 200 w false σ₁ S₁ hw hw
  refine ⟨σ', ?_, S', K₁.trans K'⟩
  simp [F_signs, m_signs, e]
  rw [e']
  simp
noncomputable def kwM (c k : Nat) : Bool := (c : Int) == (k : Int) || (c : Int) == (k : Int) - 32
theorem Src.setO {σ : Store} {i d r x j : Nat} {w : List Nat} {o : AO} (S : Src σ i d r x w) (hi : j ≠ i) (hd : j ≠ d) (hr : j ≠ r) : Src (List.set σ j o) i d r x w :=
  ⟨by rw [List.getElem?_set_ne hi]; exact S.inst, by rw [List.getElem?_set_ne hd]; exact S.ns, by rw [List.getElem?_set_ne hr]; exact S.rest, S.ir, S.dr, S.small⟩
theorem Keeps.app_set {r : Nat} {σ σ' : Store} {l : Store} {j : Nat} {o : AO} (K : Keeps r (σ ++ l) σ') (hj : σ.length ≤ j) : Keeps r σ (List.set σ' j o) :=
  ⟨by simpa using Nat.le_trans (by simp) K.len, fun y hy hr => by rw [List.getElem?_set_ne (by lia), K.old y (by simp; lia) hr, List.getElem?_append_left hy]⟩
theorem Keeps.cut {r : Nat} {σ σ' l : Store} (K : Keeps r (σ ++ l) σ') : Keeps r σ σ' := Keeps.app.trans K
theorem F_keyword_ok {σ : Store} {i d r x c1 c2 k1 k2 : Nat} {w : List Nat} (S : Src σ i d r x (c1 :: c2 :: w)) (hw : w.length < 190) (h1 : c1 ≤ 255) (h2 : c2 ≤ 255) (n1 : c1 ≠ 32) (n2 : c2 ≠ 32) :
    ∃ σ', F_keyword [.ref i, .str [k1, k2]] σ = .ok (.bool (kwM c1 k1 && kwM c2 k2)) σ' ∧ Src σ' i d r x (if kwM c1 k1 && kwM c2 k2 then w else c1 :: c2 :: w) ∧ Keeps r σ σ' := by
  have li := (List.getElem?_eq_some_iff.mp S.inst).1
  have ld := (List.getElem?_eq_some_iff.mp S.ns).1
  have lr := (List.getElem?_eq_some_iff.mp S.rest).1
  have S0 := S.app [AO.list []]
  have hh : (σ ++ [AO.list []])[σ.length]? = some (AO.list []) := by simp
  obtain ⟨σ1, e1, S1, K1⟩ := F_rx_ok S0
  have hh1 : σ1[σ.length]? = some (AO.list []) := K1.get hh (by lia)
  have C1 := catOf_ne n1
  have C2 := catOf_ne n2
  rw [found_cons, C1] at e1
  simp only [List.tail_cons] at S1
  have sp1 := F_spells_ok c1 k1 σ1
  rw [tokAV_eq, C1] at sp1
  cases m1 : kwM c1 k1 with
  | false =>
    obtain ⟨σ2, e2, S2, K2⟩ := F_unread_ok (v := c2 :: w) S1 h1 (by simp; lia)
    rw [found_cons, C1] at e2
    have hh2 : σ2[σ.length]? = some (AO.list []) := K2.get hh1 (by lia)
    refine ⟨σ2 ++ [AO.list []], ?_, by simpa using S2.app _, Keeps.app.trans (K1.trans (K2.trans .app))⟩
    rw [show (((c1 : Int) == (k1 : Int)) || ((c1 : Int) == (k1 : Int) - 32)) = false from m1] at sp1
    simp [F_keyword, m_keyword]
    unfold mWhileF
    simp [hh, e1, hh1, S0.rx, sp1, e2, mForL, mRev, hh2]
    unfold mForF
    simp [listItem]
  | true =>
    rw [show (((c1 : Int) == (k1 : Int)) || ((c1 : Int) == (k1 : Int) - 32)) = true from m1] at sp1
    have lh1 := (List.getElem?_eq_some_iff.mp hh1).1
    have S1' := S1.setO (j := σ.length) (o := AO.list [AV.tup [.int 12, .int (c1 : Int)]]) (by lia) (by lia) (by lia)
    have K1' := K1.app_set (j := σ.length) (o := AO.list [AV.tup [.int 12, .int (c1 : Int)]]) (Nat.le_refl _)
    have hh1' : (List.set σ1 σ.length (AO.list [AV.tup [.int 12, .int (c1 : Int)]]))[σ.length]? = some (AO.list [AV.tup [.int 12, .int (c1 : Int)]]) := by simp [lh1]
    obtain ⟨σ2, e2, S2, K2⟩ := F_rx_ok S1'
    have hh2 : σ2[σ.length]? = some (AO.list [AV.tup [.int 12, .int (c1 : Int)]]) := K2.get hh1' (by lia)
    have lh2 := (List.getElem?_eq_some_iff.mp hh2).1
    rw [found_cons, C2] at e2
    simp only [List.tail_cons] at S2
    have sp2 := F_spells_ok c2 k2 σ2
    rw [tokAV_eq, C2] at sp2
    cases m2 : kwM c2 k2 with
    | true =>
      rw [show (((c2 : Int) == (k2 : Int)) || ((c2 : Int) == (k2 : Int) - 32)) = true from m2] at sp2
      refine ⟨List.set σ2 σ.length (AO.list [AV.tup [.int 12, .int (c1 : Int)], AV.tup [.int 12, .int (c2 : Int)]]), ?_, by simpa using S2.setO (by lia) (by lia) (by lia), (show Keeps r (σ ++ []) σ2 by simpa using K1'.trans K2).app_set (Nat.le_refl _)⟩
      simp [F_keyword, m_keyword]
      unfold mWhileF
      simp [hh, e1, hh1, S0.rx, sp1, mAppend, isList]
      unfold mWhileF
      simp [hh1', S1'.rx, e2, sp2, hh2, mAppend, isList]
      unfold mWhileF
      simp [lh2]
    | false =>
      rw [show (((c2 : Int) == (k2 : Int)) || ((c2 : Int) == (k2 : Int) - 32)) = false from m2] at sp2
      obtain ⟨σ3, e3, S3, K3⟩ := F_unread_ok (v := w) S2 h2 (by lia)
      rw [found_cons, C2] at e3
      have hh3 : σ3[σ.length]? = some (AO.list [AV.tup [.int 12, .int (c1 : Int)]]) := K3.get hh2 (by lia)
      have S3' := S3.app [AO.list [AV.tup [.int 12, .int (c1 : Int)]]]
      obtain ⟨σ4, e4, S4, K4⟩ := F_back_ok S3' h1 (by simp; lia)
      have hl4 : σ4[σ3.length]? = some (AO.list [AV.tup [.int 12, .int (c1 : Int)]]) := K4.get (by simp) (by have := (List.getElem?_eq_some_iff.mp S3.rest).1; lia)
      refine ⟨σ4, ?_, by simpa using S4, K1'.trans (K2.trans (K3.trans K4.cut))⟩
      rw [tokAV_eq, C1] at e4
      simp [F_keyword, m_keyword]
      unfold mWhileF
      simp [hh, e1, hh1, S0.rx, sp1, mAppend, isList]
      unfold mWhileF
      simp [hh1', S1'.rx, e2, sp2, hh2, e3, mForL, mRev, hh3]
      unfold mForF
      simp [listItem, tgName, S3'.bk, e4]
      unfold mForF
      simp [listItem, hl4]
end

/- P8 -/
noncomputable def ftok : List Nat → AV
  | [] => .none
  | c :: _ => .tup [.int (catOf c), .int (c : Int)]
noncomputable def fsort : List Nat → Int
  | [] => 99
  | c :: _ => catOf c
noncomputable def fcode : List Nat → Int
  | [] => 0
  | c :: _ => c
theorem found_eq (w : List Nat) : found w = .tup [ftok w, .int (fsort w), .int (fcode w)] := by
  cases w with
  | nil => rfl
  | cons c w => exact found_cons c w
noncomputable def dig : List Nat → Int
  | [] => -1
  | c :: _ => digitOf c
theorem F_digit_found (w : List Nat) (σ : Store) : F_digit_of [ftok w, .int 10] σ = .ok (.int (dig w)) σ := by
  cases w with
  | nil => exact F_digit_of_none σ
  | cons c w =>
    have := F_digit_of_ok c σ
    rw [tokAV_eq] at this
    exact this
noncomputable def hd1 (w : List Nat) (k : Nat) : Bool := match w with
  | [] => false
  | c :: _ => c == k
theorem hdEq {c k : Nat} (h : k ≠ 32) : (catOf c == 12 && (c : Int) == (k : Int)) = (c == k) := by
  by_cases e : c = k
  · subst e
    simp [catOf, h]
  · have : ((c : Int) == (k : Int)) = false := by simp; lia
    rw [this, Bool.and_false]
    simp [e]
theorem fe_POINT {σ : Store} (w : List Nat) : eqA σ (ftok w) V_POINT = some (hd1 w 46) := by
  cases w with
  | nil => rfl
  | cons c w => exact (eq_POINT _ _).trans (congrArg some (hdEq (k := 46) (by decide)))
theorem fe_COMMA {σ : Store} (w : List Nat) : eqA σ (ftok w) V_COMMA = some (hd1 w 44) := by
  cases w with
  | nil => rfl
  | cons c w => exact (eq_COMMA _ _).trans (congrArg some (hdEq (k := 44) (by decide)))
theorem fe_BQ {σ : Store} (w : List Nat) : eqA σ (ftok w) V_BACK_QUOTE = some (hd1 w 96) := by
  cases w with
  | nil => rfl
  | cons c w => exact (eq_BQ _ _).trans (congrArg some (hdEq (k := 96) (by decide)))
theorem fe_OCT {σ : Store} (w : List Nat) : eqA σ (ftok w) V_OCTAL_MARK = some (hd1 w 39) := by
  cases w with
  | nil => rfl
  | cons c w => exact (eq_OCT _ _).trans (congrArg some (hdEq (k := 39) (by decide)))
theorem fe_HEX {σ : Store} (w : List Nat) : eqA σ (ftok w) V_HEXADECIMAL_MARK = some (hd1 w 34) := by
  cases w with
  | nil => rfl
  | cons c w => exact (eq_HEX _ _).trans (congrArg some (hdEq (k := 34) (by decide)))
noncomputable def chs (ds : List Nat) : List Nat := ds.map (· + 48)
theorem dig_chs {d : Nat} {w : List Nat} (h : d < 10) : dig ((d + 48) :: w) = d := by
  have : 48 ≤ d + 48 ∧ d + 48 ≤ 57 := by lia
  simp only [dig, digitOf, this, and_self, if_true]
  lia
/-- no figure stands ahead -/
noncomputable def noDig (w : List Nat) : Prop := dig w = -1
theorem numFrom_le {ds : List Nat} : ∀ {w : Int}, 0 ≤ w → w ≤ numFrom w ds := by
  induction ds with
  | nil => intro w h; exact Int.le_refl _
  | cons d ds ih =>
    intro w h
    have := ih (w := 10 * w + d) (by lia)
    show w ≤ numFrom (10 * w + d) ds
    lia
theorem numFrom_cons (w : Int) (d : Nat) (ds : List Nat) : numFrom w (d :: ds) = numFrom (10 * w + d) ds := rfl
section
theorem wn_loop {i d r x : Nat} {rest : List Nat} (hr : noDig rest) : ∀ (ds : List Nat) (v : Int) (σ : Store) (fuel : Nat), Src σ i d r x (chs ds ++ rest).tail → (∀ d ∈ ds, d < 10) → 0 ≤ v → numFrom v ds ≤ 2147483647 → ds.length < fuel → ∃ σ',
    mWhileF (mOp2 oGe (mLoc 3) (mVal (.int 0))) (mSeq (mSet 4 (mOp2 oAdd (mOp2 oMul (mLoc 2) (mLoc 4)) (mLoc 3))) (mSeq (mIfS (mOp2 oGt (mLoc 4) (mVal (.int 2147483647))) (mStuckS) (mNil)) (mSeq (mSet 1 (mMeth 544 "read_expanded" F_read_expanded (mLoc 0) [])) (mSeq (mSet 3 (mCall F_digit_of [mOp2 oItem (mLoc 1) (mVal (.int 0)), mLoc 2])) (mNil))))) fuel
      [some (.ref i), some (found (chs ds ++ rest)), some (.int 10), some (.int (dig (chs ds ++ rest))), some (.int v), none, none, none, none, none] σ
      = .ok (.next, [some (.ref i), some (found rest), some (.int 10), some (.int (-1)), some (.int (numFrom v ds)), none, none, none, none, none]) σ' ∧ Src σ' i d r x rest.tail ∧ Keeps r σ σ'
  | [], v, σ, fuel, S, hd, h0, hm, hf => by
    obtain ⟨fuel, rfl⟩ : ∃ n, fuel = n + 1 := ⟨fuel - 1, by simp at hf; lia⟩
    refine ⟨σ, ?_, S, .refl⟩
    have hr' : dig rest = -1 := hr
    unfold mWhileF
    simp [chs, hr', numFrom]
  | dd :: ds, v, σ, fuel, S, hd, h0, hm, hf => by
    obtain ⟨fuel, rfl⟩ : ∃ n, fuel = n + 1 := ⟨fuel - 1, by simp at hf; lia⟩
    have hdd : dd < 10 := hd dd (.head _)
    rw [numFrom_cons] at hm
    have hle : 10 * v + dd ≤ 2147483647 := Int.le_trans (numFrom_le (by lia)) hm
    have hle' : ¬ 2147483647 < 10 * v + (dd : Int) := by lia
    obtain ⟨σ₁, e₁, S₁, K₁⟩ := F_rx_ok S
    obtain ⟨σ', e', S', K'⟩ := wn_loop hr ds (10 * v + dd) σ₁ fuel S₁ (fun z hz => hd z (.tail _ hz)) (by lia) hm (by simp at hf; lia)
    refine ⟨σ', ?_, S', K₁.trans K'⟩
    have e₁' : F_read_expanded [AV.ref i] σ = Res.ok (found (chs ds ++ rest)) σ₁ := e₁
    have hg : dig (chs (dd :: ds) ++ rest) = dd := dig_chs hdd
    unfold mWhileF
    rw [hg]
    rw [found_eq (chs ds ++ rest)] at e₁' e'
    simp [mulOk_l (a := 10) (b := v) (by decide), hle', S.rx, e₁', F_digit_found]
    rw [e']
    simp [numFrom_cons]
theorem F_wn_ok {σ : Store} {i d r x : Nat} {rest ds : List Nat} (hr : noDig rest) (S : Src σ i d r x (chs ds ++ rest).tail) (hd : ∀ d ∈ ds, d < 10) (h0 : ds ≠ []) (hm : numFrom 0 ds ≤ 2147483647) (hl : ds.length < 190) :
    ∃ σ', F_written_number [.ref i, found (chs ds ++ rest)] σ = .ok (.tup [.int (numFrom 0 ds), .int 10, found rest]) σ' ∧ Src σ' i d r x rest.tail ∧ Keeps r σ σ' := by
  obtain ⟨σ', e', S', K'⟩ := wn_loop hr ds 0 σ 200 S hd (by decide) hm (by lia)
  refine ⟨σ', ?_, S', K'⟩
  obtain ⟨dd, ds, rfl⟩ : ∃ a l, ds = a :: l := by
    cases ds with
    | nil => exact absurd rfl h0
    | cons a l => exact ⟨a, l, rfl⟩
  have hdd : dd < 10 := hd dd (.head _)
  have hg : dig (chs (dd :: ds) ++ rest) = dd := dig_chs hdd
  have n39 : hd1 (chs (dd :: ds) ++ rest) 39 = false := by simp [chs, hd1]
  have n34 : hd1 (chs (dd :: ds) ++ rest) 34 = false := by simp [chs, hd1]
  rw [hg] at e'
  rw [found_eq (chs (dd :: ds) ++ rest)] at e' ⊢
  have hn : ¬ (dd : Int) < 0 := by lia
  simp [F_written_number, m_written_number, fe_OCT, fe_HEX, n39, n34, F_digit_found, hg, hn]
  rw [e']
  simp
end

/- P9 -/
theorem sgn_stop {c : Nat} {w : List Nat} (b : Bool) (h1 : c ≠ 32) (h2 : c ≠ 43) (h3 : c ≠ 45) : sgn b (c :: w) = (b, c :: w) := by simp [sgn, h1, h2, h3]
theorem sgn_chs {ds : List Nat} {w : List Nat} (b : Bool) (h : ds ≠ []) : sgn b (chs ds ++ w) = (b, chs ds ++ w) := by
  cases ds with
  | nil => exact absurd rfl h
  | cons d ds =>
    have h1 : d + 48 ≠ 32 := by lia
    have h2 : d + 48 ≠ 43 := by lia
    have h3 : d + 48 ≠ 45 := by lia
    exact sgn_stop b h1 h2 h3
theorem fsort_ne (w : List Nat) : fsort w ≠ 77 := by
  cases w with
  | nil => decide
  | cons c w =>
    show catOf c ≠ 77
    unfold catOf
    split <;> decide
theorem fsort_10 (w : List Nat) : (fsort w == 10) = hd1 w 32 := by
  cases w with
  | nil => rfl
  | cons c w =>
    show (catOf c == 10) = (c == 32)
    unfold catOf
    by_cases h : c = 32 <;> simp [h]
theorem dropOne_eq (w : List Nat) : dropOne w = if hd1 w 32 then w.tail else w := by
  cases w with
  | nil => rfl
  | cons c w => by_cases h : c = 32 <;> simp [dropOne, hd1, h]
theorem srcFs_q (r x : Nat) : fld (srcFs r x) "quantity" = none := (srcFs_meth r x).2.2.2.2.1
theorem srcFs_rx (r x : Nat) : fld (srcFs r x) "read_expanded" = none := (srcFs_meth r x).2.1
theorem hd1_chs {ds w : List Nat} {k : Nat} (h : ds ≠ []) (hk : k < 48) : hd1 (chs ds ++ w) k = false := by
  cases ds with
  | nil => exact absurd rfl h
  | cons d ds =>
    show (d + 48 == k) = false
    simp; lia
theorem intL_snoc (ds : List Nat) (d : Nat) : intL ds ++ [AV.int (d : Int)] = intL (ds ++ [d]) := by simp [intL]
section
theorem F_np_ok {σ : Store} {i d r x : Nat} {rest ds : List Nat} (hr : noDig rest) (S : Src σ i d r x (chs ds ++ rest)) (hd : ∀ d ∈ ds, d < 10) (h0 : ds ≠ []) (hm : numFrom 0 ds ≤ 2147483647) (hl : (chs ds ++ rest).length < 190) :
    ∃ σ', F_number_parts [.ref i] σ = .ok (.tup [.int (numFrom 0 ds), .int 10, found rest]) σ' ∧ Src σ' i d r x rest.tail ∧ Keeps r σ σ' := by
  obtain ⟨σ1, e1, S1, K1⟩ := F_signs_ok S (by lia)
  rw [sgn_chs false h0] at e1 S1
  obtain ⟨σ2, e2, S2, K2⟩ := F_wn_ok hr S1 hd h0 hm (by simp [chs] at hl; lia)
  refine ⟨σ2, ?_, S2, K1.trans K2⟩
  have n96 : hd1 (chs ds ++ rest) 96 = hd1 (chs ds ++ rest) 96 := rfl
  have hq := fun σ => F_quantity_ok (σ := σ) (i := i) (fsort (chs ds ++ rest)) (.int (fcode (chs ds ++ rest))) (fsort_ne _)
  have n96 : hd1 (chs ds ++ rest) 96 = false := by
    cases ds with
    | nil => exact absurd rfl h0
    | cons d ds =>
      have := hd d (.head _)
      show (d + 48 == 96) = false
      simp; lia
  rw [found_eq (chs ds ++ rest)] at e1 e2
  simp only [found_eq rest] at e2 ⊢
  simp [F_number_parts, m_number_parts, e1, fe_BQ, n96, S1.qt, hq, e2]
theorem dc_loop {i d r x h : Nat} {rest : List Nat} (hr : noDig rest) (hi : h ≠ i) (hd' : h ≠ d) (hh : h ≠ r) : ∀ (ds done : List Nat) (σ : Store) (fuel : Nat), Src σ i d r x (chs ds ++ rest).tail → σ[h]? = some (.list (intL (done.take 17))) → (∀ d ∈ ds, d < 10) → ds.length < fuel → ∃ σ',
    mWhileF (mOp2 oGe (mLoc 3) (mVal (.int 0))) (mSeq (mIfS (mOp2 oLt (mCall F_lenA [mLoc 1]) (mVal (.int 17))) (mSeq (mExpr (mAppend (mLoc 1) (mLoc 3))) (mNil)) (mNil)) (mSeq (mSet 2 (mMeth 544 "read_expanded" F_read_expanded (mLoc 0) [])) (mSeq (mSet 3 (mCall F_digit_of [mOp2 oItem (mLoc 2) (mVal (.int 0)), mVal (.int 10)])) (mNil)))) fuel
      [some (.ref i), some (.ref h), some (found (chs ds ++ rest)), some (.int (dig (chs ds ++ rest))), none, none, none, none, none, none] σ
      = .ok (.next, [some (.ref i), some (.ref h), some (found rest), some (.int (-1)), none, none, none, none, none, none]) σ' ∧ Src σ' i d r x rest.tail ∧ σ'[h]? = some (.list (intL ((done ++ ds).take 17))) ∧ σ.length ≤ σ'.length ∧ (∀ j, j < σ.length → j ≠ r → j ≠ h → σ'[j]? = σ[j]?)
  | [], done, σ, fuel, S, hL, hd, hf => by
    obtain ⟨fuel, rfl⟩ : ∃ n, fuel = n + 1 := ⟨fuel - 1, by simp at hf; lia⟩
    refine ⟨σ, ?_, S, by simpa using hL, Nat.le_refl _, fun _ _ _ _ => rfl⟩
    have hr' : dig rest = -1 := hr
    unfold mWhileF
    simp [chs, hr', numFrom]
  | dd :: ds, done, σ, fuel, S, hL, hd, hf => by
    obtain ⟨fuel, rfl⟩ : ∃ n, fuel = n + 1 := ⟨fuel - 1, by simp at hf; lia⟩
    have hdd : dd < 10 := hd dd (.head _)
    have hg : dig (chs (dd :: ds) ++ rest) = dd := dig_chs hdd
    have hlen : (intL (done.take 17)).length = min 17 done.length := by simp [intL]
    by_cases h17 : done.length < 17
    · have S0 := S.setO (j := h) (o := AO.list (intL ((done ++ [dd]).take 17))) hi hd' hh
      have lh := (List.getElem?_eq_some_iff.mp hL).1
      have ht : (done ++ [dd]).take 17 = done ++ [dd] := List.take_of_length_le (by simp; lia)
      have ht0 : done.take 17 = done := List.take_of_length_le (by lia)
      obtain ⟨σ₁, e₁, S₁, K₁⟩ := F_rx_ok S0
      have hL0 : (List.set σ h (AO.list (intL ((done ++ [dd]).take 17))))[h]? = some (AO.list (intL ((done ++ [dd]).take 17))) := by simp [lh]
      have hL1 := K₁.get hL0 hh
      obtain ⟨σ', e', S', hL', hlen', hk'⟩ := dc_loop hr hi hd' hh ds (done ++ [dd]) σ₁ fuel S₁ hL1 (fun z hz => hd z (.tail _ hz)) (by simp at hf; lia)
      refine ⟨σ', ?_, S', by simpa using hL', Nat.le_trans (by simpa using K₁.len) hlen', fun j hj h1 h2 => ?_⟩
      · have e₁' : F_read_expanded [AV.ref i] (List.set σ h (AO.list (intL ((done ++ [dd]).take 17)))) = Res.ok (found (chs ds ++ rest)) σ₁ := e₁
        unfold mWhileF
        rw [hg]
        rw [found_eq (chs ds ++ rest)] at e₁' e'
        rw [ht] at e₁' S0
        rw [ht0] at hL
        have hl2 : (intL done).length = done.length := by simp [intL]
        have hl3 : done.length ≤ 100000 := by lia
        have hl4 : (done.length : Int) < 17 := by lia
        simp [hL, hl2, hl3, hl4, mAppend, isList, intL_snoc, S0.rx, e₁', F_digit_found]
        rw [e']
      · rw [hk' j (Nat.lt_of_lt_of_le (by simpa using hj) K₁.len) h1 h2, K₁.old j (by simpa using hj) h1, List.getElem?_set_ne (by lia)]
    · have ht : (done ++ [dd]).take 17 = done.take 17 := by rw [List.take_append_of_le_length (by lia)]
      obtain ⟨σ₁, e₁, S₁, K₁⟩ := F_rx_ok S
      have hL1 := K₁.get hL hh
      obtain ⟨σ', e', S', hL', hlen', hk'⟩ := dc_loop hr hi hd' hh ds (done ++ [dd]) σ₁ fuel S₁ (by rw [ht]; exact hL1) (fun z hz => hd z (.tail _ hz)) (by simp at hf; lia)
      refine ⟨σ', ?_, S', by simpa using hL', Nat.le_trans K₁.len hlen', fun j hj h1 h2 => ?_⟩
      · have e₁' : F_read_expanded [AV.ref i] σ = Res.ok (found (chs ds ++ rest)) σ₁ := e₁
        unfold mWhileF
        rw [hg]
        rw [found_eq (chs ds ++ rest)] at e₁' e'
        have hl5 : (intL (done.take 17)).length = 17 := by lia
        generalize intL (done.take 17) = L at *
        simp [hL, hl5, S.rx, e₁', F_digit_found]
        rw [e']
      · rw [hk' j (Nat.lt_of_lt_of_le hj K₁.len) h1 h2, K₁.old j hj h1]
end

/- P10 -/
theorem V_noDig46 (w : List Nat) : noDig (46 :: w) := by show digitOf 46 = -1; decide
theorem V_noDig44 (w : List Nat) : noDig (44 :: w) := by show digitOf 44 = -1; decide
theorem fie (w : List Nat) : noneP (ftok w) = some (match w with | [] => true | _ => false) := by cases w <;> rfl
theorem hd1_cons (c k : Nat) (w : List Nat) : hd1 (c :: w) k = (c == k) := rfl
theorem noneP_found (w : List Nat) : noneP (found w) = some false := by cases w <;> rfl
section
theorem F_decimals_ok {σ : Store} {i d r x : Nat} {rest es : List Nat} (hr : noDig rest) (S : Src σ i d r x (chs es ++ rest)) (hd : ∀ d ∈ es, d < 10) (hl : (chs es ++ rest).length < 190) (hc : ∀ c ∈ rest, c ≤ 255) :
    ∃ σ', F_decimals [.ref i] σ = .ok (.int (fracOf (es.take 17))) σ' ∧ Src σ' i d r x (dropOne rest) ∧ Keeps r σ σ' := by
  have li := (List.getElem?_eq_some_iff.mp S.inst).1
  have ld := (List.getElem?_eq_some_iff.mp S.ns).1
  have lr := (List.getElem?_eq_some_iff.mp S.rest).1
  have S0 := S.app [AO.list []]
  have hh : (σ ++ [AO.list []])[σ.length]? = some (AO.list []) := by simp
  obtain ⟨σ1, e1, S1, K1⟩ := F_rx_ok S0
  have hh1 : σ1[σ.length]? = some (AO.list []) := K1.get hh (by lia)
  have hle : es.length < 200 := by simp [chs] at hl; lia
  obtain ⟨σ2, e2, S2, hL2, hlen2, hk2⟩ := dc_loop (h := σ.length) hr (by lia) (by lia) (by lia) es [] σ1 200 S1 hh1 hd hle
  simp only [List.nil_append] at hL2
  have K2 : Keeps r σ σ2 := ⟨Nat.le_trans (by simp) (Nat.le_trans K1.len hlen2), fun j hj h1 => by rw [hk2 j (Nat.lt_of_lt_of_le (by simp; lia) K1.len) h1 (by lia), K1.old j (by simp; lia) h1, List.getElem?_append_left hj]⟩
  have ht : (es.take 17).take 17 = es.take 17 := List.take_of_length_le (List.length_take_le ..)
  have htl : (es.take 17).length ≤ 100000 := by have := List.length_take_le 17 es; lia
  by_cases hb : hd1 rest 32 = true
  · have f3 := F_from_decimals_ok (es.take 17) hL2 (fun d hd' => hd d (List.mem_of_mem_take hd')) htl
    rw [ht] at f3
    refine ⟨σ2 ++ [AO.list (intL (es.take 17))], ?_, by rw [dropOne_eq, hb, if_pos rfl]; exact S2.app _, K2.trans .app⟩
    rw [found_eq (chs es ++ rest)] at e1 e2
    rw [found_eq rest] at e2
    simp [F_decimals, m_decimals, S0.rx, e1, F_digit_found]
    rw [e2]
    simp [fsort_10, hb, f3]
  · obtain ⟨σ3, e3, S3, K3⟩ := F_unread_gen S2 hc (by simp at hl; lia)
    have hL3 := K3.get hL2 (by lia)
    have f3 := F_from_decimals_ok (es.take 17) hL3 (fun d hd' => hd d (List.mem_of_mem_take hd')) htl
    rw [ht] at f3
    have hb' : hd1 rest 32 = false := by simpa using hb
    refine ⟨σ3 ++ [AO.list (intL (es.take 17))], ?_, by rw [dropOne_eq, hb', if_neg Bool.false_ne_true]; exact S3.app _, K2.trans (K3.trans .app)⟩
    rw [found_eq (chs es ++ rest)] at e1 e2
    rw [found_eq rest] at e2 e3
    simp [F_decimals, m_decimals, S0.rx, e1, F_digit_found]
    rw [e2]
    simp [fsort_10, hb', e3, f3]
/-- a mark alone, and figures behind it -/
theorem F_factor_A {σ : Store} {i d r x mk : Nat} {rest es : List Nat} (hmk : mk = 46 ∨ mk = 44) (hr : noDig rest) (S : Src σ i d r x (chs es ++ rest)) (hd : ∀ d ∈ es, d < 10) (hl : (chs es ++ rest).length < 190) (hc : ∀ c ∈ rest, c ≤ 255) :
    ∃ σ', F_factor [.ref i, found (mk :: (chs es ++ rest))] σ = .ok (.tup [.int 0, .int (fracOf (es.take 17))]) σ' ∧ Src σ' i d r x (dropOne rest) ∧ Keeps r σ σ' := by
  obtain ⟨σ', e', S', K'⟩ := F_decimals_ok hr S hd hl hc
  refine ⟨σ', ?_, S', K'⟩
  rw [found_eq]
  rcases hmk with rfl | rfl <;> simp [F_factor, m_factor, fe_POINT, fe_COMMA, hd1_cons, e']
/-- figures, a mark and figures behind it -/
theorem F_factor_B {σ : Store} {i d r x mk : Nat} {rest ds es : List Nat} (hmk : mk = 46 ∨ mk = 44) (hr : noDig rest) (S : Src σ i d r x (chs ds ++ mk :: (chs es ++ rest)).tail) (h0 : ds ≠ []) (hds : ∀ d ∈ ds, d < 10) (hm : numFrom 0 ds ≤ 2147483647) (hd : ∀ d ∈ es, d < 10) (hl : (chs ds ++ mk :: (chs es ++ rest)).length < 190) (hc : ∀ c ∈ rest, c ≤ 255) :
    ∃ σ', F_factor [.ref i, found (chs ds ++ mk :: (chs es ++ rest))] σ = .ok (.tup [.int (numFrom 0 ds), .int (fracOf (es.take 17))]) σ' ∧ Src σ' i d r x (dropOne rest) ∧ Keeps r σ σ' := by
  have hnd : noDig (mk :: (chs es ++ rest)) := by rcases hmk with rfl | rfl; exact V_noDig46 _; exact V_noDig44 _
  have hc2 : ∀ c ∈ chs ds ++ mk :: (chs es ++ rest), c ≤ 255 := by
    intro c hm
    rcases List.mem_append.mp hm with h | h
    · obtain ⟨a, ha, rfl⟩ := List.mem_map.mp h
      have := hds a ha; lia
    · rcases List.mem_cons.mp h with h | h
      · lia
      · rcases List.mem_append.mp h with h | h
        · obtain ⟨a, ha, rfl⟩ := List.mem_map.mp h
          have := hd a ha; lia
        · exact hc c h
  obtain ⟨σ1, e1, S1, K1⟩ := F_unread_gen S hc2 (by lia)
  obtain ⟨σ2, e2, S2, K2⟩ := F_np_ok hnd S1 hds h0 hm hl
  obtain ⟨σ3, e3, S3, K3⟩ := F_decimals_ok hr S2 hd (by simp at hl ⊢; lia) hc
  refine ⟨σ3, ?_, S3, K1.trans (K2.trans K3)⟩
  have a46 : hd1 (chs ds ++ mk :: (chs es ++ rest)) 46 = false := hd1_chs h0 (by decide)
  have a44 : hd1 (chs ds ++ mk :: (chs es ++ rest)) 44 = false := hd1_chs h0 (by decide)
  rw [found_eq] at e1 ⊢
  rw [found_eq (mk :: (chs es ++ rest))] at e2
  rcases hmk with rfl | rfl <;> simp [F_factor, m_factor, fe_POINT, fe_COMMA, a46, a44, e1, e2, hd1_cons, e3]
/-- figures alone -/
theorem F_factor_C {σ : Store} {i d r x : Nat} {rest ds : List Nat} (hr : noDig rest) (r46 : hd1 rest 46 = false) (r44 : hd1 rest 44 = false) (S : Src σ i d r x (chs ds ++ rest).tail) (h0 : ds ≠ []) (hds : ∀ d ∈ ds, d < 10) (hm : numFrom 0 ds ≤ 2147483647) (hl : (chs ds ++ rest).length < 190) (hc : ∀ c ∈ rest, c ≤ 255) :
    ∃ σ', F_factor [.ref i, found (chs ds ++ rest)] σ = .ok (.tup [.int (numFrom 0 ds), .int 0]) σ' ∧ Src σ' i d r x (dropOne rest) ∧ Keeps r σ σ' := by
  have hc2 : ∀ c ∈ chs ds ++ rest, c ≤ 255 := by
    intro c hm
    rcases List.mem_append.mp hm with h | h
    · obtain ⟨a, ha, rfl⟩ := List.mem_map.mp h
      have := hds a ha; lia
    · exact hc c h
  obtain ⟨σ1, e1, S1, K1⟩ := F_unread_gen S hc2 (by lia)
  obtain ⟨σ2, e2, S2, K2⟩ := F_np_ok hr S1 hds h0 hm hl
  have a46 : hd1 (chs ds ++ rest) 46 = false := hd1_chs h0 (by decide)
  have a44 : hd1 (chs ds ++ rest) 44 = false := hd1_chs h0 (by decide)
  rw [found_eq] at e1 ⊢
  by_cases hb : hd1 rest 32 = true
  · refine ⟨σ2, ?_, by rw [dropOne_eq, hb, if_pos rfl]; exact S2, K1.trans K2⟩
    rw [found_eq rest] at e2
    simp [F_factor, m_factor, fe_POINT, fe_COMMA, a46, a44, e1, e2, r46, r44, fsort_10, hb]
  · obtain ⟨σ3, e3, S3, K3⟩ := F_unread_gen S2 hc (by simp at hl; lia)
    have hb' : hd1 rest 32 = false := by simpa using hb
    refine ⟨σ3, ?_, by rw [dropOne_eq, hb', if_neg Bool.false_ne_true]; exact S3, K1.trans (K2.trans K3)⟩
    rw [found_eq rest] at e2 e3
    simp [F_factor, m_factor, fe_POINT, fe_COMMA, a46, a44, e1, e2, r46, r44, fsort_10, hb', e3]
end

/- P11 -/
/-- a length of the bounds, or the exception -/
noncomputable def rD (v : Int) (σ : Store) : Res AV := if v ≤ 1073741823 then .ok (.int v) σ else .exc 108 σ
theorem rD_of {v : Int} (h : 0 ≤ v) (σ : Store) : (if -1073741823 ≤ v ∧ v ≤ 1073741823 then Res.ok (.int v) σ else .exc 108 σ) = rD v σ := by
  unfold rD
  by_cases hv : v ≤ 1073741823
  · rw [if_pos ⟨by lia, hv⟩, if_pos hv]
  · rw [if_neg (fun h => hv h.2), if_neg hv]
/-- the length of whole and part of a unit of up over down points -/
noncomputable def convV (whole part up down : Int) : Int := (up * (65536 * whole + part)).fdiv down
noncomputable def measV (whole part size : Int) : Int := whole * size + (size * part).fdiv 65536
theorem convV_split {whole part up down : Int} (hd : 0 < down) : convV whole part up down = 65536 * (whole * up).fdiv down + (up * part + 65536 * (whole * up).fmod down).fdiv down := by
  unfold convV
  rw [Int.fdiv_eq_ediv_of_nonneg _ (Int.le_of_lt hd), Int.fdiv_eq_ediv_of_nonneg _ (Int.le_of_lt hd), Int.fdiv_eq_ediv_of_nonneg _ (Int.le_of_lt hd), Int.fmod_eq_emod_of_nonneg _ (Int.le_of_lt hd)]
  have h := Int.mul_ediv_add_emod (whole * up) down
  have e : up * (65536 * whole + part) = (up * part + 65536 * ((whole * up) % down)) + (65536 * ((whole * up) / down)) * down := by
    have : up * (65536 * whole + part) = 65536 * (whole * up) + up * part := by grind
    rw [this]
    have h2 : 65536 * (whole * up) = 65536 * (down * ((whole * up) / down) + (whole * up) % down) := by rw [h]
    rw [h2]
    grind
  rw [e, Int.add_mul_ediv_right _ _ (by lia)]
  lia
theorem fdiv_nonneg {a b : Int} (ha : 0 ≤ a) (hb : 0 < b) : 0 ≤ a.fdiv b := by
  rw [Int.fdiv_eq_ediv_of_nonneg _ (Int.le_of_lt hb)]
  exact Int.ediv_nonneg ha (Int.le_of_lt hb)
theorem fmod_nonneg {a b : Int} (hb : 0 < b) : 0 ≤ a.fmod b := by
  rw [Int.fmod_eq_emod_of_nonneg _ (Int.le_of_lt hb)]
  exact Int.emod_nonneg _ (by lia)
section
theorem mFn_ret {σ : Store} {v : Int} {ρ : Loc} : ((rD v σ).bind fun a σ => (Res.ok (Fl.ret a, ρ) σ : Res (Fl × Loc))) = (if v ≤ 1073741823 then .ok (.ret (.int v), ρ) σ else .exc 108 σ) := by
  unfold rD
  split <;> rfl
theorem F_times_pos {a b m : Int} {σ : Store} (h : mulOk a b = true) (h0 : 0 ≤ a * b + m) : F_times [.int a, .int b, .int m] σ = rD (a * b + m) σ := by
  rw [F_times_int _ _ _ _ h, rD_of h0]
theorem F_check_dimen_pos {v : Int} {σ : Store} (h0 : 0 ≤ v) : F_check_dimen [.int v] σ = rD v σ := by
  rw [F_check_dimen_int, rD_of h0]
theorem F_attached_ok {p q : Int} {σ : Store} (h0 : 0 ≤ p * 65536 + q) : F_attached [.int p, .int q] σ = rD (p * 65536 + q) σ := by
  simp [F_attached, m_attached, F_times_pos (a := p) (b := 65536) (m := q) (mulOk_r (by decide)) h0]
  unfold rD
  by_cases hc : p * 65536 + q ≤ 1073741823
  · simp only [if_pos hc]; try rfl
  · simp only [if_neg hc]; try rfl
theorem F_converted_ok {whole part up down : Int} {σ : Store} (hw : 0 ≤ whole) (hp : 0 ≤ part) (hu : 0 < up) (hu2 : up ≤ 100000) (hd : 0 < down) (hd2 : down ≤ 100000) :
    F_converted [.int whole, .int part, .int up, .int down] σ = rD (convV whole part up down) σ := by
  have hq := fdiv_nonneg (a := whole * up) (Int.mul_nonneg hw (by lia)) hd
  have hm := fmod_nonneg (a := whole * up) hd
  have hs := convV_split (whole := whole) (part := part) (up := up) hd
  have hx : 0 ≤ (up * part + 65536 * (whole * up).fmod down) := by have := Int.mul_nonneg (Int.le_of_lt hu) hp; lia
  have hy := fdiv_nonneg hx hd
  have hf := F_fraction_int whole up down σ hw (by lia) (by lia) (by lia) (by lia) (mulOk_r (by lia)) (divOk_s (by lia) (by lia))
  by_cases hc : -1073741823 ≤ (whole * up).fdiv down ∧ (whole * up).fdiv down ≤ 1073741823
  · rw [if_pos hc] at hf
    have hz : ((whole * up).fdiv down + (up * part + 65536 * (whole * up).fmod down).fdiv down / 65536) * 65536 + (up * part + 65536 * (whole * up).fmod down).fdiv down % 65536 = convV whole part up down := by rw [hs]; lia
    have ha := F_attached_ok (p := (whole * up).fdiv down + (up * part + 65536 * (whole * up).fmod down).fdiv down / 65536) (q := (up * part + 65536 * (whole * up).fmod down).fdiv down % 65536) (σ := σ) (by rw [hz, hs]; lia)
    rw [hz] at ha
    simp [F_converted, m_converted, hf, mulOk_l (a := up) (b := part) (by lia), mulOk_l (a := 65536) (b := (whole * up).fmod down) (by decide), divOk_s (a := up * part + 65536 * (whole * up).fmod down) (b := down) (by lia) (by lia), divOk_s (a := (up * part + 65536 * (whole * up).fmod down).fdiv down) (b := 65536) (by decide) (by decide)]
    rw [Int.fdiv_eq_ediv_of_nonneg (b := 65536) _ (by decide), Int.fmod_eq_emod_of_nonneg (b := 65536) _ (by decide), ha]
    unfold rD
    by_cases hv : convV whole part up down ≤ 1073741823
    · simp only [if_pos hv]; try rfl
    · simp only [if_neg hv]; try rfl
  · rw [if_neg hc] at hf
    have hv : ¬ convV whole part up down ≤ 1073741823 := by lia
    simp [F_converted, m_converted, hf, rD, hv]
theorem F_measured_ok {whole part size : Int} {σ : Store} (hw : 0 ≤ whole) (hp : 0 ≤ part) (hp2 : part ≤ 65536) (hu : 0 ≤ size) (hu2 : size ≤ 1000000) :
    F_measured [.int whole, .int part, .int size] σ = rD (measV whole part size) σ := by
  have h1 : size * part ≤ 1000000 * 65536 := Int.mul_le_mul hu2 hp2 hp (by decide)
  have h2 : 0 ≤ size * part := Int.mul_nonneg hu hp
  have h3 : (size * part).fdiv 65536 = size * part / 65536 := Int.fdiv_eq_ediv_of_nonneg _ (by decide)
  have hf := F_fraction_int size part 65536 σ hu hp (by lia) (by decide) (by decide) (mulOk_r (by lia)) (divOk_s (by decide) (by decide))
  rw [if_pos ⟨by lia, by lia⟩] at hf
  have h4 : 0 ≤ whole * size := Int.mul_nonneg hw hu
  have ht := F_times_pos (a := whole) (b := size) (m := (size * part).fdiv 65536) (σ := σ) (mulOk_r (by lia)) (by lia)
  simp [F_measured, m_measured, hf, ht]
  show _ = rD (whole * size + (size * part).fdiv 65536) σ
  unfold rD
  by_cases hv : whole * size + (size * part).fdiv 65536 ≤ 1073741823
  · simp only [if_pos hv]; try rfl
  · simp only [if_neg hv]; try rfl
noncomputable def rowAV (u : Nat × Nat × Int × Int) : AV := .tup [.str [u.1, u.2.1], .int u.2.2.1, .int u.2.2.2]
noncomputable def findU (c1 c2 : Nat) : List (Nat × Nat × Int × Int) → Option (Int × Int)
  | [] => none
  | u :: l => if kwM c1 u.1 && kwM c2 u.2.1 then some (u.2.2.1, u.2.2.2) else findU c1 c2 l
theorem wu_loop {i d r x h c1 c2 : Nat} {w : List Nat} {whole part : Int} (hw : 0 ≤ whole) (hp : 0 ≤ part) (hh : h ≠ r) (hlen : w.length < 190) (h1 : c1 ≤ 255) (h2 : c2 ≤ 255) (n1 : c1 ≠ 32) (n2 : c2 ≠ 32) (all : List (Nat × Nat × Int × Int)) : ∀ (us : List (Nat × Nat × Int × Int)) (k fuel : Nat) (x4 x5 x6 : Option AV) (σ : Store), all.drop k = us → us.length < fuel → σ[h]? = some (.list (all.map rowAV)) → Src σ i d r x (c1 :: c2 :: w) → (∀ u ∈ us, 0 < u.2.2.1 ∧ u.2.2.1 ≤ 100000 ∧ 0 < u.2.2.2 ∧ u.2.2.2 ≤ 100000) →
    match findU c1 c2 us with
    | some (u, dn) => ∃ σ' ρ', mForF (listItem h) (tgTup [4, 5, 6]) (mSeq (mIfS (mCall F_keyword [mLoc 0, mLoc 4]) (mSeq (mRet (mCall F_converted [mLoc 1, mLoc 2, mLoc 5, mLoc 6])) (mNil)) (mNil)) (mNil)) fuel k [some (.ref i), some (.int whole), some (.int part), some (.bool false), x4, x5, x6, none, none, none, none, none, none, none, none, none] σ
        = ((rD (convV whole part u dn) σ').bind fun a σ => .ok (.ret a, ρ') σ) ∧ Src σ' i d r x w ∧ Keeps r σ σ'
    | none => ∃ σ' x4' x5' x6', mForF (listItem h) (tgTup [4, 5, 6]) (mSeq (mIfS (mCall F_keyword [mLoc 0, mLoc 4]) (mSeq (mRet (mCall F_converted [mLoc 1, mLoc 2, mLoc 5, mLoc 6])) (mNil)) (mNil)) (mNil)) fuel k [some (.ref i), some (.int whole), some (.int part), some (.bool false), x4, x5, x6, none, none, none, none, none, none, none, none, none] σ
        = .ok (.next, [some (.ref i), some (.int whole), some (.int part), some (.bool false), x4', x5', x6', none, none, none, none, none, none, none, none, none]) σ' ∧ Src σ' i d r x (c1 :: c2 :: w) ∧ Keeps r σ σ'
  | [], k, fuel, x4, x5, x6, σ, hk, hf, hL, S, hus => by
    obtain ⟨fuel, rfl⟩ : ∃ n, fuel = n + 1 := ⟨fuel - 1, by simp at hf; lia⟩
    have hk' : all.length ≤ k := List.drop_eq_nil_iff.mp hk
    refine ⟨σ, x4, x5, x6, ?_, S, .refl⟩
    unfold mForF
    simp [listItem, hL, hk']
  | u :: us, k, fuel, x4, x5, x6, σ, hk, hf, hL, S, hus => by
    obtain ⟨fuel, rfl⟩ : ∃ n, fuel = n + 1 := ⟨fuel - 1, by simp at hf; lia⟩
    have hk1 : all[k]? = some u := by
      have := congrArg (fun l => l[0]?) hk
      simpa using this
    have hk2 : all.drop (k + 1) = us := by
      have := congrArg (fun l => l.drop 1) hk
      simpa [List.drop_drop, Nat.add_comm] using this
    obtain ⟨σ1, e1, S1, K1⟩ := F_keyword_ok (k1 := u.1) (k2 := u.2.1) S hlen h1 h2 n1 n2
    obtain ⟨b1, b2, b3, b4⟩ := hus u (.head _)
    unfold findU
    cases hm : (kwM c1 u.1 && kwM c2 u.2.1) with
    | true =>
      rw [hm] at e1 S1
      refine ⟨σ1, [some (.ref i), some (.int whole), some (.int part), some (.bool false), some (.str [u.1, u.2.1]), some (.int u.2.2.1), some (.int u.2.2.2), none, none, none, none, none, none, none, none, none], ?_, by simpa using S1, K1⟩
      unfold mForF
      simp [listItem, hL, hk1, rowAV, tgTup, e1, F_converted_ok hw hp b1 b2 b3 b4]
      unfold rD
      by_cases hv : convV whole part u.2.2.1 u.2.2.2 ≤ 1073741823
      · simp only [if_pos hv]; try rfl
      · simp only [if_neg hv]; try rfl
    | false =>
      rw [hm] at e1 S1
      have ih := wu_loop hw hp hh hlen h1 h2 n1 n2 all us (k + 1) fuel (some (.str [u.1, u.2.1])) (some (.int u.2.2.1)) (some (.int u.2.2.2)) σ1 hk2 (by simp at hf; lia) (K1.get hL hh) (by simpa using S1) (fun v hv => hus v (.tail _ hv))
      have hstep : mForF (listItem h) (tgTup [4, 5, 6]) (mSeq (mIfS (mCall F_keyword [mLoc 0, mLoc 4]) (mSeq (mRet (mCall F_converted [mLoc 1, mLoc 2, mLoc 5, mLoc 6])) (mNil)) (mNil)) (mNil)) (fuel + 1) k [some (.ref i), some (.int whole), some (.int part), some (.bool false), x4, x5, x6, none, none, none, none, none, none, none, none, none] σ
          = mForF (listItem h) (tgTup [4, 5, 6]) (mSeq (mIfS (mCall F_keyword [mLoc 0, mLoc 4]) (mSeq (mRet (mCall F_converted [mLoc 1, mLoc 2, mLoc 5, mLoc 6])) (mNil)) (mNil)) (mNil)) fuel (k + 1) [some (.ref i), some (.int whole), some (.int part), some (.bool false), some (.str [u.1, u.2.1]), some (.int u.2.2.1), some (.int u.2.2.2), none, none, none, none, none, none, none, none, none] σ1 := by
        conv => lhs; unfold mForF
        simp [listItem, hL, hk1, rowAV, tgTup, e1]
      rw [hstep]
      rw [if_neg Bool.false_ne_true]
      cases hfu : findU c1 c2 us with
      | none =>
        rw [hfu] at ih
        obtain ⟨σ', y4, y5, y6, e, S', K'⟩ := ih
        exact ⟨σ', y4, y5, y6, e, S', K1.trans K'⟩
      | some ud =>
        rw [hfu] at ih
        obtain ⟨u', d'⟩ := ud
        obtain ⟨σ', ρ', e, S', K'⟩ := ih
        exact ⟨σ', ρ', e, S', K1.trans K'⟩
end

/- P12 -/
noncomputable def rowsU : List (Nat × Nat × Int × Int) := [(112, 116, 1, 1), (105, 110, 7227, 100), (112, 99, 12, 1), (99, 109, 7227, 254), (109, 109, 7227, 2540), (98, 112, 7227, 7200), (100, 100, 1238, 1157), (99, 99, 14856, 1157)]
/-- the length that a unit gives, or none where no unit stands -/
noncomputable def unitV (c1 c2 : Nat) (whole part : Int) : Option Int :=
  if kwM c1 101 && kwM c2 109 then some (measV whole part 655361)
  else if kwM c1 101 && kwM c2 120 then some (measV whole part 282168)
  else match findU c1 c2 rowsU with
    | some (u, d) => some (convV whole part u d)
    | none => if kwM c1 115 && kwM c2 112 then some whole else none
theorem rowsU_ok : ∀ u ∈ rowsU, 0 < u.2.2.1 ∧ u.2.2.1 ≤ 100000 ∧ 0 < u.2.2.2 ∧ u.2.2.2 ≤ 100000 := by decide
section
theorem F_units_ok (σ : Store) : F_units [] σ = .ok (.ref σ.length) (σ ++ [.list (rowsU.map rowAV)]) := by
  simp [F_units, m_units, rowsU, rowAV]
theorem F_wu_ok {σ : Store} {i d r x c1 c2 : Nat} {w : List Nat} {whole part V : Int} (hw : 0 ≤ whole) (hp : 0 ≤ part) (hp2 : part ≤ 65536) (hlen : w.length < 190) (h1 : c1 ≤ 255) (h2 : c2 ≤ 255) (n1 : c1 ≠ 32) (n2 : c2 ≠ 32) (S : Src σ i d r x (c1 :: c2 :: w)) (hV : unitV c1 c2 whole part = some V) :
    ∃ σ', F_written_unit [.ref i, .int whole, .int part, .bool false] σ = rD V σ' ∧ Src σ' i d r x w ∧ Keeps r σ σ' := by
  have srcF : fld (srcFs r x) "font_size" = none := (srcFs_meth r x).2.2.2.2.2
  obtain ⟨σ1, e1, S1, K1⟩ := F_keyword_ok (k1 := 101) (k2 := 109) S hlen h1 h2 n1 n2
  unfold unitV at hV
  cases m1 : (kwM c1 101 && kwM c2 109) with
  | true =>
    rw [m1] at e1 S1 hV
    cases hV
    refine ⟨σ1, ?_, by simpa using S1, K1⟩
    have S1' : Src σ1 i d r x w := by simpa using S1
    have hf := F_font_ok S1' 6
    simp only [beq_self_eq_true, if_true] at hf
    simp [F_written_unit, m_written_unit, e1, S1'.fs, hf, F_measured_ok (whole := whole) (part := part) (size := 655361) hw hp hp2 (by decide) (by decide)]
    unfold rD
    by_cases hv : measV whole part 655361 ≤ 1073741823
    · simp only [if_pos hv]; try rfl
    · simp only [if_neg hv]; try rfl
  | false =>
    rw [m1, if_neg Bool.false_ne_true] at hV
    rw [m1] at e1 S1
    have S1' : Src σ1 i d r x (c1 :: c2 :: w) := by simpa using S1
    obtain ⟨σ2, e2, S2, K2⟩ := F_keyword_ok (k1 := 101) (k2 := 120) S1' hlen h1 h2 n1 n2
    cases m2 : (kwM c1 101 && kwM c2 120) with
    | true =>
      rw [m2] at e2 S2 hV
      cases hV
      have S2' : Src σ2 i d r x w := by simpa using S2
      refine ⟨σ2, ?_, S2', K1.trans K2⟩
      have hf := F_font_ok S2' 5
      rw [show ((5 : Int) == 6) = false from rfl, if_neg Bool.false_ne_true] at hf
      simp [F_written_unit, m_written_unit, e1, e2, S2'.fs, hf, F_measured_ok (whole := whole) (part := part) (size := 282168) hw hp hp2 (by decide) (by decide)]
      unfold rD
      by_cases hv : measV whole part 282168 ≤ 1073741823
      · simp only [if_pos hv]; try rfl
      · simp only [if_neg hv]; try rfl
    | false =>
      rw [m2, if_neg Bool.false_ne_true] at hV
      rw [m2] at e2 S2
      have S2' : Src σ2 i d r x (c1 :: c2 :: w) := by simpa using S2
      have S3 := S2'.app [.list (rowsU.map rowAV)]
      have hL : (σ2 ++ [AO.list (rowsU.map rowAV)])[σ2.length]? = some (.list (rowsU.map rowAV)) := by simp
      have hne : σ2.length ≠ r := by have := (List.getElem?_eq_some_iff.mp S2'.rest).1; lia
      have lp := wu_loop hw hp hne hlen h1 h2 n1 n2 rowsU rowsU 0 ((rowsU.map rowAV).length + 1) none none none (σ2 ++ [AO.list (rowsU.map rowAV)]) rfl (by simp) hL S3 rowsU_ok
      have hu := F_units_ok σ2
      generalize rowsU.map rowAV = RW at *
      cases hfu : findU c1 c2 rowsU with
      | some ud =>
        obtain ⟨u, dn⟩ := ud
        rw [hfu] at lp hV
        cases hV
        obtain ⟨σ', ρ', e, S', K'⟩ := lp
        refine ⟨σ', ?_, S', K1.trans (K2.trans K'.cut)⟩
        simp [F_written_unit, m_written_unit, e1, e2, mForL, hu]
        rw [e]
        unfold rD
        by_cases hv : convV whole part u dn ≤ 1073741823
        · simp [hv]
        · simp [hv]
      | none =>
        rw [hfu] at lp hV
        obtain ⟨σ3, y4, y5, y6, e, S3', K3⟩ := lp
        obtain ⟨σ4, e4, S4, K4⟩ := F_keyword_ok (k1 := 115) (k2 := 112) S3' hlen h1 h2 n1 n2
        simp only at hV
        cases m3 : (kwM c1 115 && kwM c2 112) with
        | false => rw [m3] at hV; cases hV
        | true =>
          rw [m3] at e4 S4 hV
          cases hV
          refine ⟨σ4, ?_, by simpa using S4, K1.trans (K2.trans (K3.cut.trans K4))⟩
          simp [F_written_unit, m_written_unit, e1, e2, mForL, hu]
          rw [e]
          simp [e4, F_check_dimen_pos hw]
          unfold rD
          by_cases hv : whole ≤ 1073741823
          · simp [hv]
          · simp [hv]
/-- what the reading of a word gives -/
noncomputable def rT (neg : Bool) (v : Int) (σ : Store) : Res AV := if v ≤ 1073741823 then .ok (.tup [.int (if neg then -v else v), .int 0]) σ else .exc 108 σ
theorem dropB_one (w : List Nat) : dropB (dropOne w) = dropB w := by
  cases w with
  | nil => rfl
  | cons c w => by_cases h : c = 32 <;> simp [dropOne, dropB, h]
theorem dropOne_len (w : List Nat) : (dropOne w).length ≤ w.length := by
  cases w with
  | nil => exact Nat.le_refl _
  | cons c w => by_cases h : c = 32 <;> simp [dropOne, h]
theorem F_with_ok {σ : Store} {i d r x c1 c2 : Nat} {w tl : List Nat} {whole part V : Int} {neg : Bool} (hw : 0 ≤ whole) (hp : 0 ≤ part) (hp2 : part ≤ 65536) (hlen : w.length < 190) (hd : dropB w = c1 :: c2 :: tl) (hc : ∀ c ∈ w, c ≤ 255) (n2 : c2 ≠ 32) (S : Src σ i d r x w) (hV : unitV c1 c2 whole part = some V) :
    ∃ σ', F_with_unit [.ref i, .int whole, .int part, .bool neg, .bool false, .bool false] σ = rT neg V σ' ∧ (V ≤ 1073741823 → Src σ' i d r x (dropOne tl)) ∧ Keeps r σ σ' := by
  have hl := dropB_len w
  have hcd : ∀ c ∈ c1 :: c2 :: tl, c ≤ 255 := fun c h => hc c (dropB_mem (by rw [hd]; exact h))
  have n1 := dropB_head hd
  obtain ⟨σ1, e1, S1, K1⟩ := F_skip_ok S (by lia)
  rw [hd] at e1 S1 hl
  obtain ⟨σ2, e2, S2, K2⟩ := F_unread_gen S1 hcd (by lia)
  obtain ⟨σ3, e3, S3, K3⟩ := F_wu_ok hw hp hp2 (by simp at hl; lia) (hcd c1 (.head _)) (hcd c2 (.tail _ (.head _))) n1 n2 S2 hV
  have hq := fun σ => F_quantity_ok (σ := σ) (i := i) (fsort (c1 :: c2 :: tl)) (.int (fcode (c1 :: c2 :: tl))) (fsort_ne _)
  have hn : ¬ whole < 0 := by lia
  rw [found_eq] at e1 e2
  by_cases hv : V ≤ 1073741823
  · obtain ⟨σ4, e4, S4, K4⟩ := F_oblank_ok S3 (fun c h => hcd c (.tail _ (.tail _ h))) (by simp at hl; lia)
    refine ⟨σ4, ?_, fun _ => S4, K1.trans (K2.trans (K3.trans K4))⟩
    rw [show rD V σ3 = .ok (.int V) σ3 from if_pos hv] at e3
    rw [show rT neg V σ4 = .ok (.tup [.int (if neg then -V else V), .int 0]) σ4 from if_pos hv]
    cases neg <;> simp [F_with_unit, m_with_unit, hn, e1, S1.qt, hq, e2, e3, e4]
  · refine ⟨σ3, ?_, fun h => absurd h hv, K1.trans (K2.trans K3)⟩
    rw [show rD V σ3 = .exc 108 σ3 from if_neg hv] at e3
    rw [show rT neg V σ3 = .exc 108 σ3 from if_neg hv]
    simp [F_with_unit, m_with_unit, hn, e1, S1.qt, hq, e2, e3]
theorem F_dimen_ok {σ : Store} {i d r x c1 c2 : Nat} {W W' rest tl : List Nat} {whole part V : Int} {neg : Bool} (S : Src σ i d r x W) (hs : sgn false W = (neg, W')) (hW : W.length < 190)
    (hfac : ∀ σ, Src σ i d r x W'.tail → ∃ σ', F_factor [.ref i, found W'] σ = .ok (.tup [.int whole, .int part]) σ' ∧ Src σ' i d r x (dropOne rest) ∧ Keeps r σ σ')
    (hw : 0 ≤ whole) (hp : 0 ≤ part) (hp2 : part ≤ 65536) (hlen : rest.length < 190) (hd : dropB rest = c1 :: c2 :: tl) (hc : ∀ c ∈ rest, c ≤ 255) (n2 : c2 ≠ 32) (hV : unitV c1 c2 whole part = some V) :
    ∃ σ', F_dimen [.ref i] σ = rT neg V σ' ∧ (V ≤ 1073741823 → Src σ' i d r x (dropOne tl)) ∧ Keeps r σ σ' := by
  obtain ⟨σ1, e1, S1, K1⟩ := F_signs_ok S (by lia)
  rw [hs] at e1 S1
  obtain ⟨σ2, e2, S2, K2⟩ := hfac σ1 S1
  have hl := dropOne_len rest
  have hcd : ∀ c ∈ dropOne rest, c ≤ 255 := by
    intro c h
    refine hc c ?_
    rw [dropOne_eq] at h
    split at h
    · exact List.mem_of_mem_tail h
    · exact h
  obtain ⟨σ3, e3, S3, K3⟩ := F_with_ok (neg := neg) hw hp hp2 (by lia) (by rw [dropB_one]; exact hd) hcd n2 S2 hV
  refine ⟨σ3, ?_, S3, K1.trans (K2.trans K3)⟩
  have hq := fun σ => F_quantity_ok (σ := σ) (i := i) (fsort W') (.int (fcode W')) (fsort_ne _)
  rw [found_eq W'] at e1 e2
  by_cases hv : V ≤ 1073741823
  · rw [show rT neg V σ3 = .ok (.tup [.int (if neg then -V else V), .int 0]) σ3 from if_pos hv] at e3 ⊢
    simp [F_dimen, m_dimen, e1, S1.qt, hq, e2, e3]
  · rw [show rT neg V σ3 = .exc 108 σ3 from if_neg hv] at e3 ⊢
    simp [F_dimen, m_dimen, e1, S1.qt, hq, e2, e3]
end

/- P13 -/
theorem getS (σ L : Store) (k : Nat) : (σ ++ L)[σ.length + k]? = L[k]? := by
  rw [List.getElem?_append_right (by lia)]
  congr 1
  lia
theorem getS0 (σ L : Store) : (σ ++ L)[σ.length]? = L[0]? := getS σ L 0
theorem setS (σ L : Store) (k : Nat) (o : AO) : List.set (σ ++ L) (σ.length + k) o = σ ++ List.set L k o := by
  rw [List.set_append_right _ _ (by lia)]
  congr 2
  lia
theorem setS0 (σ L : Store) (o : AO) : List.set (σ ++ L) σ.length o = σ ++ List.set L 0 o := setS σ L 0 o
section
theorem init_loop {σ : Store} {a i : Nat} {all : List Nat} (hL : σ[a]? = some (.list (all.map tokAV))) : ∀ (ws : List Nat) (k fuel : Nat) (x6 : Option AV), all.drop k = ws → ws.length < fuel → (∀ c ∈ ws, c ≤ 255) → ∃ x6',
    mForF (listItem a) (tgName 6) (mSeq (mIfS (mOr (mNot (mCall F_is_token [mLoc 6])) (mOp2 oIn (mOp2 oItem (mLoc 6) (mVal (.int 0))) (mTup [mVal (.int 5), mVal (.int 9), mVal (.int 14), mVal (.int 15)]))) (mStuckS) (mNil)) (mNil)) fuel k
      [some (.ref i), some (.ref a), some .none, some .none, some (.int 282168), some (.int 655361), x6, none, none, none, none, none, none, none, none, none, none, none] σ
      = .ok (.next, [some (.ref i), some (.ref a), some .none, some .none, some (.int 282168), some (.int 655361), x6', none, none, none, none, none, none, none, none, none, none, none]) σ
  | [], k, fuel, x6, hk, hf, hc => by
    obtain ⟨fuel, rfl⟩ : ∃ n, fuel = n + 1 := ⟨fuel - 1, by simp at hf; lia⟩
    have hk' : all.length ≤ k := List.drop_eq_nil_iff.mp hk
    refine ⟨x6, ?_⟩
    unfold mForF
    simp [listItem, hL, hk']
  | c :: ws, k, fuel, x6, hk, hf, hc => by
    obtain ⟨fuel, rfl⟩ : ∃ n, fuel = n + 1 := ⟨fuel - 1, by simp at hf; lia⟩
    have hk1 : all[k]? = some c := by
      have := congrArg (fun l => l[0]?) hk
      simpa using this
    have hk2 : all.drop (k + 1) = ws := by
      have := congrArg (fun l => l.drop 1) hk
      simpa [List.drop_drop, Nat.add_comm] using this
    obtain ⟨x6', e⟩ := init_loop (i := i) hL ws (k + 1) fuel (some (tokAV c)) hk2 (by simp at hf; lia) (fun z hz => hc z (.tail _ hz))
    refine ⟨x6', ?_⟩
    have hit := F_is_token_ok c (hc c (.head _)) σ
    have hcat : catOf c = 10 ∨ catOf c = 12 := by unfold catOf; split <;> simp
    unfold mForF
    rw [tokAV_eq] at hit e
    rcases hcat with hcat | hcat <;> rw [hcat] at hit e <;> simp [listItem, hL, hk1, tgName, tokAV_eq, hcat, hit, in10, in12, e]
theorem putF1 (v a : AV) : putF "inner" v [("rest", a)] = ([("rest", a), ("inner", v)] : List (Str × AV)) := by unfold putF; rfl
theorem putF2 (v a b : AV) : putF "names" v [("rest", a), ("inner", b)] = ([("rest", a), ("inner", b), ("names", v)] : List (Str × AV)) := by unfold putF; rfl
theorem putF3 (v a b c : AV) : putF "sizes" v [("rest", a), ("inner", b), ("names", c)] = ([("rest", a), ("inner", b), ("names", c), ("sizes", v)] : List (Str × AV)) := by unfold putF; rfl
theorem putF4 (v a b c d : AV) : putF "balance" v [("rest", a), ("inner", b), ("names", c), ("sizes", d)] = ([("rest", a), ("inner", b), ("names", c), ("sizes", d), ("balance", v)] : List (Str × AV)) := by unfold putF; rfl
theorem putF0 (v : AV) : putF "rest" v [] = ([("rest", v)] : List (Str × AV)) := by unfold putF; rfl
theorem fldI (a b : AV) : fld [("rest", a), ("inner", b)] "inner" = some b := by unfold fld; rfl
theorem F_PS_ok {σ : Store} {a : Nat} {w : List Nat} (hL : σ[a]? = some (.list (w.map tokAV))) (hc : ∀ c ∈ w, c ≤ 255) (hl : w.length ≤ 1000) :
    F_PlainSource [.ref a, .none, .none, .int 282168, .int 655361] σ = .ok (.ref (σ.length + 1)) (σ ++ [.ns (srcFs (σ.length + 3) (σ.length + 4)), .inst 544 σ.length, .list (w.map tokAV), .list (w.map tokAV).reverse, .dict0 (σ.length + 4)]) := by
  have la := (List.getElem?_eq_some_iff.mp hL).1
  have hL2 : (σ ++ [AO.ns [], AO.inst 544 σ.length])[a]? = some (.list (w.map tokAV)) := by rw [List.getElem?_append_left la]; exact hL
  obtain ⟨x6, e⟩ := init_loop (i := σ.length + 1) hL2 w 0 ((w.map tokAV).length + 1) none rfl (by simp) hc
  have hlen : (w.map tokAV).length ≤ 100000 := by simp; lia
  generalize w.map tokAV = T at *
  simp [F_PlainSource, mCls, F___init__, m___init__, mForL, hL2]
  rw [e]
  simp [pfL, F_list, hL2, mRev, hlen, getS, getS0, setS, setS0, putF0, putF1, putF2, putF3, putF4, mDict0, mForD0, getF, fldI, handed]
  unfold mForF
  simp [pfL, dict0Item, getS, getS0, setS, setS0, putF0, putF1, putF2, putF3, putF4, F_check_dimen_int]
  rfl
/-- the tokens of a text -/
theorem tok_comp {t : List Nat} {acc : Nat} {ρ : Loc} : ∀ (ws done : List Nat) (k fuel : Nat) (σ : Store), t.drop k = ws → ws.length < fuel → done.length + ws.length ≤ 1000 → σ[acc]? = some (.list (done.map tokAV)) →
    mCompF (strItem t) (eIfEq (fun _ v σ => .ok v σ) (fun _ _ σ => .ok (.str [32]) σ) (eTup2 (fun _ _ σ => .ok (.int 10) σ) (fun _ _ σ => .ok (.int 32) σ)) (eTup2 (fun _ _ σ => .ok (.int 12) σ) (eCall F_ord (fun _ v σ => .ok v σ))) ρ) acc fuel k σ
      = .ok () (List.set σ acc (.list ((done ++ ws).map tokAV)))
  | [], done, k, fuel, σ, hk, hf, hn, hL => by
    obtain ⟨fuel, rfl⟩ : ∃ n, fuel = n + 1 := ⟨fuel - 1, by simp at hf; lia⟩
    have hk' : t.length ≤ k := List.drop_eq_nil_iff.mp hk
    obtain ⟨la, hL'⟩ := List.getElem?_eq_some_iff.mp hL
    unfold mCompF
    simp [strItem, hk']
    rw [← hL']
    simp
  | c :: ws, done, k, fuel, σ, hk, hf, hn, hL => by
    obtain ⟨fuel, rfl⟩ : ∃ n, fuel = n + 1 := ⟨fuel - 1, by simp at hf; lia⟩
    have hk1 : t[k]? = some c := by
      have := congrArg (fun l => l[0]?) hk
      simpa using this
    have hk2 : t.drop (k + 1) = ws := by
      have := congrArg (fun l => l.drop 1) hk
      simpa [List.drop_drop, Nat.add_comm] using this
    have la := (List.getElem?_eq_some_iff.mp hL).1
    have hn2 : done.length ≤ 1000 := by simp at hn; lia
    have ih := tok_comp (acc := acc) (ρ := ρ) ws (done ++ [c]) (k + 1) fuel (List.set σ acc (.list ((done ++ [c]).map tokAV))) hk2 (by simp at hf; lia) (by simp at hn ⊢; lia) (by simp [la])
    have hlen : (done.map tokAV).length ≤ 1000 := by simpa using hn2
    have hm : (done ++ [c]).map tokAV = done.map tokAV ++ [tokAV c] := by simp
    rw [hm] at ih
    rw [show done ++ c :: ws = done ++ [c] ++ ws by simp]
    generalize (done ++ [c] ++ ws).map tokAV = E at *
    generalize done.map tokAV = D at *
    unfold mCompF
    by_cases h32 : c = 32
    · have hb : (c == 32) = true := by simpa using h32
      simp [strItem, hk1, eIfEq, eTup2, hb, hL, hlen]
      have h3 : tokAV c = .tup [.int 10, .int 32] := by simp [tokAV, h32]
      rw [h3] at ih
      rw [ih]
      simp
    · have hb : (c == 32) = false := by simpa using h32
      simp [strItem, hk1, eIfEq, eTup2, eCall, hb, hL, hlen]
      have h3 : tokAV c = .tup [.int 12, .int (c : Int)] := by simp [tokAV, h32]
      rw [h3] at ih
      rw [ih]
      simp
end

/- P14 -/
theorem eqRR {σ : Store} {i j : Nat} (h1 : σ[i]? = some (.list [])) (h2 : σ[j]? = some (.list [])) : eqA σ (.ref i) (.ref j) = some true := by
  simp [eqA, h1, h2, flats]
theorem Stands.app {k : Nat} {σ l : Store} (h : k ≤ σ.length) : Stands k σ (σ ++ l) := ⟨by simp, fun j hj => List.getElem?_append_left (Nat.lt_of_lt_of_le hj h)⟩
/-- the answer of a reading -/
noncomputable def ans (neg : Bool) (V : Int) : AV := if V ≤ 1073741823 then .int (if neg then -V else V) else .str [111, 118, 101, 114]
/-- the word is read as V -/
noncomputable def Reads (W : List Nat) (neg : Bool) (V : Int) : Prop :=
  ∀ (σ : Store) (i d r x : Nat), Src σ i d r x W → ∃ σ', F_dimen [.ref i] σ = rT neg V σ' ∧ (V ≤ 1073741823 → Src σ' i d r x []) ∧ Keeps r σ σ'
section
theorem F_lread_ok {σ : Store} {W : List Nat} {neg : Bool} {V : Int} (R : Reads W neg V) (h128 : ∀ c ∈ W, c < 128) (hl : W.length ≤ 1000) :
    ∃ σ', F__law_read [.str W] σ = .ok (ans neg V) σ' ∧ Stands σ.length σ σ' := by
  have hall : W.all (· < 128) = true := by simpa using h128
  have hc := tok_comp (t := W) (acc := σ.length) (ρ := [some (.str W), none, none, none, none, none, none, none]) W [] 0 (W.length + 1) (σ ++ [AO.list []]) rfl (by lia) (by simpa using hl) (by simp)
  have hset : List.set (σ ++ [AO.list []]) σ.length (AO.list (([] ++ W).map tokAV)) = σ ++ [AO.list (W.map tokAV)] := by rw [setS0]; simp
  rw [hset] at hc
  have hp := F_PS_ok (σ := σ ++ [AO.list (W.map tokAV)]) (a := σ.length) (w := W) (by simp) (fun c h => by have := h128 c h; lia) hl
  have hlen : (σ ++ [AO.list (W.map tokAV)]).length = σ.length + 1 := by simp
  have hm : σ ++ [AO.list (W.map tokAV)] ++ [AO.ns (srcFs (σ.length + 4) (σ.length + 5)), AO.inst 544 (σ.length + 1), AO.list (W.map tokAV), AO.list (W.map tokAV).reverse, AO.dict0 (σ.length + 5)]
      = σ ++ [AO.list (W.map tokAV), AO.ns (srcFs (σ.length + 4) (σ.length + 5)), AO.inst 544 (σ.length + 1), AO.list (W.map tokAV), AO.list (W.map tokAV).reverse, AO.dict0 (σ.length + 5)] := by simp
  rw [hlen, hm] at hp
  have S : Src (σ ++ [AO.list (W.map tokAV), AO.ns (srcFs (σ.length + 4) (σ.length + 5)), AO.inst 544 (σ.length + 1), AO.list (W.map tokAV), AO.list (W.map tokAV).reverse, AO.dict0 (σ.length + 5)]) (σ.length + 2) (σ.length + 1) (σ.length + 4) (σ.length + 5) W :=
    ⟨by rw [getS]; rfl, by rw [getS]; rfl, by rw [getS]; rfl, by lia, by lia, hl⟩
  obtain ⟨σ2, e2, S2, K2⟩ := R _ _ _ _ _ S
  have st2 : Stands σ.length σ σ2 := ⟨Nat.le_trans (by simp) K2.len, fun j hj => by rw [K2.old j (by simp; lia) (by lia), List.getElem?_append_left hj]⟩
  generalize σ ++ [AO.list (W.map tokAV), AO.ns (srcFs (σ.length + 4) (σ.length + 5)), AO.inst 544 (σ.length + 1), AO.list (W.map tokAV), AO.list (W.map tokAV).reverse, AO.dict0 (σ.length + 5)] = σ1 at *
  by_cases hv : V ≤ 1073741823
  · have S2 := S2 hv
    rw [show rT neg V σ2 = .ok (.tup [.int (if neg then -V else V), .int 0]) σ2 from if_pos hv] at e2
    rw [show ans neg V = .int (if neg then -V else V) from if_pos hv]
    generalize (if neg then -V else V) = v at *
    have hL := F_left_ok S2
    have hle : fld (srcFs (σ.length + 4) (σ.length + 5)) "left" = none := (srcFs_meth _ _).2.2.2.1
    refine ⟨σ2 ++ [AO.list []] ++ [AO.list []], ?_, st2.trans ((Stands.app st2.len).trans (Stands.app (Nat.le_trans st2.len (by simp))))⟩
    have hq : eqA (σ2 ++ [AO.list []] ++ [AO.list []]) (.ref σ2.length) (.ref (σ2.length + 1)) = some true := eqRR (by simp) (by simp)
    simp only [List.append_assoc, List.cons_append, List.nil_append, List.map_nil] at hL hq ⊢
    simp [F__law_read, m__law_read, mComp]
    rw [if_pos h128]
    simp [hc, hp, mTry, e2, S2.lf, hL, hq]
  · refine ⟨σ2, ?_, st2⟩
    rw [show rT neg V σ2 = .exc 108 σ2 from if_neg hv] at e2
    rw [show ans neg V = .str [111, 118, 101, 114] from if_neg hv]
    simp [F__law_read, m__law_read, mComp]
    rw [if_pos h128]
    simp [hc, hp, mTry, e2]
end

/- P15 -/
/-- the figures of a number -/
noncomputable def dl (n : Nat) : List Nat := (Nat.toDigits 10 n).map fun c => c.toNat - 48
theorem dg_small {d : Nat} (h : d < 10) : (Nat.digitChar d).toNat = d + 48 := by
  have : ∀ d : Fin 10, (Nat.digitChar d.1).toNat = d.1 + 48 := by decide
  exact this ⟨d, h⟩
theorem dl_lt {n : Nat} (h : n < 10) : dl n = [n] := by
  simp [dl, Nat.toDigits_of_lt_base h, dg_small h]
theorem dl_ge {n : Nat} (h : 10 ≤ n) : dl n = dl (n / 10) ++ [n % 10] := by
  simp [dl, Nat.toDigits_of_base_le (b := 10) (by decide) h, dg_small (Nat.mod_lt n (by decide : 0 < 10))]
theorem digs_dl (n : Nat) : digs (n : Int) = chs (dl n) := by
  have h : digs (n : Int) = (Nat.toDigits 10 n).map Char.toNat := by
    unfold digs
    rw [Int.toString_eq_repr, Int.repr_eq_if, if_pos (Int.natCast_nonneg n), Int.toNat_natCast, Nat.toList_repr]
  rw [h]
  clear h
  induction n using Nat.strongRecOn with
  | ind n ih =>
    by_cases hn : n < 10
    · rw [dl_lt hn, Nat.toDigits_of_lt_base hn]
      simp [chs, dg_small hn]
    · rw [dl_ge (by lia), Nat.toDigits_of_base_le (by decide) (by lia), List.map_append, ih (n / 10) (by lia)]
      simp [chs, dg_small (Nat.mod_lt n (by decide : 0 < 10))]
theorem numFrom_snoc (w : Int) (ds : List Nat) (d : Nat) : numFrom w (ds ++ [d]) = 10 * numFrom w ds + d := by
  simp [numFrom]
theorem dl_num (n : Nat) : numFrom 0 (dl n) = n := by
  induction n using Nat.strongRecOn with
  | ind n ih =>
    by_cases hn : n < 10
    · rw [dl_lt hn]
      simp [numFrom]
    · rw [dl_ge (by lia), numFrom_snoc, ih (n / 10) (by lia)]
      lia
theorem dl_dig (n : Nat) : ∀ d ∈ dl n, d < 10 := by
  induction n using Nat.strongRecOn with
  | ind n ih =>
    by_cases hn : n < 10
    · rw [dl_lt hn]
      intro d hd
      rw [List.mem_singleton.mp hd]; exact hn
    · rw [dl_ge (by lia)]
      intro d hd
      rcases List.mem_append.mp hd with h | h
      · exact ih _ (by lia) d h
      · rw [List.mem_singleton.mp h]; lia
theorem dl_ne (n : Nat) : dl n ≠ [] := by
  by_cases hn : n < 10
  · rw [dl_lt hn]; exact List.cons_ne_nil _ _
  · rw [dl_ge (by lia)]; simp
theorem dl_len {n : Nat} : ∀ {k : Nat}, n < 10 ^ (k + 1) → (dl n).length ≤ k + 1 := by
  induction n using Nat.strongRecOn with
  | ind n ih =>
    intro k hk
    by_cases hn : n < 10
    · rw [dl_lt hn]; simp
    · rw [dl_ge (by lia), List.length_append]
      cases k with
      | zero => lia
      | succ k =>
        have := ih (n / 10) (by lia) (k := k) (by rw [Nat.pow_succ] at hk; lia)
        simp; lia
/-- the figures of m, k of them -/
noncomputable def pad : Nat → Nat → List Nat
  | 0, _ => []
  | k + 1, m => pad k (m / 10) ++ [m % 10]
theorem dl_pad : ∀ (k m : Nat), m < 10 ^ k → dl (10 ^ k + m) = 1 :: pad k m
  | 0, m, h => by
    have : m = 0 := by simpa using h
    subst this
    rfl
  | k + 1, m, h => by
    have hp : 0 < 10 ^ k := Nat.pow_pos (by decide)
    rw [dl_ge (by rw [Nat.pow_succ]; lia)]
    have h1 : (10 ^ (k + 1) + m) / 10 = 10 ^ k + m / 10 := by rw [Nat.pow_succ]; lia
    have h2 : (10 ^ (k + 1) + m) % 10 = m % 10 := by rw [Nat.pow_succ]; lia
    rw [h1, h2, dl_pad k (m / 10) (by rw [Nat.pow_succ] at h; lia)]
    rfl
theorem pad_num : ∀ (k m : Nat), m < 10 ^ k → numFrom 0 (pad k m) = m
  | 0, m, h => by
    have : m = 0 := by simpa using h
    subst this
    rfl
  | k + 1, m, h => by
    rw [pad, numFrom_snoc, pad_num k (m / 10) (by rw [Nat.pow_succ] at h; lia)]
    lia
theorem pad_dig : ∀ (k m : Nat), ∀ d ∈ pad k m, d < 10
  | 0, m, d, h => by cases h
  | k + 1, m, d, h => by
    rcases List.mem_append.mp h with h | h
    · exact pad_dig k _ d h
    · rw [List.mem_singleton.mp h]; lia
theorem pad_len : ∀ (k m : Nat), (pad k m).length = k
  | 0, m => rfl
  | k + 1, m => by rw [pad, List.length_append, pad_len k]; rfl
theorem F_str_ok {n : Nat} {σ : Store} (h : n < 2 ^ 200) : F_str [.int (n : Int)] σ = .ok (.str (chs (dl n))) σ := by
  unfold F_str
  simp only []
  have : (n : Int).natAbs.log2 < 1920 := by
    rw [Int.natAbs_natCast]
    by_cases h0 : n = 0
    · subst h0; decide
    · exact Nat.lt_trans ((Nat.log2_lt h0).mpr h) (by decide)
  rw [if_pos this, digs_dl]
theorem numFrom_lt : ∀ (ds : List Nat) (w : Int), (∀ d ∈ ds, d < 10) → numFrom w ds + 1 ≤ (w + 1) * 10 ^ ds.length
  | [], w, h => by simp [numFrom]
  | d :: ds, w, h => by
    have ih := numFrom_lt ds (10 * w + d) fun z hz => h z (.tail _ hz)
    have hd := h d (.head _)
    rw [numFrom_cons]
    have h1 : (10 * w + d + 1) * 10 ^ ds.length ≤ (10 * (w + 1)) * 10 ^ ds.length := Int.mul_le_mul_of_nonneg_right (by lia) (Int.pow_nonneg (by decide))
    have h2 : (w + 1) * 10 ^ (d :: ds).length = (10 * (w + 1)) * 10 ^ ds.length := by
      rw [List.length_cons, Int.pow_succ]; grind
    rw [h2]
    lia
theorem fracOf_b {ds : List Nat} (h : ∀ d ∈ ds, d < 10) : 0 ≤ fracOf ds ∧ fracOf ds ≤ 65536 := by
  have h1 := numFrom_lt ds 0 h
  have h2 : 0 ≤ numFrom 0 ds := numFrom_le (Int.le_refl _)
  unfold fracOf
  have hp : (0 : Int) < 10 ^ ds.length := Int.pow_pos (by decide)
  generalize (10 : Int) ^ ds.length = T at *
  have h3 := fdiv_nonneg (a := 131072 * numFrom 0 ds) (b := T) (by lia) hp
  have h4 : (131072 * numFrom 0 ds).fdiv T < 131072 := by
    rw [Int.fdiv_eq_ediv_of_nonneg _ (Int.le_of_lt hp)]
    refine Int.ediv_lt_of_lt_mul hp ?_
    lia
  rw [Int.fdiv_eq_ediv_of_nonneg (b := 2) _ (by decide)]
  lia

/- P16 -/
/-- what stands behind the figures: blanks, two letters, at most one blank -/
structure Tail (rest tl : List Nat) (c1 c2 : Nat) : Prop where
  dr : dropB rest = c1 :: c2 :: tl
  tl : dropOne tl = []
  nd : dig rest = -1
  n46 : hd1 rest 46 = false
  n44 : hd1 rest 44 = false
  small : ∀ c ∈ rest, c ≤ 127
  len : rest.length ≤ 20
  n2 : c2 ≠ 32
theorem Tail.s255 {rest tl : List Nat} {c1 c2 : Nat} (T : Tail rest tl c1 c2) : ∀ c ∈ rest, c ≤ 255 := fun c h => by have := T.small c h; lia
theorem chs_len (ds : List Nat) : (chs ds).length = ds.length := by simp [chs]
theorem chs_small {ds : List Nat} (h : ∀ d ∈ ds, d < 10) : ∀ c ∈ chs ds, c ≤ 127 := by
  intro c hc
  obtain ⟨a, ha, rfl⟩ := List.mem_map.mp hc
  have := h a ha; lia
theorem reads_C {W ds rest tl : List Nat} {c1 c2 : Nat} {neg : Bool} {V : Int} (hs : sgn false W = (neg, chs ds ++ rest)) (hW : W.length < 180) (h0 : ds ≠ []) (hds : ∀ d ∈ ds, d < 10) (hm : numFrom 0 ds ≤ 2147483647) (hl : ds.length ≤ 100) (T : Tail rest tl c1 c2) (hV : unitV c1 c2 (numFrom 0 ds) 0 = some V) : Reads W neg V := by
  intro σ i d r x S
  have hl2 : (chs ds ++ rest).length < 190 := by rw [List.length_append, chs_len]; have := T.len; lia
  have := F_dimen_ok S hs (by lia) (fun σ S' => F_factor_C T.nd T.n46 T.n44 S' h0 hds hm hl2 T.s255) (numFrom_le (Int.le_refl _)) (Int.le_refl _) (by decide) (by have := T.len; lia) T.dr T.s255 T.n2 hV
  rw [T.tl] at this
  exact this
theorem reads_B {W ds es rest tl : List Nat} {c1 c2 mk : Nat} {neg : Bool} {V : Int} (hmk : mk = 46 ∨ mk = 44) (hs : sgn false W = (neg, chs ds ++ mk :: (chs es ++ rest))) (hW : W.length < 180) (h0 : ds ≠ []) (hds : ∀ d ∈ ds, d < 10) (hes : ∀ d ∈ es, d < 10) (hm : numFrom 0 ds ≤ 2147483647) (hl : ds.length ≤ 50) (hl' : es.length ≤ 50) (T : Tail rest tl c1 c2) (hV : unitV c1 c2 (numFrom 0 ds) (fracOf (es.take 17)) = some V) : Reads W neg V := by
  intro σ i d r x S
  have hl2 : (chs ds ++ mk :: (chs es ++ rest)).length < 190 := by rw [List.length_append, List.length_cons, List.length_append, chs_len, chs_len]; have := T.len; lia
  have hb := fracOf_b (ds := es.take 17) fun d h => hes d (List.mem_of_mem_take h)
  have := F_dimen_ok S hs (by lia) (fun σ S' => F_factor_B hmk T.nd S' h0 hds hm hes hl2 T.s255) (numFrom_le (Int.le_refl _)) hb.1 hb.2 (by have := T.len; lia) T.dr T.s255 T.n2 hV
  rw [T.tl] at this
  exact this
theorem reads_A {W es rest tl : List Nat} {c1 c2 mk : Nat} {neg : Bool} {V : Int} (hmk : mk = 46 ∨ mk = 44) (hs : sgn false W = (neg, mk :: (chs es ++ rest))) (hW : W.length < 180) (hes : ∀ d ∈ es, d < 10) (hl' : es.length ≤ 50) (T : Tail rest tl c1 c2) (hV : unitV c1 c2 0 (fracOf (es.take 17)) = some V) : Reads W neg V := by
  intro σ i d r x S
  have hl2 : (chs es ++ rest).length < 190 := by rw [List.length_append, chs_len]; have := T.len; lia
  have hb := fracOf_b (ds := es.take 17) fun d h => hes d (List.mem_of_mem_take h)
  have := F_dimen_ok S hs (by lia) (fun σ S' => F_factor_A hmk T.nd S' hes hl2 T.s255) (Int.le_refl 0) hb.1 hb.2 (by have := T.len; lia) T.dr T.s255 T.n2 hV
  rw [T.tl] at this
  exact this
/-- the pool of the script -/
structure Pool (σ : Store) (p : Nat) : Prop where
  at_ : ∃ a b : Nat, σ[p]? = some (.list [.int (a : Int), .int (b : Int)])
theorem Pool.keep {σ σ' : Store} {p : Nat} (P : Pool σ p) (S : Stands σ.length σ σ') : Pool σ' p := by
  obtain ⟨a, b, h⟩ := P.at_
  exact ⟨a, b, by rw [S.old p (List.getElem?_eq_some_iff.mp h).1]; exact h⟩
theorem Pool.lt {σ : Store} {p : Nat} (P : Pool σ p) : p < σ.length := by
  obtain ⟨a, b, h⟩ := P.at_
  exact (List.getElem?_eq_some_iff.mp h).1
theorem Pool.app {σ : Store} {p : Nat} (P : Pool σ p) (l : Store) : Pool (σ ++ l) p := P.keep (.app (Nat.le_refl _))
section
theorem F_take_ok {σ : Store} {p : Nat} {m : Int} (P : Pool σ p) (hm : 0 < m) : ∃ (v : Nat) (σ' : Store), F__law_take [.ref p, .int m] σ = .ok (.int (v : Int)) σ' ∧ (v : Int) < m ∧ Pool σ' p ∧ Keeps p σ σ' := by
  obtain ⟨a, b, h⟩ := P.at_
  have lp := P.lt
  have hm0 : m ≠ 0 := by lia
  have hs2 : ∀ o : AO, (List.set σ p o)[p]? = some o := fun o => by simp [lp]
  have x0 : oItem σ (.ref p) (.int 0) = some (.int (a : Int)) := oItem_ref (v := 0) h rfl (by decide)
  have x1 : oItem σ (.ref p) (.int 1) = some (.int (b : Int)) := oItem_ref (v := 1) h rfl (by decide)
  have x2 : ∀ A B : AV, oItem (List.set σ p (.list [A, B])) (.ref p) (.int 1) = some B := fun A B => oItem_ref (v := 1) (hs2 _) rfl (by decide)
  by_cases ha : 100 ≤ a
  · have ha' : (100 : Int) ≤ (a : Int) := by lia
    have hv := Int.emod_nonneg ((a : Int) % 100) hm0
    refine ⟨(((a : Int) % 100) % m).toNat, List.set σ p (.list [.int ((a / 100 : Nat) : Int), .int (b : Int)]), ?_, ?_, ⟨a / 100, b, by simp [lp]⟩, .set⟩
    · simp [F__law_take, m__law_take, x0, x1, x2, h, ha', hm0, mPutI, putIR, divOk_s (a := (a : Int)) (b := 100) (by decide) (by decide)]
      rw [Int.fdiv_eq_ediv_of_nonneg (b := 100) _ (by decide), Int.fmod_eq_emod_of_nonneg (b := 100) _ (by decide), Int.fmod_eq_emod_of_nonneg _ (Int.le_of_lt hm)]
      simp
      lia
    · rw [Int.toNat_of_nonneg hv]
      exact Int.emod_lt_of_pos _ hm
  · have ha' : ¬ (100 : Int) ≤ (a : Int) := by lia
    have hv := Int.emod_nonneg ((((b : Int) * 48271 + 11) % 2147483647) / 64) hm0
    refine ⟨(((((b : Int) * 48271 + 11) % 2147483647) / 64) % m).toNat, List.set σ p (.list [.int (a : Int), .int (((b * 48271 + 11) % 2147483647 : Nat) : Int)]), ?_, ?_, ⟨a, (b * 48271 + 11) % 2147483647, by simp [lp]⟩, .set⟩
    · simp [F__law_take, m__law_take, x0, x1, x2, h, ha', hm0, mPutI, putIR, mulOk_r (a := (b : Int)) (b := 48271) (by decide), hs2, divOk_s (a := ((b : Int) * 48271 + 11).fmod 2147483647) (b := 64) (by decide) (by decide)]
      rw [Int.fdiv_eq_ediv_of_nonneg (b := 64) _ (by decide), Int.fmod_eq_emod_of_nonneg (b := 2147483647) _ (by decide), Int.fmod_eq_emod_of_nonneg _ (Int.le_of_lt hm)]
      simp
      lia
    · rw [Int.toNat_of_nonneg hv]
      exact Int.emod_lt_of_pos _ hm
theorem F_great_ok {σ : Store} {p : Nat} {m : Int} (P : Pool σ p) (hm : 0 < m) : ∃ (v : Nat) (σ' : Store), F__law_great [.ref p, .int m] σ = .ok (.int (v : Int)) σ' ∧ (v : Int) < m ∧ Pool σ' p ∧ Keeps p σ σ' := by
  obtain ⟨v1, σ1, e1, l1, P1, K1⟩ := F_take_ok P (m := 100) (by decide)
  obtain ⟨v2, σ2, e2, l2, P2, K2⟩ := F_take_ok P1 (m := 100) (by decide)
  have hm0 : m ≠ 0 := by lia
  have hv := Int.emod_nonneg (100 * (v1 : Int) + v2) hm0
  refine ⟨((100 * (v1 : Int) + v2) % m).toNat, σ2, ?_, ?_, P2, K1.trans K2⟩
  · simp [F__law_great, m__law_great, e1, e2, hm0, mulOk_l (a := 100) (b := (v1 : Int)) (by decide)]
    rw [Int.fmod_eq_emod_of_nonneg _ (Int.le_of_lt hm)]
    lia
  · rw [Int.toNat_of_nonneg hv]
    exact Int.emod_lt_of_pos _ hm
end

/- P17 -/
theorem oAddI {σ : Store} (a b : Int) : oAdd σ (.int a) (.int b) = some (.int (a + b)) := rfl
theorem addS {σ : Store} {a b : List Nat} (h : a.length + b.length ≤ 100000) : oAdd σ (.str a) (.str b) = some (.str (a ++ b)) := if_pos h
theorem dl_len32 {n : Nat} (h : n ≤ 2147483647) : (dl n).length ≤ 10 := dl_len (k := 9) (by lia)
theorem chs_add {n : Nat} (h : n ≤ 2147483647) (b : List Nat) (hb : b.length ≤ 100) : (chs (dl n)).length + b.length ≤ 100000 := by
  rw [chs_len]; have := dl_len32 h; lia
theorem F_str_s {n : Nat} {σ : Store} (h : n ≤ 2147483647) : F_str [.int (n : Int)] σ = .ok (.str (chs (dl n))) σ :=
  F_str_ok (Nat.lt_of_le_of_lt h (by decide))
theorem read_nu {σ : Store} {n c1 c2 : Nat} {V : Int} (hn : n ≤ 2147483647) (T : Tail [c1, c2] [] c1 c2) (hV : unitV c1 c2 (n : Int) 0 = some V) :
    ∃ σ', F__law_read [.str (chs (dl n) ++ [c1, c2])] σ = .ok (ans false V) σ' ∧ Stands σ.length σ σ' := by
  have hl := dl_len32 hn
  have R : Reads (chs (dl n) ++ [c1, c2]) false V := reads_C (sgn_chs false (dl_ne n)) (by rw [List.length_append, chs_len]; simp; lia) (dl_ne n) (dl_dig n) (by rw [dl_num]; lia) (by lia) T (by rw [dl_num]; exact hV)
  refine F_lread_ok R ?_ (by rw [List.length_append, chs_len]; simp; lia)
  intro c hc
  rcases List.mem_append.mp hc with h | h
  · have := chs_small (dl_dig n) c h; lia
  · have := T.small c h; lia
theorem ans_le {V : Int} (h : V ≤ 1073741823) : ans false V = .int V := if_pos h
theorem ans_gt {V : Int} (h : ¬ V ≤ 1073741823) (neg : Bool) : ans neg V = .str [111, 118, 101, 114] := if_neg h
/-- the rows of the multiples -/
noncomputable def rowsM : List (Nat × (Nat × Nat) × Nat × (Nat × Nat) × Nat) := [(100, (105, 110), 7227, (112, 116), 2), (1, (112, 99), 12, (112, 116), 1365), (254, (99, 109), 7227, (112, 116), 2), (10, (109, 109), 1, (99, 109), 575), (72, (98, 112), 1, (105, 110), 226), (1157, (100, 100), 1238, (112, 116), 13), (1, (99, 99), 12, (100, 100), 1275), (1, (112, 116), 65536, (115, 112), 16383)]
noncomputable def rowM (R : Nat × (Nat × Nat) × Nat × (Nat × Nat) × Nat) : AV := .tup [.int (R.1 : Int), .str [R.2.1.1, R.2.1.2], .int (R.2.2.1 : Int), .str [R.2.2.2.1.1, R.2.2.2.1.2], .int (R.2.2.2.2 : Int)]
theorem fd (a : Int) {b : Int} (h : 0 ≤ b) : a.fdiv b = a / b := Int.fdiv_eq_ediv_of_nonneg a h
theorem fm (a : Int) {b : Int} (h : 0 ≤ b) : a.fmod b = a % b := Int.fmod_eq_emod_of_nonneg a h
theorem rowsM_T : ∀ R ∈ rowsM, Tail [R.2.1.1, R.2.1.2] [] R.2.1.1 R.2.1.2 ∧ Tail [R.2.2.2.1.1, R.2.2.2.1.2] [] R.2.2.2.1.1 R.2.2.2.1.2 := by
  intro R h
  simp only [rowsM, List.mem_cons, List.not_mem_nil, or_false] at h
  rcases h with rfl | rfl | rfl | rfl | rfl | rfl | rfl | rfl <;> exact ⟨⟨by decide, by decide, by decide, by decide, by decide, by decide, by decide, by decide⟩, ⟨by decide, by decide, by decide, by decide, by decide, by decide, by decide, by decide⟩⟩
theorem rowsU_V : ∀ u ∈ rowsU, ∀ w f : Int, unitV u.1 u.2.1 w f = some (convV w f u.2.2.1 u.2.2.2) := by
  intro R h w f
  simp only [rowsU, List.mem_cons, List.not_mem_nil, or_false] at h
  rcases h with rfl | rfl | rfl | rfl | rfl | rfl | rfl | rfl <;> rfl
theorem rowsU_top : ∀ u ∈ rowsU, u.2.2.1 * (65536 * 211) ≤ 1073741823 * u.2.2.2 ∧ u.2.2.2 ≤ u.2.2.1 := by decide
theorem conv_le {u : Nat × Nat × Int × Int} (hu : u ∈ rowsU) {w f : Int} (h : 65536 * w + f ≤ 65536 * 211) : convV w f u.2.2.1 u.2.2.2 ≤ 1073741823 := by
  obtain ⟨u1, u2, u3, u4⟩ := rowsU_ok u hu
  have h2 : u.2.2.1 * (65536 * w + f) ≤ u.2.2.1 * (65536 * 211) := Int.mul_le_mul_of_nonneg_left h (Int.le_of_lt u1)
  have h4 : (u.2.2.1 * (65536 * w + f)) / u.2.2.2 ≤ (1073741823 * u.2.2.2) / u.2.2.2 := Int.ediv_le_ediv u3 (Int.le_trans h2 (rowsU_top u hu).1)
  rw [Int.mul_ediv_cancel _ (Int.ne_of_gt u3)] at h4
  unfold convV
  rwa [fd _ (Int.le_of_lt u3)]
/-- two quotients of cross-wise equal products -/
theorem div_cross {A B d e : Int} (hd : 0 < d) (he : 0 < e) (h : A * e = B * d) : A / d = B / e := by
  rw [← Int.mul_ediv_mul_of_pos_left A d he, h, Int.mul_comm d e, Int.mul_ediv_mul_of_pos_left B e hd]
theorem rowsM_u : ∀ R ∈ rowsM, (∃ u ∈ rowsU, ∃ v ∈ rowsU, R.2.1 = (u.1, u.2.1) ∧ R.2.2.2.1 = (v.1, v.2.1) ∧ u.2.2.1 * R.1 * v.2.2.2 = v.2.2.1 * R.2.2.1 * u.2.2.2 ∧ u.2.2.1 * (65536 * (R.1 * R.2.2.2.2)) ≤ 1073741823 * u.2.2.2 ∧ R.1 * R.2.2.2.2 ≤ 2147483647 ∧ R.2.2.1 * R.2.2.2.2 ≤ 2147483647) ∨ R = (1, (112, 116), 65536, (115, 112), 16383) := by decide
theorem rowsM_V : ∀ R ∈ rowsM, ∀ c : Nat, c ≤ R.2.2.2.2 → ∃ V : Int, unitV R.2.1.1 R.2.1.2 ((R.1 * c : Nat) : Int) 0 = some V ∧ unitV R.2.2.2.1.1 R.2.2.2.1.2 ((R.2.2.1 * c : Nat) : Int) 0 = some V ∧ V ≤ 1073741823 ∧ R.1 * c ≤ 2147483647 ∧ R.2.2.1 * c ≤ 2147483647 := by
  intro R h c hc
  rcases rowsM_u R h with ⟨u, hu, v, hv, h1, h2, h3, h4, h5, h6⟩ | rfl
  · obtain ⟨u1, u2, u3, u4⟩ := rowsU_ok u hu
    obtain ⟨v1, v2, v3, v4⟩ := rowsU_ok v hv
    refine ⟨convV ((R.1 * c : Nat) : Int) 0 u.2.2.1 u.2.2.2, ?_, ?_, ?_, Nat.le_trans (Nat.mul_le_mul_left _ hc) h5, Nat.le_trans (Nat.mul_le_mul_left _ hc) h6⟩
    · rw [h1]; exact rowsU_V u hu _ _
    · rw [h2]
      refine (rowsU_V v hv _ _).trans (congrArg some ?_)
      unfold convV
      rw [fd _ (Int.le_of_lt u3), fd _ (Int.le_of_lt v3), Int.add_zero, Int.add_zero]
      refine div_cross v3 u3 ?_
      rw [Int.natCast_mul, Int.natCast_mul]
      have : v.2.2.1 * (65536 * ((R.2.2.1 : Int) * c)) * u.2.2.2 = 65536 * c * (v.2.2.1 * R.2.2.1 * u.2.2.2) := by grind
      rw [this, ← h3]
      grind
    · unfold convV
      rw [fd _ (Int.le_of_lt u3), Int.add_zero]
      have h7 : ((R.1 * c : Nat) : Int) ≤ ((R.1 : Int) * R.2.2.2.2) := by rw [← Int.natCast_mul]; exact Int.ofNat_le.mpr (Nat.mul_le_mul_left _ hc)
      have h8 : u.2.2.1 * (65536 * ((R.1 * c : Nat) : Int)) ≤ 1073741823 * u.2.2.2 := Int.le_trans (Int.mul_le_mul_of_nonneg_left (Int.mul_le_mul_of_nonneg_left h7 (by decide)) (Int.le_of_lt u1)) h4
      have h9 := Int.ediv_le_ediv u3 h8
      rwa [Int.mul_ediv_cancel _ (Int.ne_of_gt u3)] at h9
  · refine ⟨65536 * c, (show some (convV _ _ _ _) = _ from ?_), (show some ((65536 * c : Nat) : Int) = _ from ?_), ?_, ?_, ?_⟩ <;> simp only [convV, fd _ (show (0 : Int) ≤ 1 by decide), Option.some.injEq] at * <;> lia
section
theorem F_rows_ok (σ : Store) : F__law_rows [] σ = .ok (.ref σ.length) (σ ++ [.list (rowsM.map rowM)]) := by
  simp [F__law_rows, m__law_rows, rowsM, rowM]
theorem L_multiples {σ : Store} {p : Nat} (P : Pool σ p) : ∃ σ', F__law_multiples [.ref p] σ = .ok (.bool true) σ' ∧ Pool σ' p := by
  have lp := P.lt
  obtain ⟨v, σ1, e1, hv, P1, K1⟩ := F_take_ok (P.app [.list (rowsM.map rowM)]) (m := 8) (by decide)
  have hL : σ1[σ.length]? = some (.list (rowsM.map rowM)) := K1.get (by simp) (by lia)
  have hv8 : v < rowsM.length := by show v < 8; lia
  have hR : rowsM[v]? = some rowsM[v] := List.getElem?_eq_getElem hv8
  have hm : rowsM[v] ∈ rowsM := List.getElem_mem hv8
  generalize rowsM[v] = R at *
  obtain ⟨c, σ2, e2, hc, P2, K2⟩ := F_great_ok P1 (m := (R.2.2.2.2 : Int) + 1) (by lia)
  obtain ⟨V, v1, v2, v3, v4, v5⟩ := rowsM_V R hm c (by lia)
  obtain ⟨T1, T2⟩ := rowsM_T R hm
  obtain ⟨σ3, e3, S3⟩ := read_nu (σ := σ2) v4 T1 v1
  obtain ⟨σ4, e4, S4⟩ := read_nu (σ := σ3) v5 T2 v2
  rw [ans_le v3] at e3 e4
  refine ⟨σ4, ?_, (P2.keep S3).keep S4⟩
  have b1 := F_str_s (σ := σ2) v4
  have b2 := F_str_s (σ := σ3) v5
  rw [Int.natCast_mul] at b1 b2
  have hr := F_rows_ok σ
  have hi : (rowsM.map rowM)[v]? = some (rowM R) := by simp [hR]
  have hv62 : (v : Int) < 4611686018427387904 := by lia
  have hc2 : R.2.2.2.2 ≤ 16383 := (by decide : ∀ R ∈ rowsM, R.2.2.2.2 ≤ 16383) R hm
  have hit := oItem_ref hL hi (by lia)
  generalize rowsM.map rowM = RM at *
  simp [F__law_multiples, m__law_multiples, hr, e1, hit, rowM, e2, b1, b2, mulOk_r (a := (R.1 : Int)) (b := (c : Int)) (by lia), mulOk_r (a := (R.2.2.1 : Int)) (b := (c : Int)) (by lia), addS (chs_add v4 [_, _] (by simp)), addS (chs_add v5 [_, _] (by simp)), e3, e4]
end

/- P18 -/
noncomputable def strAV (N : Nat × Nat) : AV := .str [N.1, N.2]
noncomputable def namesU : List (Nat × Nat) := [(112, 116), (105, 110), (112, 99), (99, 109), (109, 109), (98, 112), (100, 100), (99, 99)]
noncomputable def names11 : List (Nat × Nat) := [(115, 112), (101, 109), (101, 120), (112, 116), (105, 110), (112, 99), (99, 109), (109, 109), (98, 112), (100, 100), (99, 99)]
noncomputable def five : List AV := [.str [115, 112], .str [101, 109], .str [101, 120], .str [112, 116], .str [112, 99]]
theorem five_ok : ∀ N ∈ names11, ∀ (σ : Store) (j : Nat), σ[j]? = some (.list five) → oNotIn σ (.str [N.1, N.2]) (.ref j) = some (.bool (!five.any fun z => eq2 z (.str [N.1, N.2]))) := by
  intro N h σ j hj
  have h1 : (flat2 (.str [N.1, N.2])).isSome = true := by
    revert N
    decide
  have h2 : (flats2 five).isSome = true := by decide
  unfold oNotIn oIn
  simp only [hj]
  cases q1 : flat2 (.str [N.1, N.2]) with
  | none => rw [q1] at h1; cases h1
  | some x =>
    cases q2 : flats2 five with
    | none => rw [q2] at h2; cases h2
    | some y => rfl
theorem n11_T : ∀ N ∈ names11, Tail [N.1, N.2] [] N.1 N.2 := by
  intro R h
  simp only [names11, List.mem_cons, List.not_mem_nil, or_false] at h
  rcases h with rfl | rfl | rfl | rfl | rfl | rfl | rfl | rfl | rfl | rfl | rfl <;> exact ⟨by decide, by decide, by decide, by decide, by decide, by decide, by decide, by decide⟩
theorem div_sum {X Y d : Int} (hd : 0 < d) : 0 ≤ (X + Y) / d - X / d - Y / d ∧ (X + Y) / d - X / d - Y / d ≤ 1 ∧ (d = 1 → (X + Y) / d - X / d - Y / d = 0) := by
  have h1 := Int.mul_ediv_add_emod X d
  have h2 := Int.mul_ediv_add_emod Y d
  have h3 := Int.emod_nonneg X (Int.ne_of_gt hd)
  have h4 := Int.emod_lt_of_pos X hd
  have h5 := Int.emod_nonneg Y (Int.ne_of_gt hd)
  have h6 := Int.emod_lt_of_pos Y hd
  have h7 : (X + Y) / d = (X % d + Y % d) / d + (X / d + Y / d) := by
    rw [← Int.add_mul_ediv_right _ _ (Int.ne_of_gt hd)]
    congr 1
    grind
  have h8 : 0 ≤ (X % d + Y % d) / d := Int.ediv_nonneg (Int.add_nonneg h3 h5) (Int.le_of_lt hd)
  have h9 : (X % d + Y % d) / d < 2 := Int.ediv_lt_of_lt_mul hd (by lia)
  refine ⟨by lia, by lia, fun e => ?_⟩
  subst e
  simp only [Int.ediv_one]
  lia
theorem five_u : ∀ u ∈ rowsU, (!five.any fun z => eq2 z (.str [u.1, u.2.1])) = (u.2.2.2 != 1) := by decide
theorem n11_in : ∀ N ∈ names11, N = (115, 112) ∨ N = (101, 109) ∨ N = (101, 120) ∨ ∃ u ∈ rowsU, N = (u.1, u.2.1) := by decide
theorem n11_V : ∀ N ∈ names11, ∀ a b : Nat, a < 100 → b < 100 → ∃ x y z : Int, unitV N.1 N.2 (a : Int) 0 = some x ∧ unitV N.1 N.2 (b : Int) 0 = some y ∧ unitV N.1 N.2 ((a + b : Nat) : Int) 0 = some z ∧ x ≤ 1073741823 ∧ y ≤ 1073741823 ∧ z ≤ 1073741823 ∧ 0 ≤ z - x - y ∧ z - x - y ≤ (if !five.any fun z => eq2 z (.str [N.1, N.2]) then 1 else 0) := by
  intro N h a b ha hb
  rcases n11_in N h with rfl | rfl | rfl | ⟨u, hu, rfl⟩
  · refine ⟨a, b, (a + b : Nat), rfl, rfl, rfl, by lia, by lia, by lia, by lia, ?_⟩
    show _ ≤ (0 : Int)
    lia
  · refine ⟨measV a 0 655361, measV b 0 655361, measV (a + b : Nat) 0 655361, rfl, rfl, rfl, ?_, ?_, ?_, ?_, ?_⟩ <;> simp only [measV, Int.mul_zero, Int.zero_fdiv] <;> first | lia | (show _ ≤ (0 : Int); lia)
  · refine ⟨measV a 0 282168, measV b 0 282168, measV (a + b : Nat) 0 282168, rfl, rfl, rfl, ?_, ?_, ?_, ?_, ?_⟩ <;> simp only [measV, Int.mul_zero, Int.zero_fdiv] <;> first | lia | (show _ ≤ (0 : Int); lia)
  · obtain ⟨u1, u2, u3, u4⟩ := rowsU_ok u hu
    have hs : convV ((a + b : Nat) : Int) 0 u.2.2.1 u.2.2.2 = (u.2.2.1 * (65536 * (a : Int)) + u.2.2.1 * (65536 * (b : Int))) / u.2.2.2 := by
      unfold convV
      rw [fd _ (Int.le_of_lt u3), Int.add_zero, Int.natCast_add, Int.mul_add, Int.mul_add]
    have h1 : ∀ k : Nat, convV (k : Int) 0 u.2.2.1 u.2.2.2 = (u.2.2.1 * (65536 * (k : Int))) / u.2.2.2 := fun k => by
      unfold convV
      rw [fd _ (Int.le_of_lt u3), Int.add_zero]
    obtain ⟨g1, g2, g3⟩ := div_sum (X := u.2.2.1 * (65536 * (a : Int))) (Y := u.2.2.1 * (65536 * (b : Int))) u3
    rw [← hs, ← h1, ← h1] at g1 g2 g3
    refine ⟨_, _, _, rowsU_V u hu _ _, rowsU_V u hu _ _, rowsU_V u hu _ _, conv_le hu (by lia), conv_le hu (by lia), conv_le hu (by lia), g1, ?_⟩
    rw [five_u u hu]
    by_cases h : u.2.2.2 = 1
    · rw [h] at g3 ⊢
      exact Int.le_of_eq (g3 rfl)
    · rw [if_pos (by simpa using h)]
      exact g2
section
theorem F_lunits_ok (σ : Store) : F__law_units [] σ = .ok (.ref σ.length) (σ ++ [.list (rowsU.map rowAV)]) := by
  simp [F__law_units, m__law_units, rowsU, rowAV]
/-- the names of the units -/
theorem name_comp {j acc : Nat} {ρ : Loc} {all : List (Nat × Nat × Int × Int)} (hne : acc ≠ j) : ∀ (ws done : List (Nat × Nat × Int × Int)) (k fuel : Nat) (σ : Store), σ[j]? = some (.list (all.map rowAV)) → all.drop k = ws → ws.length < fuel → done.length + ws.length ≤ 1000 → σ[acc]? = some (.list (done.map fun u => AV.str [u.1, u.2.1])) →
    mCompF (listItem j) (eOp2 oItem (fun _ v σ => .ok v σ) (fun _ _ σ => .ok (.int 0) σ) ρ) acc fuel k σ = .ok () (List.set σ acc (.list ((done ++ ws).map fun u => AV.str [u.1, u.2.1])))
  | [], done, k, fuel, σ, hJ, hk, hf, hn, hL => by
    obtain ⟨fuel, rfl⟩ : ∃ n, fuel = n + 1 := ⟨fuel - 1, by simp at hf; lia⟩
    have hk' : all.length ≤ k := List.drop_eq_nil_iff.mp hk
    obtain ⟨la, hL'⟩ := List.getElem?_eq_some_iff.mp hL
    unfold mCompF
    simp [listItem, hJ, hk']
    rw [← hL']
    simp
  | u :: ws, done, k, fuel, σ, hJ, hk, hf, hn, hL => by
    obtain ⟨fuel, rfl⟩ : ∃ n, fuel = n + 1 := ⟨fuel - 1, by simp at hf; lia⟩
    have hk1 : all[k]? = some u := by
      have := congrArg (fun l => l[0]?) hk
      simpa using this
    have hk2 : all.drop (k + 1) = ws := by
      have := congrArg (fun l => l.drop 1) hk
      simpa [List.drop_drop, Nat.add_comm] using this
    have la := (List.getElem?_eq_some_iff.mp hL).1
    have hn2 : done.length ≤ 1000 := by simp at hn; lia
    have ih := name_comp (acc := acc) (ρ := ρ) hne ws (done ++ [u]) (k + 1) fuel (List.set σ acc (.list ((done ++ [u]).map fun u => AV.str [u.1, u.2.1]))) (by rw [List.getElem?_set_ne hne]; exact hJ) hk2 (by simp at hf; lia) (by simp at hn ⊢; lia) (by simp [la])
    have hlen : (done.map fun u => AV.str [u.1, u.2.1]).length ≤ 1000 := by simpa using hn2
    have hm : (done ++ [u]).map (fun u => AV.str [u.1, u.2.1]) = done.map (fun u => AV.str [u.1, u.2.1]) ++ [AV.str [u.1, u.2.1]] := by simp
    rw [hm] at ih
    rw [show done ++ u :: ws = done ++ [u] ++ ws by simp]
    generalize (done ++ [u] ++ ws).map (fun u => AV.str [u.1, u.2.1]) = E at *
    generalize done.map (fun u => AV.str [u.1, u.2.1]) = D at *
    unfold mCompF
    simp [listItem, hJ, hk1, eOp2, rowAV, hL, hlen]
    rw [ih]
    simp
end

/- P19 -/
structure Sum4 (σ : Store) (p n j acc : Nat) (N : AV) (L A : List AV) : Prop where
  P : Pool σ p
  C : σ[n]? = some (.cell (some N))
  J : σ[j]? = some (.list L)
  A : σ[acc]? = some (.list A)
  pa : p ≠ acc
  na : n ≠ acc
  ja : j ≠ acc
theorem Sum4.keep {σ σ' : Store} {p n j acc : Nat} {N : AV} {L A : List AV} (Q : Sum4 σ p n j acc N L A) (S : Stands σ.length σ σ') : Sum4 σ' p n j acc N L A :=
  ⟨Q.P.keep S, by rw [S.old n (List.getElem?_eq_some_iff.mp Q.C).1]; exact Q.C, by rw [S.old j (List.getElem?_eq_some_iff.mp Q.J).1]; exact Q.J, by rw [S.old acc (List.getElem?_eq_some_iff.mp Q.A).1]; exact Q.A, Q.pa, Q.na, Q.ja⟩
theorem Sum4.set {σ : Store} {p n j acc : Nat} {N : AV} {L A A' : List AV} (Q : Sum4 σ p n j acc N L A) : Sum4 (List.set σ acc (.list A')) p n j acc N L A' := by
  have la := (List.getElem?_eq_some_iff.mp Q.A).1
  obtain ⟨a, b, h⟩ := Q.P.at_
  exact ⟨⟨a, b, by rw [List.getElem?_set_ne Q.pa.symm]; exact h⟩, by rw [List.getElem?_set_ne Q.na.symm]; exact Q.C, by rw [List.getElem?_set_ne Q.ja.symm]; exact Q.J, by simp [la], Q.pa, Q.na, Q.ja⟩
section
theorem sums_step {σ : Store} {p n j acc fuel k m : Nat} {c1 c2 : Nat} {L A : List AV} {ρ : Loc} {V : Int} (Q : Sum4 σ p n j acc (.str [c1, c2]) L A) (hρ : ρ[1]? = some (some (.ref n))) (hk : L[k]? = some (.int (m : Int))) (hm : m ≤ 2147483647) (hA : A.length ≤ 1000)
    (T : Tail [c1, c2] [] c1 c2) (hV : unitV c1 c2 (m : Int) 0 = some V) (hV2 : V ≤ 1073741823) : ∃ σ', Sum4 σ' p n j acc (.str [c1, c2]) L (A ++ [.int V]) ∧
    mCompF (listItem j) (eCall F__law_read (eOp2 oAdd (eCall F_str (fun _ v σ => .ok v σ)) (fun ρ _ σ => mLocC 1 ρ σ)) ρ) acc (fuel + 1) k σ = mCompF (listItem j) (eCall F__law_read (eOp2 oAdd (eCall F_str (fun _ v σ => .ok v σ)) (fun ρ _ σ => mLocC 1 ρ σ)) ρ) acc fuel (k + 1) σ' := by
  obtain ⟨σ1, e1, S1⟩ := read_nu (σ := σ) hm T hV
  rw [ans_le hV2] at e1
  refine ⟨_, (Q.keep S1).set, ?_⟩
  have hQ := (Q.keep S1).A
  conv => lhs; unfold mCompF
  simp [listItem, Q.J, hk, eCall, eOp2, F_str_s hm, mLocC, hρ, Q.C, addS (chs_add hm [c1, c2] (by simp)), e1, hQ, hA]
theorem L_sums {σ : Store} {p : Nat} (P : Pool σ p) : ∃ σ', F__law_sums [.ref p] σ = .ok (.bool true) σ' ∧ Pool σ' p := by
  have lp := P.lt
  have hu := F_lunits_ok (σ ++ [.cell none, .list [.str [115, 112], .str [101, 109], .str [101, 120]]])
  have hc := name_comp (j := σ.length + 2) (acc := σ.length + 3) (ρ := [some (.ref p), some (.ref σ.length), none, none, none, none, none, none]) (all := rowsU) (by lia) rowsU [] 0 ((rowsU.map rowAV).length + 1) (σ ++ [.cell none, .list [.str [115, 112], .str [101, 109], .str [101, 120]], .list (rowsU.map rowAV), .list []])
    (by rw [getS]; rfl) rfl (by simp) (by decide) (by rw [getS]; rfl)
  rw [setS] at hc
  have hn : [AV.str [115, 112], .str [101, 109], .str [101, 120]] ++ (([] ++ rowsU).map fun (u : Nat × Nat × Int × Int) => AV.str [u.1, u.2.1]) = names11.map strAV := rfl
  have hln : ((([] ++ rowsU).map fun (u : Nat × Nat × Int × Int) => AV.str [u.1, u.2.1])).length ≤ 1000 := by decide
  generalize (([] ++ rowsU).map fun (u : Nat × Nat × Int × Int) => AV.str [u.1, u.2.1]) = NU at *
  have P0 := P.app [.cell none, .list [.str [115, 112], .str [101, 109], .str [101, 120]], .list (rowsU.map rowAV), .list NU, .list (names11.map strAV)]
  obtain ⟨v, σ1, e1, hv, P1, K1⟩ := F_take_ok P0 (m := 11) (by decide)
  have hC1 : σ1[σ.length]? = some (.cell none) := K1.get (by rw [getS0]; rfl) (by lia)
  have hL1 : σ1[σ.length + 4]? = some (.list (names11.map strAV)) := K1.get (by rw [getS]; rfl) (by lia)
  have hv11 : v < names11.length := by show v < 11; lia
  have hR : names11[v]? = some names11[v] := List.getElem?_eq_getElem hv11
  have hm : names11[v] ∈ names11 := List.getElem_mem hv11
  generalize names11[v] = N at *
  have l1 := (List.getElem?_eq_some_iff.mp hC1).1
  have P1' : Pool (List.set σ1 σ.length (.cell (some (.str [N.1, N.2])))) p := by
    obtain ⟨a, b, h⟩ := P1.at_
    exact ⟨a, b, by rw [List.getElem?_set_ne (by lia)]; exact h⟩
  have hC1' : (List.set σ1 σ.length (.cell (some (.str [N.1, N.2]))))[σ.length]? = some (.cell (some (.str [N.1, N.2]))) := by simp [l1]
  obtain ⟨a, σ2, e2, ha, P2, K2⟩ := F_take_ok P1' (m := 100) (by decide)
  obtain ⟨b, σ3, e3, hb, P3, K3⟩ := F_take_ok P2 (m := 100) (by decide)
  have hC3 := (K2.trans K3).get hC1' (by lia)
  have l3 := (List.getElem?_eq_some_iff.mp hC3).1
  obtain ⟨x, y, z, x1, y1, z1, x2, y2, z2, g1, g2⟩ := n11_V N hm a b (by lia) (by lia)
  have T := n11_T N hm
  have Q0 : Sum4 (σ3 ++ [.list [.int (a : Int), .int (b : Int), .int ((a + b : Nat) : Int)], .list []]) p σ.length σ3.length (σ3.length + 1) (.str [N.1, N.2]) [.int (a : Int), .int (b : Int), .int ((a + b : Nat) : Int)] [] :=
    ⟨P3.app _, by rw [List.getElem?_append_left l3]; exact hC3, by rw [getS0]; rfl, by rw [getS]; rfl, by have := P3.lt; lia, by lia, by lia⟩
  let ρ : Loc := [some (.ref p), some (.ref σ.length), some (.int (a : Int)), some (.int (b : Int)), none, none, none, none]
  obtain ⟨σ4, Q4, s4⟩ := sums_step (fuel := 3) (k := 0) (ρ := ρ) Q0 rfl rfl (by lia) (by simp) T x1 x2
  obtain ⟨σ5, Q5, s5⟩ := sums_step (fuel := 2) (k := 1) (ρ := ρ) Q4 rfl rfl (by lia) (by simp) T y1 y2
  obtain ⟨σ6, Q6, s6⟩ := sums_step (fuel := 1) (k := 2) (ρ := ρ) Q5 rfl rfl (by lia) (by simp) T z1 z2
  have s7 : mCompF (listItem σ3.length) (eCall F__law_read (eOp2 oAdd (eCall F_str (fun _ v σ => .ok v σ)) (fun ρ _ σ => mLocC 1 ρ σ)) ρ) (σ3.length + 1) 1 3 σ6 = .ok () σ6 := by
    unfold mCompF
    simp [listItem, Q6.J]
  have sc := s4.trans (s5.trans (s6.trans s7))
  have hi : (names11.map strAV)[v]? = some (strAV N) := by simp [hR]
  have hv62 : (v : Int) < 4611686018427387904 := by lia
  have hrl : (rowsU.map rowAV).length = 8 := rfl
  have h5 := five_ok N hm (σ6 ++ [.list five]) σ6.length (by rw [getS0]; rfl)
  have hin1 : oIn σ6 (.str [111, 118, 101, 114]) (.ref (σ3.length + 1)) = some (.bool false) := by simp [oIn, Q6.A, flat2, flats2, eq2]
  have hin2 : oIn σ6 (.str [108, 101, 102, 116]) (.ref (σ3.length + 1)) = some (.bool false) := by simp [oIn, Q6.A, flat2, flats2, eq2]
  refine ⟨σ6 ++ [.list five], ?_, Q6.P.app _⟩
  have hA6 := Q6.A
  simp only [List.nil_append, List.cons_append] at hA6
  unfold five at h5
  have hfl : ([.str [115, 112], .str [101, 109], .str [101, 120], .str [112, 116], .str [112, 99]] : List AV) = five := rfl
  rw [hfl] at h5
  generalize hbb : (!five.any fun z => eq2 z (.str [N.1, N.2])) = bb at *
  clear hbb
  have hmul : ((a + b : Nat) : Int) = (a : Int) + b := by lia
  rw [hmul] at sc
  have hcomp : mComp (eOp2 oItem (fun _ v σ => .ok v σ) (fun _ _ σ => .ok (.int 0) σ)) (mCall F__law_units []) [some (.ref p), some (.ref σ.length), none, none, none, none, none, none] (σ ++ [.cell none, .list [.str [115, 112], .str [101, 109], .str [101, 120]]])
      = .ok (.ref (σ.length + 3)) (σ ++ [.cell none, .list [.str [115, 112], .str [101, 109], .str [101, 120]], .list (rowsU.map rowAV), .list NU]) := by
    rw [show (σ ++ [AO.cell none, AO.list [AV.str [115, 112], AV.str [101, 109], AV.str [101, 120]]]).length = σ.length + 2 by simp] at hu
    generalize rowsU.map rowAV = RW at *
    simp [mComp, hu, getS]
    rw [hc]
    simp
  have hcomp2 : mComp (eCall F__law_read (eOp2 oAdd (eCall F_str (fun _ v σ => .ok v σ)) (fun ρ _ σ => mLocC 1 ρ σ))) (mList [mLoc 2, mLoc 3, mOp2 oAdd (mLoc 2) (mLoc 3)]) ρ σ3 = .ok (.ref (σ3.length + 1)) σ6 := by
    simp only [mComp, mList, mArgs, mLoc, mOp2, ρ, List.getElem?_cons_succ, List.getElem?_cons_zero, Res.bind, Res.ofO, oAddI, List.length_cons, List.length_nil]
    simp [getS0]
    rw [sc]
  generalize rowsU.map rowAV = RW at *
  clear sc s4 s5 s6 s7 Q0 Q4 Q5 hc hu
  have hn' : AV.str [115, 112] :: AV.str [101, 109] :: AV.str [101, 120] :: NU = names11.map strAV := hn
  have hit := oItem_ref hL1 hi (by lia)
  generalize names11.map strAV = N11 at *
  have hC6 := Q6.C
  simp [F__law_sums, mFnC, m__law_sums, mSetC, mListAdd, hcomp, getS, hln]
  simp [hn', e1, hC1, hit, strAV, e2, e3, mGuard, gdName]
  rw [show ([some (.ref p), some (.ref σ.length), some (.int (a : Int)), some (.int (b : Int)), none, none, none, none] : Loc) = ρ from rfl, hcomp2]
  have y0 : oItem σ6 (.ref (σ3.length + 1)) (.int 0) = some (.int x) := oItem_ref (v := 0) hA6 rfl (by decide)
  have y1 : oItem σ6 (.ref (σ3.length + 1)) (.int 1) = some (.int y) := oItem_ref (v := 1) hA6 rfl (by decide)
  have y2 : oItem σ6 (.ref (σ3.length + 1)) (.int 2) = some (.int z) := oItem_ref (v := 2) hA6 rfl (by decide)
  simp [ρ, hin1, hin2, y0, y1, y2, mLocC, hC6]
  have g1' : y ≤ z - x := by lia
  have hlk : listK five σ6 = .ok (.ref σ6.length) (σ6 ++ [.list five]) := rfl
  simp [g1', h5, hfl, hlk, mLocC, getS0, hC6, List.getElem?_append_left (List.getElem?_eq_some_iff.mp hC6).1]
  exact g2
end

/- P20 -/
theorem rowsU_T : ∀ u ∈ rowsU, Tail [u.1, u.2.1] [] u.1 u.2.1 := by
  intro R h
  simp only [rowsU, List.mem_cons, List.not_mem_nil, or_false] at h
  rcases h with rfl | rfl | rfl | rfl | rfl | rfl | rfl | rfl <;> exact ⟨by decide, by decide, by decide, by decide, by decide, by decide, by decide, by decide⟩
theorem bounds_row : ∀ u ∈ rowsU, ∃ (m : Nat) (l V2 : Int), (16384 * u.2.2.2 - 1).fdiv u.2.2.1 = (m : Int) ∧ (65536 * (m : Int) * u.2.2.1).fdiv u.2.2.2 = l ∧ unitV u.1 u.2.1 (m : Int) 0 = some l ∧ l ≤ 1073741823 ∧ unitV u.1 u.2.1 ((m + 1 : Nat) : Int) 0 = some V2 ∧ ¬ V2 ≤ 1073741823 ∧ m + 1 ≤ 2147483647 := by
  intro R h
  simp only [rowsU, List.mem_cons, List.not_mem_nil, or_false] at h
  rcases h with rfl | rfl | rfl | rfl | rfl | rfl | rfl | rfl
  · exact ⟨16383, 1073676288, 1073741824, by decide, by decide, rfl, by decide, rfl, by decide, by decide⟩
  · exact ⟨226, 1070400798, 1075137085, by decide, by decide, rfl, by decide, rfl, by decide, by decide⟩
  · exact ⟨1365, 1073479680, 1074266112, by decide, by decide, rfl, by decide, rfl, by decide, by decide⟩
  · exact ⟨575, 1072190891, 1074055571, by decide, by decide, rfl, by decide, rfl, by decide, by decide⟩
  · exact ⟨5758, 1073682635, 1073869103, by decide, by decide, rfl, by decide, rfl, by decide, by decide⟩
  · exact ⟨16322, 1073689886, 1073755668, by decide, by decide, rfl, by decide, rfl, by decide, by decide⟩
  · exact ⟨15312, 1073740011, 1073810135, by decide, by decide, rfl, by decide, rfl, by decide, by decide⟩
  · exact ⟨1276, 1073740011, 1074581500, by decide, by decide, rfl, by decide, rfl, by decide, by decide⟩
theorem T_sp : Tail [115, 112] [] 115 112 := ⟨by decide, by decide, by decide, by decide, by decide, by decide, by decide, by decide⟩
theorem T_em : Tail [101, 109] [] 101 109 := ⟨by decide, by decide, by decide, by decide, by decide, by decide, by decide, by decide⟩
section
theorem L_bounds {σ : Store} {p : Nat} (P : Pool σ p) : ∃ σ', F__law_bounds [.ref p] σ = .ok (.bool true) σ' ∧ Pool σ' p := by
  obtain ⟨v, σ1, e1, hv, P1, K1⟩ := F_take_ok P (m := 10) (by decide)
  by_cases h7 : 7 < (v : Int)
  · by_cases h8 : v = 8
    · subst h8
      have P2 := P1.app [.list [.tup [.str [115, 112], .int 1073741823], .tup [.str [101, 109], .int 1638]]]
      obtain ⟨σ3, e3, S3⟩ := read_nu (σ := σ1 ++ [.list [.tup [.str [115, 112], .int 1073741823], .tup [.str [101, 109], .int 1638]]]) (n := 1073741823) (c1 := 115) (c2 := 112) (V := 1073741823) (by decide) T_sp rfl
      obtain ⟨σ4, e4, S4⟩ := read_nu (σ := σ3) (n := 1073741824) (c1 := 115) (c2 := 112) (V := 1073741824) (by decide) T_sp rfl
      rw [ans_le (by decide)] at e3
      rw [ans_gt (by decide)] at e4
      have b3 := F_str_s (n := 1073741823) (σ := σ1 ++ [.list [.tup [.str [115, 112], .int 1073741823], .tup [.str [101, 109], .int 1638]]]) (by decide)
      have b4 := F_str_s (n := 1073741824) (σ := σ3) (by decide)
      have a3 := fun σ => addS (σ := σ) (chs_add (n := 1073741823) (by decide) [115, 112] (by simp))
      have a4 := fun σ => addS (σ := σ) (chs_add (n := 1073741824) (by decide) [115, 112] (by simp))
      generalize chs (dl 1073741823) = w3 at *
      generalize chs (dl 1073741824) = w4 at *
      refine ⟨σ4, ?_, (P2.keep S3).keep S4⟩
      have hd : divOk 1073741823 655361 = true := divOk_s (by decide) (by decide)
      have hf : (1073741823 : Int).fdiv 655361 = 1638 := by decide
      have hit := oItem_ref (σ := σ1 ++ [.list [.tup [.str [115, 112], .int 1073741823], .tup [.str [101, 109], .int 1638]]]) (j := σ1.length) (v := 0) (by rw [getS0]; rfl) rfl (by decide)
      rw [show (((0 : Nat) : Int)) = 0 from rfl] at hit
      simp at b3 b4
      simp [F__law_bounds, m__law_bounds, e1, hit, hd, hf, b3, a3, e3, b4, a4, e4]
    · have h9 : v = 9 := by lia
      subst h9
      have P2 := P1.app [.list [.tup [.str [115, 112], .int 1073741823], .tup [.str [101, 109], .int 1638]]]
      obtain ⟨σ3, e3, S3⟩ := read_nu (σ := σ1 ++ [.list [.tup [.str [115, 112], .int 1073741823], .tup [.str [101, 109], .int 1638]]]) (n := 1638) (c1 := 101) (c2 := 109) (V := 1638 * 655361) (by decide) T_em rfl
      obtain ⟨σ4, e4, S4⟩ := read_nu (σ := σ3) (n := 1639) (c1 := 101) (c2 := 109) (V := 1639 * 655361) (by decide) T_em rfl
      rw [ans_le (by decide)] at e3
      rw [ans_gt (by decide)] at e4
      have b3 := F_str_s (n := 1638) (σ := σ1 ++ [.list [.tup [.str [115, 112], .int 1073741823], .tup [.str [101, 109], .int 1638]]]) (by decide)
      have b4 := F_str_s (n := 1639) (σ := σ3) (by decide)
      have a3 := fun σ => addS (σ := σ) (chs_add (n := 1638) (by decide) [101, 109] (by simp))
      have a4 := fun σ => addS (σ := σ) (chs_add (n := 1639) (by decide) [101, 109] (by simp))
      generalize chs (dl 1638) = w3 at *
      generalize chs (dl 1639) = w4 at *
      refine ⟨σ4, ?_, (P2.keep S3).keep S4⟩
      have hd : divOk 1073741823 655361 = true := divOk_s (by decide) (by decide)
      have hf : (1073741823 : Int).fdiv 655361 = 1638 := by decide
      have hm : mulOk 1638 655361 = true := mulOk_r (by decide)
      have hit := oItem_ref (σ := σ1 ++ [.list [.tup [.str [115, 112], .int 1073741823], .tup [.str [101, 109], .int 1638]]]) (j := σ1.length) (v := 1) (by rw [getS0]; rfl) rfl (by decide)
      rw [show (((1 : Nat) : Int)) = 1 from rfl] at hit
      simp at b3 b4 e3
      simp [F__law_bounds, m__law_bounds, e1, hit, hd, hf, b3, a3, e3, b4, a4, e4, hm]
  · have hv8 : v < rowsU.length := by show v < 8; lia
    have hR : rowsU[v]? = some rowsU[v] := List.getElem?_eq_getElem hv8
    have hm : rowsU[v] ∈ rowsU := List.getElem_mem hv8
    generalize rowsU[v] = u at *
    obtain ⟨m, l, V2, b1, b2, b3, b4, b5, b6, b7⟩ := bounds_row u hm
    obtain ⟨u1, u2, u3, u4⟩ := rowsU_ok u hm
    have T := rowsU_T u hm
    have hU := F_lunits_ok σ1
    have hi : (rowsU.map rowAV)[v]? = some (rowAV u) := by simp [hR]
    generalize rowsU.map rowAV = RW at *
    have P2 := P1.app [.list RW]
    obtain ⟨σ3, e3, S3⟩ := read_nu (σ := σ1 ++ [.list RW]) (n := m) (by lia) T b3
    obtain ⟨σ4, e4, S4⟩ := read_nu (σ := σ3) (n := m + 1) b7 T b5
    rw [ans_le b4] at e3
    rw [ans_gt b6] at e4
    have c3 := F_str_s (n := m) (σ := σ1 ++ [.list RW]) (by lia)
    have c4 := F_str_s (n := m + 1) (σ := σ3) b7
    rw [show ((m + 1 : Nat) : Int) = (m : Int) + 1 from rfl] at c4
    have a3 := fun σ => addS (σ := σ) (chs_add (n := m) (by lia) [u.1, u.2.1] (by simp))
    have a4 := fun σ => addS (σ := σ) (chs_add (n := m + 1) b7 [u.1, u.2.1] (by simp))
    refine ⟨σ4, ?_, (P2.keep S3).keep S4⟩
    have hv62 : (v : Int) < 4611686018427387904 := by lia
    have hit := oItem_ref (σ := σ1 ++ [.list RW]) (j := σ1.length) (by rw [getS0]; rfl) hi (by lia)
    simp [F__law_bounds, m__law_bounds, e1, h7, hU, hit, rowAV, mulOk_l (a := 16384) (b := u.2.2.2) (by decide), divOk_s (a := 16384 * u.2.2.2 - 1) (b := u.2.2.1) (by lia) (by lia), b1, mulOk_l (a := 65536) (b := (m : Int)) (by decide), mulOk_r (a := 65536 * (m : Int)) (b := u.2.2.1) (by lia), divOk_s (a := 65536 * (m : Int) * u.2.2.1) (b := u.2.2.2) (by lia) (by lia), b2, c3, a3, e3, c4, a4, e4]
end

/- P21 -/
theorem T_pt : Tail [112, 116] [] 112 116 := ⟨by decide, by decide, by decide, by decide, by decide, by decide, by decide, by decide⟩
theorem small_ndc {n mk : Nat} {es rest : List Nat} (hmk : mk = 46 ∨ mk = 44) (hes : ∀ d ∈ es, d < 10) (hr : ∀ c ∈ rest, c ≤ 127) : ∀ c ∈ chs (dl n) ++ mk :: (chs es ++ rest), c < 128 := by
  intro c hc
  rcases List.mem_append.mp hc with h | h
  · have := chs_small (dl_dig n) c h; lia
  · rcases List.mem_cons.mp h with h | h
    · lia
    · rcases List.mem_append.mp h with h | h
      · have := chs_small hes c h; lia
      · have := hr c h; lia
theorem read_nd {σ : Store} {n mk c1 c2 : Nat} {es W : List Nat} {V : Int} (hmk : mk = 46 ∨ mk = 44) (hn : n ≤ 2147483647) (hes : ∀ d ∈ es, d < 10) (hl : es.length ≤ 50) (T : Tail [c1, c2] [] c1 c2) (hV : unitV c1 c2 (n : Int) (fracOf (es.take 17)) = some V) (hW : W = chs (dl n) ++ mk :: (chs es ++ [c1, c2])) :
    ∃ σ', F__law_read [.str W] σ = .ok (ans false V) σ' ∧ Stands σ.length σ σ' := by
  subst hW
  have hl2 := dl_len32 hn
  have hlen : (chs (dl n) ++ mk :: (chs es ++ [c1, c2])).length < 180 := by rw [List.length_append, List.length_cons, List.length_append, chs_len, chs_len]; simp; lia
  have R : Reads (chs (dl n) ++ mk :: (chs es ++ [c1, c2])) false V := reads_B hmk (sgn_chs false (dl_ne n)) hlen (dl_ne n) (dl_dig n) hes (by rw [dl_num]; lia) (by lia) hl T (by rw [dl_num]; exact hV)
  exact F_lread_ok R (small_ndc hmk hes T.small) (by lia)
theorem read_md {σ : Store} {mk c1 c2 : Nat} {es W : List Nat} {V : Int} (hmk : mk = 46 ∨ mk = 44) (hes : ∀ d ∈ es, d < 10) (hl : es.length ≤ 50) (T : Tail [c1, c2] [] c1 c2) (hV : unitV c1 c2 0 (fracOf (es.take 17)) = some V) (hW : W = mk :: (chs es ++ [c1, c2])) :
    ∃ σ', F__law_read [.str W] σ = .ok (ans false V) σ' ∧ Stands σ.length σ σ' := by
  subst hW
  have hlen : (mk :: (chs es ++ [c1, c2])).length < 180 := by rw [List.length_cons, List.length_append, chs_len]; simp; lia
  have R : Reads (mk :: (chs es ++ [c1, c2])) false V := reads_A hmk (sgn_stop false (by lia) (by lia) (by lia)) hlen hes hl T hV
  refine F_lread_ok R ?_ (by lia)
  intro c h
  rcases List.mem_cons.mp h with h | h
  · lia
  · rcases List.mem_append.mp h with h | h
    · have := chs_small hes c h; lia
    · have := T.small c h; lia
theorem unit_pt (n f : Int) : unitV 112 116 n f = some (65536 * n + f) := by
  show some (convV n f 1 1) = _
  simp only [convV, fd _ (show (0 : Int) ≤ 1 by decide), Option.some.injEq]
  lia
theorem frac4 {c : Nat} (h : c < 16) : fracOf ((pad 4 (625 * c)).take 17) = 4096 * c := by
  rw [List.take_of_length_le (by rw [pad_len]; decide)]
  unfold fracOf
  rw [pad_num 4 _ (by lia), pad_len]
  rw [show ((10 : Int) ^ 4) = 10000 from by decide, fd _ (by decide), fd _ (by decide)]
  lia
section
theorem L_scaled {σ : Store} {p : Nat} (P : Pool σ p) : ∃ σ', F__law_scaled [.ref p] σ = .ok (.bool true) σ' ∧ Pool σ' p := by
  obtain ⟨n, σ1, e1, hn, P1, K1⟩ := F_great_ok P (m := 10000) (by decide)
  obtain ⟨q, σ2, e2, hq, P2, K2⟩ := F_take_ok P1 (m := 100) (by decide)
  have hqs := F_str_s (n := q) (σ := σ2) (by lia)
  have hqa : oAdd σ2 (.str [46]) (.str (chs (dl q))) = some (.str (46 :: chs (dl q))) := addS (σ := σ2) (a := [46]) (b := chs (dl q)) (by rw [chs_len]; have := dl_len32 (n := q) (by lia); simp; lia)
  have P3 := P2.app [.list [.str [46], .str [44], .str [46, 57], .str (46 :: chs (dl q)), .str []]]
  obtain ⟨v, σ4, e4, hv, P4, K4⟩ := F_take_ok P3 (m := 5) (by decide)
  have hJ : σ4[σ2.length]? = some (.list [.str [46], .str [44], .str [46, 57], .str (46 :: chs (dl q)), .str []]) := K4.get (by rw [getS0]; rfl) (by have := P2.lt; lia)
  have hn2 : n ≤ 2147483647 := by lia
  have key : ∃ w : List Nat, ([.str [46], .str [44], .str [46, 57], .str (46 :: chs (dl q)), .str []] : List AV)[v]? = some (.str w) ∧ w.length ≤ 20 ∧ ∃ σ', F__law_read [.str (chs (dl n) ++ w ++ [115, 112])] σ4 = .ok (.int (n : Int)) σ' ∧ Stands σ4.length σ4 σ' := by
    have hle : (n : Int) ≤ 1073741823 := by lia
    rw [← ans_le hle]
    match v, hv with
    | 0, _ => exact ⟨[46], rfl, by decide, read_nd (mk := 46) (es := []) (.inl rfl) hn2 (by simp) (by simp) T_sp rfl (by simp [chs])⟩
    | 1, _ => exact ⟨[44], rfl, by decide, read_nd (mk := 44) (es := []) (.inr rfl) hn2 (by simp) (by simp) T_sp rfl (by simp [chs])⟩
    | 2, _ => exact ⟨[46, 57], rfl, by decide, read_nd (mk := 46) (es := [9]) (.inl rfl) hn2 (by decide) (by simp) T_sp rfl (by simp [chs])⟩
    | 3, _ => exact ⟨46 :: chs (dl q), rfl, by rw [List.length_cons, chs_len]; have := dl_len32 (n := q) (by lia); lia, read_nd (mk := 46) (es := dl q) (.inl rfl) hn2 (dl_dig q) (by have := dl_len32 (n := q) (by lia); lia) T_sp rfl (by simp)⟩
    | 4, _ => exact ⟨[], rfl, by decide, by simpa using read_nu (σ := σ4) hn2 T_sp rfl⟩
    | v + 5, h => lia
  obtain ⟨w, hw, hwl, σ5, e5, S5⟩ := key
  obtain ⟨σ6, e6, S6⟩ := read_nd (σ := σ5) (n := n) (mk := 46) (es := []) (c1 := 112) (c2 := 116) (.inl rfl) hn2 (by simp) (by simp) T_pt (unit_pt _ _) (W := chs (dl n) ++ [46, 112, 116]) (by simp [chs])
  have hf0 : fracOf (([] : List Nat).take 17) = 0 := by decide
  rw [hf0, ans_le (by lia)] at e6
  have hns := fun σ => F_str_s (n := n) (σ := σ) hn2
  have a1 := fun σ => addS (σ := σ) (chs_add (n := n) hn2 w (by lia))
  have a2 := fun σ => addS (σ := σ) (a := chs (dl n) ++ w) (b := [115, 112]) (by rw [List.length_append]; have := chs_add hn2 w (by lia); rw [chs_len]; have := dl_len32 hn2; simp; lia)
  have a3 := fun σ => addS (σ := σ) (chs_add (n := n) hn2 [46, 112, 116] (by simp))
  refine ⟨σ6, ?_, (P4.keep S5).keep S6⟩
  have hv62 : (v : Int) < 4611686018427387904 := by lia
  generalize chs (dl n) = CN at *
  generalize chs (dl q) = CQ at *
  generalize hWL : ([.str [46], .str [44], .str [46, 57], .str (46 :: CQ), .str []] : List AV) = WL at *
  have hit := oItem_ref hJ hw (by lia)
  simp [F__law_scaled, m__law_scaled, e1, e2, hqs, hqa]
  rw [hWL]
  simp only [List.append_assoc, List.cons_append, List.nil_append] at e5 a2
  simp [e4, hit, hns, a1, a2, e5, a3, e6, mulOk_l (a := 65536) (b := (n : Int)) (by decide)]
end

/- P22 -/
theorem pad4_str {m : Nat} {σ : Store} (h : m < 10000) : F_str [.int (10000 + (m : Int))] σ = .ok (.str (chs (1 :: pad 4 m))) σ := by
  have := F_str_s (n := 10000 + m) (σ := σ) (by lia)
  rw [show dl (10000 + m) = 1 :: pad 4 m from dl_pad 4 m h] at this
  exact this
theorem str1_cons {σ : Store} {d : Nat} {ds : List Nat} (h : ds.length ≤ 100) : oStr1 σ (.str (chs (d :: ds))) = some (.str (chs ds)) := by
  show (if (chs (d :: ds)).length ≤ 100000 then some (AV.str ((chs (d :: ds)).drop 1)) else none) = _
  rw [if_pos (by rw [chs_len, List.length_cons]; lia)]
  rfl
theorem addL {σ : Store} {a b : List Nat} (k l : Nat) (ha : a.length ≤ k) (hb : b.length ≤ l) (hk : k + l ≤ 100000) : oAdd σ (.str a) (.str b) = some (.str (a ++ b)) := addS (by lia)
section
theorem L_part {σ : Store} {p : Nat} (P : Pool σ p) : ∃ σ', F__law_part [.ref p] σ = .ok (.bool true) σ' ∧ Pool σ' p := by
  obtain ⟨n, σ1, e1, hn, P1, K1⟩ := F_great_ok P (m := 16383) (by decide)
  obtain ⟨q, σ2, e2, hq, P2, K2⟩ := F_great_ok P1 (m := 10000) (by decide)
  obtain ⟨c, σ3, e3, hc, P3, K3⟩ := F_take_ok P2 (m := 16) (by decide)
  have hn2 : n ≤ 2147483647 := by lia
  have hes : ∀ d ∈ pad 4 q, d < 10 := pad_dig 4 q
  have hes2 : ∀ d ∈ pad 4 (625 * c), d < 10 := pad_dig 4 _
  have hel : (pad 4 q).length = 4 := pad_len 4 q
  have hel2 : (pad 4 (625 * c)).length = 4 := pad_len 4 _
  have hfb := fracOf_b (ds := (pad 4 q).take 17) fun d h => hes d (List.mem_of_mem_take h)
  have hf2 := frac4 (c := c) (by lia)
  have u0 := unit_pt 0 (fracOf ((pad 4 q).take 17))
  have u1 := unit_pt n (fracOf ((pad 4 q).take 17))
  have u2 := unit_pt n (fracOf ((pad 4 (625 * c)).take 17))
  rw [hf2] at u2
  have s1 := pad4_str (m := q) (σ := σ3) (by lia)
  have s2 := fun σ => pad4_str (m := 625 * c) (σ := σ) (by lia)
  rw [show ((625 * c : Nat) : Int) = 625 * (c : Int) from by lia] at s2
  have t1 := str1_cons (σ := σ3) (d := 1) (ds := pad 4 q) (by lia)
  have t2 := fun σ => str1_cons (σ := σ) (d := 1) (ds := pad 4 (625 * c)) (by lia)
  have c1 : (chs (pad 4 q)).length ≤ 4 := by rw [chs_len]; lia
  have c2 : (chs (pad 4 (625 * c))).length ≤ 4 := by rw [chs_len]; lia
  have c3 : (chs (dl n)).length ≤ 10 := by rw [chs_len]; exact dl_len32 hn2
  have hns := fun σ => F_str_s (n := n) (σ := σ) hn2
  obtain ⟨σ4, e4, S4⟩ := read_nd (σ := σ3) (n := 0) (mk := 46) (es := pad 4 q) (.inl rfl) (by decide) hes (by lia) T_pt u0 (W := [48, 46] ++ chs (pad 4 q) ++ [112, 116]) (by rw [dl_lt (by decide)]; simp [chs])
  obtain ⟨σ5, e5, S5⟩ := read_md (σ := σ4) (mk := 46) (es := pad 4 q) (.inl rfl) hes (by lia) T_pt u0 (W := [46] ++ chs (pad 4 q) ++ [112, 116]) (by simp)
  obtain ⟨σ6, e6, S6⟩ := read_nd (σ := σ5) (n := n) (mk := 46) (es := pad 4 q) (.inl rfl) hn2 hes (by lia) T_pt u1 (W := chs (dl n) ++ [46] ++ chs (pad 4 q) ++ [112, 116]) (by simp)
  obtain ⟨σ7, e7, S7⟩ := read_nd (σ := σ6) (n := n) (mk := 46) (es := pad 4 (625 * c)) (.inl rfl) hn2 hes2 (by lia) T_pt (by rw [hf2]; exact u2) (W := chs (dl n) ++ [46] ++ chs (pad 4 (625 * c)) ++ [112, 116]) (by simp)
  generalize fracOf ((pad 4 q).take 17) = f at *
  rw [ans_le (by lia)] at e4 e5 e6 e7
  generalize chs (1 :: pad 4 q) = A1 at *
  generalize chs (1 :: pad 4 (625 * c)) = A2 at *
  generalize chs (pad 4 q) = B1 at *
  generalize chs (pad 4 (625 * c)) = B2 at *
  generalize chs (dl n) = CN at *
  have a1 := fun σ => addL (σ := σ) (a := [48, 46]) (b := B1) 2 4 (by decide) c1 (by decide)
  have a2 := fun σ => addL (σ := σ) (a := [48, 46] ++ B1) (b := [112, 116]) 6 2 (by simp; lia) (by decide) (by decide)
  have a3 := fun σ => addL (σ := σ) (a := [46]) (b := B1) 1 4 (by decide) c1 (by decide)
  have a4 := fun σ => addL (σ := σ) (a := [46] ++ B1) (b := [112, 116]) 5 2 (by simp; lia) (by decide) (by decide)
  have a5 := fun σ => addL (σ := σ) (a := CN) (b := [46]) 10 1 c3 (by decide) (by decide)
  have a6 := fun σ => addL (σ := σ) (a := CN ++ [46]) (b := B1) 11 4 (by simp; lia) c1 (by decide)
  have a7 := fun σ => addL (σ := σ) (a := CN ++ [46] ++ B1) (b := [112, 116]) 15 2 (by simp; lia) (by decide) (by decide)
  have a8 := fun σ => addL (σ := σ) (a := CN ++ [46]) (b := B2) 11 4 (by simp; lia) c2 (by decide)
  have a9 := fun σ => addL (σ := σ) (a := CN ++ [46] ++ B2) (b := [112, 116]) 15 2 (by simp; lia) (by decide) (by decide)
  refine ⟨σ7, ?_, (((P3.keep S4).keep S5).keep S6).keep S7⟩
  simp only [List.append_assoc, List.cons_append, List.nil_append] at e4 e5 e6 e7 a1 a2 a3 a4 a5 a6 a7 a8 a9
  simp only [Int.mul_zero, Int.zero_add] at e4 e5
  simp [F__law_part, m__law_part, e1, e2, e3, s1, t1, a1, a2, e4, a3, a4, e5, hns, a5, a6, a7, e6, mulOk_l (a := 65536) (b := (n : Int)) (by decide), mulOk_l (a := 625) (b := (c : Int)) (by decide), mulOk_l (a := 4096) (b := (c : Int)) (by decide), s2, t2, a8, a9, e7]
end

/- P23 -/
/-- the scaled points of b over ten to the k -/
noncomputable def scaP (b T : Int) : Int := ((131072 * b) / T + 1) / 2
theorem sca_split {b k : Nat} (hk : k ≤ 6) : 65536 * ((b / 10 ^ k : Nat) : Int) + fracOf ((pad k (b % 10 ^ k)).take 17) = scaP b ((10 ^ k : Nat) : Int) := by
  have hT : 0 < 10 ^ k := Nat.pow_pos (by decide)
  rw [List.take_of_length_le (by rw [pad_len]; lia)]
  unfold fracOf scaP
  rw [pad_num k _ (Nat.mod_lt _ hT), pad_len, show ((10 : Int) ^ k) = ((10 ^ k : Nat) : Int) from by simp, fd (b := 2) _ (by decide), fd (b := ((10 ^ k : Nat) : Int)) _ (by lia)]
  generalize 10 ^ k = T at *
  have h1 : (b : Int) = (T : Int) * ((b / T : Nat) : Int) + ((b % T : Nat) : Int) := by
    have := Nat.div_add_mod b T
    rw [← Int.natCast_mul, ← Int.natCast_add, this]
  have h2 : 131072 * (b : Int) = 131072 * ((b % T : Nat) : Int) + (131072 * ((b / T : Nat) : Int)) * T := by
    rw [h1]; grind
  rw [h2, Int.add_mul_ediv_right _ _ (by lia)]
  lia
theorem conv_sca {b k : Nat} {up down : Int} (hk : k ≤ 6) (hd : 0 < down) : convV ((b / 10 ^ k : Nat) : Int) (fracOf ((pad k (b % 10 ^ k)).take 17)) up down = (up * scaP b ((10 ^ k : Nat) : Int)) / down := by
  unfold convV
  rw [sca_split hk, fd _ (Int.le_of_lt hd)]
theorem sca_mono {b b' T : Int} (hT : 0 < T) (h : b ≤ b') : scaP b T ≤ scaP b' T := by
  have := Int.ediv_le_ediv hT (show 131072 * b ≤ 131072 * b' by lia)
  unfold scaP
  lia
theorem sca_step {b T : Int} (hT : 0 < T) : scaP (b + T) T = scaP b T + 65536 := by
  unfold scaP
  rw [show 131072 * (b + T) = 131072 * b + 131072 * T by lia, Int.add_mul_ediv_right _ _ (by lia)]
  lia
theorem sca_top {b T : Int} (hT : 0 < T) (h : b < 211 * T) : scaP b T ≤ 65536 * 211 := by
  have : 131072 * b / T < 131072 * 211 := Int.ediv_lt_of_lt_mul hT (by lia)
  unfold scaP
  lia
theorem order_low {u : Nat × Nat × Int × Int} (hu : u ∈ rowsU) {b T : Int} (hT : 0 < T) (h : b < 211 * T) : (u.2.2.1 * scaP b T) / u.2.2.2 ≤ 1073741823 := by
  obtain ⟨u1, u2, u3, u4⟩ := rowsU_ok u hu
  have h1 := sca_top hT h
  have h2 : u.2.2.1 * scaP b T ≤ u.2.2.1 * (65536 * 211) := Int.mul_le_mul_of_nonneg_left h1 (by lia)
  have h3 := (rowsU_top u hu).1
  have : (u.2.2.1 * scaP b T) / u.2.2.2 ≤ (1073741823 * u.2.2.2) / u.2.2.2 := Int.ediv_le_ediv u3 (by lia)
  rwa [Int.mul_ediv_cancel _ (by lia)] at this
theorem order_mono {u : Nat × Nat × Int × Int} (hu : u ∈ rowsU) {b b' T : Int} (hT : 0 < T) (h : b ≤ b') : (u.2.2.1 * scaP b T) / u.2.2.2 ≤ (u.2.2.1 * scaP b' T) / u.2.2.2 := by
  obtain ⟨u1, u2, u3, u4⟩ := rowsU_ok u hu
  exact Int.ediv_le_ediv u3 (Int.mul_le_mul_of_nonneg_left (sca_mono hT h) (by lia))
theorem order_step {u : Nat × Nat × Int × Int} (hu : u ∈ rowsU) {b b' T : Int} (hT : 0 < T) (h : b + T ≤ b') : (u.2.2.1 * scaP b T) / u.2.2.2 + 65536 ≤ (u.2.2.1 * scaP b' T) / u.2.2.2 := by
  obtain ⟨u1, u2, u3, u4⟩ := rowsU_ok u hu
  have h1 := sca_mono hT h
  rw [sca_step hT] at h1
  have h2 : u.2.2.1 * (scaP b T + 65536) ≤ u.2.2.1 * scaP b' T := Int.mul_le_mul_of_nonneg_left h1 (by lia)
  have h3 := (rowsU_top u hu).2
  have h4 : u.2.2.1 * scaP b T + 65536 * u.2.2.2 ≤ u.2.2.1 * scaP b' T := by rw [Int.mul_add] at h2; lia
  have := Int.ediv_le_ediv u3 h4
  rwa [Int.add_mul_ediv_right _ _ (by lia)] at this
theorem padk_str {k m : Nat} {σ : Store} (hk : k ≤ 6) (h : m < 10 ^ k) : F_str [.int ((10 ^ k : Nat) + (m : Int))] σ = .ok (.str (chs (1 :: pad k m))) σ := by
  have h6 : 10 ^ k ≤ 10 ^ 6 := Nat.pow_le_pow_right (by decide) hk
  have := F_str_s (n := 10 ^ k + m) (σ := σ) (by lia)
  rw [dl_pad k m h, Int.natCast_add] at this
  exact this
section
theorem F_decimal_ok {σ : Store} {b k c1 c2 : Nat} (hb : b ≤ 2147483647) (hk : k ≤ 6) : F__law_decimal [.int (b : Int), .int (k : Int), .str [c1, c2]] σ = .ok (.str (chs (dl (b / 10 ^ k)) ++ 46 :: (chs (pad k (b % 10 ^ k)) ++ [c1, c2]))) σ := by
  have hT : 0 < 10 ^ k := Nat.pow_pos (by decide)
  have hT6 : 10 ^ k ≤ 10 ^ 6 := Nat.pow_le_pow_right (by decide) hk
  have hq : b / 10 ^ k ≤ 2147483647 := Nat.le_trans (Nat.div_le_self _ _) hb
  have hns := F_str_s (n := b / 10 ^ k) (σ := σ) hq
  have hps := padk_str (k := k) (m := b % 10 ^ k) (σ := σ) hk (Nat.mod_lt _ hT)
  have ht := str1_cons (σ := σ) (d := 1) (ds := pad k (b % 10 ^ k)) (by rw [pad_len]; lia)
  have c1' : (chs (pad k (b % 10 ^ k))).length ≤ 6 := by rw [chs_len, pad_len]; exact hk
  have c3 : (chs (dl (b / 10 ^ k))).length ≤ 10 := by rw [chs_len]; exact dl_len32 hq
  have hp : ((10 : Int) ^ k) = ((10 ^ k : Nat) : Int) := by simp
  have hk2 : (k : Int) ≤ 1000000 := by lia
  have hd : ((b : Int)).fdiv ((10 ^ k : Nat) : Int) = ((b / 10 ^ k : Nat) : Int) := by rw [fd _ (by lia)]; simp
  have hm : ((b : Int)).fmod ((10 ^ k : Nat) : Int) = ((b % 10 ^ k : Nat) : Int) := by rw [fm _ (by lia)]; simp
  have hdo : divOk (b : Int) ((10 ^ k : Nat) : Int) = true := divOk_s (by lia) (by lia)
  have hnz : ¬ (10 ^ k = 0) := by lia
  generalize chs (1 :: pad k (b % 10 ^ k)) = A1 at *
  generalize chs (pad k (b % 10 ^ k)) = B1 at *
  generalize chs (dl (b / 10 ^ k)) = CN at *
  generalize b / 10 ^ k = q at *
  generalize b % 10 ^ k = r at *
  have a5 := addL (σ := σ) (a := CN) (b := [46]) 10 1 c3 (by decide) (by decide)
  have a6 := addL (σ := σ) (a := CN ++ [46]) (b := B1) 11 6 (by simp; lia) c1' (by decide)
  have a7 := addL (σ := σ) (a := CN ++ [46] ++ B1) (b := [c1, c2]) 17 2 (by simp; lia) (by simp) (by decide)
  simp only [List.append_assoc, List.cons_append, List.nil_append] at a5 a6 a7
  generalize hTT : 10 ^ k = T at *
  simp [F__law_decimal, m__law_decimal, hk2, hp]
  simp [hk2, hp, hdo, hd, hns, a5, hnz, hm, hps, ht, a6, a7]
end

/- P24 -/
theorem read_dec {σ : Store} {b k : Nat} {u : Nat × Nat × Int × Int} (hu : u ∈ rowsU) (hk : k ≤ 6) (hb : b < 211 * 10 ^ k) :
    ∃ σ', F__law_read [.str (chs (dl (b / 10 ^ k)) ++ 46 :: (chs (pad k (b % 10 ^ k)) ++ [u.1, u.2.1]))] σ = .ok (.int ((u.2.2.1 * scaP b ((10 ^ k : Nat) : Int)) / u.2.2.2)) σ' ∧ Stands σ.length σ σ' := by
  have hT : 0 < 10 ^ k := Nat.pow_pos (by decide)
  have hq : b / 10 ^ k < 211 := Nat.div_lt_of_lt_mul (by lia)
  obtain ⟨u1, u2, u3, u4⟩ := rowsU_ok u hu
  have hV := rowsU_V u hu ((b / 10 ^ k : Nat) : Int) (fracOf ((pad k (b % 10 ^ k)).take 17))
  rw [conv_sca hk u3] at hV
  obtain ⟨σ', e, S⟩ := read_nd (σ := σ) (n := b / 10 ^ k) (mk := 46) (es := pad k (b % 10 ^ k)) (.inl rfl) (by lia) (pad_dig _ _) (by rw [pad_len]; lia) (rowsU_T u hu) hV rfl
  rw [ans_le (order_low hu (by lia) (by lia))] at e
  exact ⟨σ', e, S⟩
theorem in_two {σ : Store} {v : Int} {j : Nat} (h : σ[j]? = some (.list [.str [111, 118, 101, 114], .str [108, 101, 102, 116]])) : oIn σ (.int v) (.ref j) = some (.bool false) := by
  simp [oIn, h, flat2, flats2, eq2]
section
theorem L_order {σ : Store} {p : Nat} (P : Pool σ p) : ∃ σ', F__law_order [.ref p] σ = .ok (.bool true) σ' ∧ Pool σ' p := by
  have lp := P.lt
  have hU := F_lunits_ok σ
  obtain ⟨v, σ1, e1, hv, P1, K1⟩ := F_take_ok (P.app [.list (rowsU.map rowAV)]) (m := 8) (by decide)
  have hJ : σ1[σ.length]? = some (.list (rowsU.map rowAV)) := K1.get (by rw [getS0]; rfl) (by lia)
  have hv8 : v < rowsU.length := by show v < 8; lia
  have hR : rowsU[v]? = some rowsU[v] := List.getElem?_eq_getElem hv8
  have hm : rowsU[v] ∈ rowsU := List.getElem_mem hv8
  generalize rowsU[v] = u at *
  have hi : (rowsU.map rowAV)[v]? = some (rowAV u) := by simp [hR]
  generalize rowsU.map rowAV = RW at *
  obtain ⟨v6, σ2, e2, hv6, P2, K2⟩ := F_take_ok P1 (m := 6) (by decide)
  obtain ⟨less, σ3, e3, hl, P3, K3⟩ := F_great_ok P2 (m := 10000) (by decide)
  obtain ⟨q, σ4, e4, hq, P4, K4⟩ := F_take_ok P3 (m := 100) (by decide)
  obtain ⟨k, hk⟩ : ∃ k : Nat, (k : Int) = 1 + (v6 : Int) := ⟨1 + v6, by lia⟩
  have hk6 : k ≤ 6 := by lia
  have hT : 10 ≤ 10 ^ k := by
    have : 10 ^ 1 ≤ 10 ^ k := Nat.pow_le_pow_right (by decide) (by lia)
    lia
  have hT6 : 10 ^ k ≤ 10 ^ 6 := Nat.pow_le_pow_right (by decide) hk6
  have hp : ((10 : Int) ^ k) = ((10 ^ k : Nat) : Int) := by simp
  have P5 := P4.app [.list [.int 0, .int 1, .int (((10 ^ k : Nat) : Int) - 1), .int ((10 ^ k : Nat) : Int), .int (((10 ^ k : Nat) : Int) + 1), .int (q : Int)]]
  obtain ⟨y, σ6, e6, hy, P6, K6⟩ := F_take_ok P5 (m := 6) (by decide)
  have hJ6 : σ6[σ4.length]? = some (.list [.int 0, .int 1, .int (((10 ^ k : Nat) : Int) - 1), .int ((10 ^ k : Nat) : Int), .int (((10 ^ k : Nat) : Int) + 1), .int (q : Int)]) := K6.get (by rw [getS0]; rfl) (by have := P4.lt; lia)
  have key : ∃ d : Nat, ([.int 0, .int 1, .int (((10 ^ k : Nat) : Int) - 1), .int ((10 ^ k : Nat) : Int), .int (((10 ^ k : Nat) : Int) + 1), .int (q : Int)] : List AV)[y]? = some (.int (d : Int)) ∧ d < 11 * 10 ^ k := by
    match y, hy with
    | 0, _ => exact ⟨0, rfl, by lia⟩
    | 1, _ => exact ⟨1, rfl, by lia⟩
    | 2, _ => exact ⟨10 ^ k - 1, by rw [show ((10 ^ k - 1 : Nat) : Int) = ((10 ^ k : Nat) : Int) - 1 by lia]; rfl, by lia⟩
    | 3, _ => exact ⟨10 ^ k, rfl, by lia⟩
    | 4, _ => exact ⟨10 ^ k + 1, rfl, by lia⟩
    | 5, _ => exact ⟨q, rfl, by lia⟩
    | y + 6, h => lia
  obtain ⟨d, hd, hd2⟩ := key
  obtain ⟨b, hb⟩ : ∃ b : Nat, ((less : Int)).fmod (200 * ((10 ^ k : Nat) : Int)) = (b : Int) := ⟨less % (200 * 10 ^ k), by rw [fm _ (by lia)]; simp⟩
  have hb3 : b < 200 * 10 ^ k := by
    have := Int.emod_lt_of_pos (less : Int) (show 0 < 200 * ((10 ^ k : Nat) : Int) by lia)
    rw [fm _ (by lia)] at hb
    lia
  obtain ⟨b2, hb2⟩ : ∃ b2 : Nat, (b : Int) + ((less : Int) + (d : Int)) - (less : Int) = (b2 : Int) := ⟨b + d, by lia⟩
  obtain ⟨σ7, e7, S7⟩ := read_dec (σ := σ6) (b := b) hm hk6 (by lia)
  obtain ⟨σ8, e8, S8⟩ := read_dec (σ := σ7) (b := b2) hm hk6 (by lia)
  have d7 := F_decimal_ok (σ := σ6) (b := b) (c1 := u.1) (c2 := u.2.1) (by lia) hk6
  have d8 := F_decimal_ok (σ := σ7) (b := b2) (c1 := u.1) (c2 := u.2.1) (by lia) hk6
  have o1 := order_mono hm (b := b) (b' := b2) (T := ((10 ^ k : Nat) : Int)) (by lia) (by lia)
  have o2 : (d : Int) < ((10 ^ k : Nat) : Int) ∨ (u.2.2.1 * scaP b ((10 ^ k : Nat) : Int)) / u.2.2.2 + 65536 ≤ (u.2.2.1 * scaP b2 ((10 ^ k : Nat) : Int)) / u.2.2.2 := by
    by_cases hx : (d : Int) < ((10 ^ k : Nat) : Int)
    · exact .inl hx
    · exact .inr (order_step hm (by lia) (by lia))
  generalize (u.2.2.1 * scaP b ((10 ^ k : Nat) : Int)) / u.2.2.2 = V1 at *
  generalize (u.2.2.1 * scaP b2 ((10 ^ k : Nat) : Int)) / u.2.2.2 = V2 at *
  generalize chs (dl (b / 10 ^ k)) ++ 46 :: (chs (pad k (b % 10 ^ k)) ++ [u.1, u.2.1]) = W1 at *
  generalize chs (dl (b2 / 10 ^ k)) ++ 46 :: (chs (pad k (b2 % 10 ^ k)) ++ [u.1, u.2.1]) = W2 at *
  generalize 10 ^ k = T at *
  have i1 := in_two (σ := σ8 ++ [.list [.str [111, 118, 101, 114], .str [108, 101, 102, 116]]]) (v := V1) (j := σ8.length) (by rw [getS0]; rfl)
  have i2 := in_two (σ := σ8 ++ [.list [.str [111, 118, 101, 114], .str [108, 101, 102, 116]], .list [.str [111, 118, 101, 114], .str [108, 101, 102, 116]]]) (v := V2) (j := σ8.length + 1) (by rw [getS]; rfl)
  have hv62 : (v : Int) < 4611686018427387904 := by lia
  have hy62 : (y : Int) < 4611686018427387904 := by lia
  have hk1 : (k : Int) ≤ 1000000 := by lia
  have hT0 : ¬ 200 * (T : Int) = 0 := by lia
  refine ⟨_, ?_, ((P6.keep S7).keep S8).app [.list [.str [111, 118, 101, 114], .str [108, 101, 102, 116]], .list [.str [111, 118, 101, 114], .str [108, 101, 102, 116]]]⟩
  have hit := oItem_ref hJ hi (by lia)
  have hit6 := oItem_ref hJ6 hd (by lia)
  simp [F__law_order, m__law_order, hU, e1, hit, rowAV, e2, e3, ← hk, hk1, hp, e4]
  simp [e6, hit6, hk1, hp, mulOk_l (a := 200) (b := (T : Int)) (by decide), hT0, hb, d7, e7, hb2, d8, e8, getS, getS0, i1, i2]
  have hld : (less : Int) + (d : Int) - (less : Int) = (d : Int) := by lia
  by_cases hx : (d : Int) < (T : Int)
  · simp [o1, hld, hx, hk1, hp]
  · have o3 : 65536 ≤ V2 - V1 := by lia
    simp [o1, hld, hx, hk1, hp, o3]
end

/- P25 -/
theorem numFrom_app (w : Int) (ds es : List Nat) : numFrom w (ds ++ es) = numFrom (numFrom w ds) es := by simp [numFrom]
theorem numFrom_zeros (w : Int) : ∀ z : Nat, numFrom w (List.replicate z 0) = w * 10 ^ z
  | 0 => by simp [numFrom]
  | z + 1 => by
    rw [List.replicate_succ, numFrom_cons, numFrom_zeros _ z, Int.pow_succ]
    grind
/-- noughts behind the decimals change nothing -/
theorem frac_zeros (ds : List Nat) (z : Nat) : fracOf (ds ++ List.replicate z 0) = fracOf ds := by
  unfold fracOf
  rw [numFrom_app, numFrom_zeros, List.length_append, List.length_replicate, Int.pow_add]
  have hp : (0 : Int) < 10 ^ ds.length := Int.pow_pos (by decide)
  have hz : (0 : Int) < 10 ^ z := Int.pow_pos (by decide)
  rw [fd (b := 10 ^ ds.length * 10 ^ z) _ (Int.le_of_lt (Int.mul_pos hp hz)), fd (b := 10 ^ ds.length) _ (Int.le_of_lt hp), ← Int.mul_assoc, Int.mul_ediv_mul_of_pos_left _ _ hz]
theorem Tail_up : ∀ u ∈ rowsU, Tail [32, 32, u.1 - 32, u.2.1 - 32] [] (u.1 - 32) (u.2.1 - 32) ∧ Tail [32, u.1, u.2.1, 32] [32] u.1 u.2.1 ∧ 97 ≤ u.1 ∧ u.1 ≤ 122 ∧ 97 ≤ u.2.1 ∧ u.2.1 ≤ 122 := by
  intro R h
  simp only [rowsU, List.mem_cons, List.not_mem_nil, or_false] at h
  rcases h with rfl | rfl | rfl | rfl | rfl | rfl | rfl | rfl <;> exact ⟨⟨by decide, by decide, by decide, by decide, by decide, by decide, by decide, by decide⟩, ⟨by decide, by decide, by decide, by decide, by decide, by decide, by decide, by decide⟩, by decide, by decide, by decide, by decide⟩
theorem rowsU_VU : ∀ u ∈ rowsU, ∀ w f : Int, unitV (u.1 - 32) (u.2.1 - 32) w f = some (convV w f u.2.2.1 u.2.2.2) := by
  intro R h w f
  simp only [rowsU, List.mem_cons, List.not_mem_nil, or_false] at h
  rcases h with rfl | rfl | rfl | rfl | rfl | rfl | rfl | rfl <;> rfl
theorem ways_le {u : Nat × Nat × Int × Int} (hu : u ∈ rowsU) {n : Nat} {f : Int} (hn : n < 100) (hf : f ≤ 65536) : convV n f u.2.2.1 u.2.2.2 ≤ 1073741823 := conv_le hu (by lia)
/-- a word with signs ahead -/
theorem read_way {σ : Store} {pre ds es rest tl W : List Nat} {mk c1 c2 : Nat} {neg : Bool} {V : Int} (hmk : mk = 46 ∨ mk = 44) (h0 : ds ≠ []) (hs : ∀ w, sgn false (pre ++ (chs ds ++ w)) = (neg, chs ds ++ w)) (hp : ∀ c ∈ pre, c < 128) (hpl : pre.length ≤ 10) (hds : ∀ d ∈ ds, d < 10) (hdl : ds.length ≤ 20) (hm : numFrom 0 ds ≤ 2147483647) (hes : ∀ d ∈ es, d < 10) (hl : es.length ≤ 50) (T : Tail rest tl c1 c2) (hV : unitV c1 c2 (numFrom 0 ds) (fracOf (es.take 17)) = some V) (hW : W = pre ++ (chs ds ++ mk :: (chs es ++ rest))) :
    ∃ σ', F__law_read [.str W] σ = .ok (ans neg V) σ' ∧ Stands σ.length σ σ' := by
  subst hW
  have htl := T.len
  have hlen : (pre ++ (chs ds ++ mk :: (chs es ++ rest))).length < 180 := by rw [List.length_append, List.length_append, List.length_cons, List.length_append, chs_len, chs_len]; lia
  have R := reads_B hmk (hs (mk :: (chs es ++ rest))) hlen h0 hds hes hm (by lia) hl T hV
  refine F_lread_ok R ?_ (by lia)
  intro c hc
  rcases List.mem_append.mp hc with h | h
  · exact hp c h
  · rcases List.mem_append.mp h with h | h
    · have := chs_small hds c h; lia
    · rcases List.mem_cons.mp h with h | h
      · lia
      · rcases List.mem_append.mp h with h | h
        · have := chs_small hes c h; lia
        · have := T.small c h; lia
theorem ans_neg {V : Int} (h : V ≤ 1073741823) : ans true V = .int (-1 * V) := by rw [ans, if_pos h, if_pos rfl, Int.neg_one_mul]
theorem ans_pos {V : Int} (h : V ≤ 1073741823) : ans false V = .int (1 * V) := by rw [ans_le h, Int.one_mul]
/-- the five ways of one word -/
noncomputable def waysL (N B : List Nat) (c1 c2 : Nat) : List AV :=
  [.tup [.str (45 :: (N ++ 46 :: (B ++ [c1, c2]))), .int (-1)],
   .tup [.str ([45, 32, 43, 32, 45] ++ (N ++ 44 :: (B ++ [32, c1, c2, 32]))), .int 1],
   .tup [.str ([48, 48, 48] ++ (N ++ 46 :: (B ++ [48, 48, 48, 48, c1, c2]))), .int 1],
   .tup [.str (32 :: (N ++ 46 :: (B ++ [32, 32, c1 - 32, c2 - 32]))), .int 1],
   .tup [.str (43 :: (N ++ 44 :: (B ++ (List.replicate 20 48 ++ [c1, c2])))), .int 1]]
theorem ways_read {u : Nat × Nat × Int × Int} (hu : u ∈ rowsU) {n m y : Nat} (hn : n < 100) (hm : m < 100) (hy : y < 5) : ∃ (W : List Nat) (s : Int), (waysL (chs (dl n)) (chs (pad 2 m)) u.1 u.2.1)[y]? = some (.tup [.str W, .int s]) ∧ (s = 1 ∨ s = -1) ∧ ∀ σ : Store, ∃ σ', F__law_read [.str W] σ = .ok (.int (s * convV n (fracOf (pad 2 m)) u.2.2.1 u.2.2.2)) σ' ∧ Stands σ.length σ σ' := by
  have hpl : (pad 2 m).length = 2 := pad_len 2 m
  have hpd := pad_dig 2 m
  have h17 : (pad 2 m).take 17 = pad 2 m := List.take_of_length_le (by lia)
  have hfb := fracOf_b hpd
  have hle := ways_le hu (n := n) hn hfb.2
  have hdl : (dl n).length ≤ 10 := dl_len32 (by lia)
  have hz4 : (pad 2 m ++ [0, 0, 0, 0]).take 17 = pad 2 m ++ List.replicate 4 0 := List.take_of_length_le (by simp; lia)
  have hz20 : (pad 2 m ++ List.replicate 20 0).take 17 = pad 2 m ++ List.replicate 15 0 := by
    rw [List.take_append, List.take_of_length_le (by lia), hpl]
    rfl
  obtain ⟨T1, T2, t1, t2, t3, t4⟩ := Tail_up u hu
  have hch : ∀ z, chs (List.replicate z 0) = List.replicate z 48 := fun z => by simp [chs]
  have hnum : numFrom 0 (dl n) ≤ 2147483647 := by rw [dl_num]; lia
  have hnum3 : numFrom 0 ([0, 0, 0] ++ dl n) = (n : Int) := by rw [numFrom_app]; exact dl_num n
  match y, hy with
  | 0, _ =>
    refine ⟨_, _, rfl, .inr rfl, fun σ => ?_⟩
    rw [← ans_neg hle]
    exact read_way (pre := [45]) (mk := 46) (.inl rfl) (dl_ne n) (fun w => by rw [← sgn_chs true (w := w) (dl_ne n)]; rfl) (by decide) (by decide) (dl_dig n) (by lia) hnum hpd (by lia) (rowsU_T u hu) (by rw [h17, dl_num]; exact rowsU_V u hu _ _) rfl
  | 1, _ =>
    refine ⟨_, _, rfl, .inl rfl, fun σ => ?_⟩
    rw [← ans_pos hle]
    exact read_way (pre := [45, 32, 43, 32, 45]) (mk := 44) (.inr rfl) (dl_ne n) (fun w => by rw [← sgn_chs false (w := w) (dl_ne n)]; rfl) (by decide) (by decide) (dl_dig n) (by lia) hnum hpd (by lia) T2 (by rw [h17, dl_num]; exact rowsU_V u hu _ _) rfl
  | 2, _ =>
    refine ⟨_, _, rfl, .inl rfl, fun σ => ?_⟩
    rw [← ans_pos hle]
    exact read_way (pre := []) (ds := [0, 0, 0] ++ dl n) (es := pad 2 m ++ [0, 0, 0, 0]) (mk := 46) (.inl rfl) (by simp) (fun w => sgn_chs false (by simp)) (by decide) (by decide) (fun d hd => (List.mem_append.mp hd).elim (fun h => by simp at h; lia) (dl_dig n d)) (by simp; lia) (by rw [hnum3]; lia)
      (fun d hd => (List.mem_append.mp hd).elim (hpd d) (fun h => by simp at h; lia)) (by simp; lia) (rowsU_T u hu) (by rw [hz4, frac_zeros, hnum3]; exact rowsU_V u hu _ _) (by simp [chs])
  | 3, _ =>
    refine ⟨_, _, rfl, .inl rfl, fun σ => ?_⟩
    rw [← ans_pos hle]
    exact read_way (pre := [32]) (mk := 46) (.inl rfl) (dl_ne n) (fun w => by rw [← sgn_chs false (w := w) (dl_ne n)]; rfl) (by decide) (by decide) (dl_dig n) (by lia) hnum hpd (by lia) T1 (by rw [h17, dl_num]; exact rowsU_VU u hu _ _) rfl
  | 4, _ =>
    refine ⟨_, _, rfl, .inl rfl, fun σ => ?_⟩
    rw [← ans_pos hle]
    exact read_way (pre := [43]) (es := pad 2 m ++ List.replicate 20 0) (mk := 44) (.inr rfl) (dl_ne n) (fun w => by rw [← sgn_chs false (w := w) (dl_ne n)]; rfl) (by decide) (by decide) (dl_dig n) (by lia) hnum
      (fun d hd => (List.mem_append.mp hd).elim (hpd d) (fun h => by have := List.eq_of_mem_replicate h; lia)) (by simp; lia) (rowsU_T u hu) (by rw [hz20, frac_zeros, dl_num]; exact rowsU_V u hu _ _) (by simp [chs])
  | y + 5, h => lia

/- P26 -/
section
/-- the letters in capitals -/
theorem upper_ok {c1 c2 : Nat} {ρ : Loc} {σ : Store} (h1 : 97 ≤ c1) (h2 : c1 ≤ 122) (h3 : 97 ≤ c2) (h4 : c2 ≤ 122) (hρ : ρ[1]? = some (some (.str [c1, c2]))) :
    mJoin (mComp (eCall F_chr (eOp2 oSub (eCall F_ord (fun _ v σ => .ok v σ)) (fun _ _ σ => .ok (.int 32) σ))) (mLoc 1)) ρ σ = .ok (.str [c1 - 32, c2 - 32]) (σ ++ [.list [.str [c1 - 32], .str [c2 - 32]]]) := by
  have a1 : c1 < 128 := by lia
  have a2 : c2 < 128 := by lia
  have b1 : (0 : Int) ≤ (c1 : Int) - 32 ∧ (c1 : Int) - 32 ≤ 127 := by lia
  have b2 : (0 : Int) ≤ (c2 : Int) - 32 ∧ (c2 : Int) - 32 ≤ 127 := by lia
  have d1 : ((c1 : Int) - 32).toNat = c1 - 32 := by lia
  have d2 : ((c2 : Int) - 32).toNat = c2 - 32 := by lia
  have f1 : ∀ σ, F_chr [.int ((c1 : Int) - 32)] σ = .ok (.str [c1 - 32]) σ := fun σ => by simp only [F_chr, if_pos b1, d1]
  have f2 : ∀ σ, F_chr [.int ((c2 : Int) - 32)] σ = .ok (.str [c2 - 32]) σ := fun σ => by simp only [F_chr, if_pos b2, d2]
  have hl1 : mLoc 1 ρ σ = .ok (.str [c1, c2]) σ := by rw [uLoc, hρ]; rfl
  simp [mJoin, mComp, hl1, a1, a2]
  unfold mCompF
  simp [strItem, eCall, eOp2, f1, getS0, setS0]
  unfold mCompF
  simp [strItem, eCall, eOp2, f2, getS0, setS0]
  unfold mCompF
  simp [strItem, getS0, strsA]
theorem ways_list {c1 c2 : Nat} {N B : List Nat} {t : AV} {p : Nat} {σ : Store} (h1 : 97 ≤ c1) (h2 : c1 ≤ 122) (h3 : 97 ≤ c2) (h4 : c2 ≤ 122) (hN : N.length ≤ 10) (hB : B.length ≤ 2) :
    (mList [mTup [mOp2 oAdd (mOp2 oAdd (mOp2 oAdd (mOp2 oAdd (mVal (.str [45])) (mLoc 2)) (mVal (.str [46]))) (mLoc 3)) (mLoc 1), mOp1 oNeg (mVal (.int 1))], mTup [mOp2 oAdd (mOp2 oAdd (mOp2 oAdd (mOp2 oAdd (mOp2 oAdd (mOp2 oAdd (mVal (.str [45, 32, 43, 32, 45])) (mLoc 2)) (mVal (.str [44]))) (mLoc 3)) (mVal (.str [32]))) (mLoc 1)) (mVal (.str [32])), mVal (.int 1)], mTup [mOp2 oAdd (mOp2 oAdd (mOp2 oAdd (mOp2 oAdd (mOp2 oAdd (mVal (.str [48, 48, 48])) (mLoc 2)) (mVal (.str [46]))) (mLoc 3)) (mVal (.str [48, 48, 48, 48]))) (mLoc 1), mVal (.int 1)], mTup [mOp2 oAdd (mOp2 oAdd (mOp2 oAdd (mOp2 oAdd (mOp2 oAdd (mVal (.str [32])) (mLoc 2)) (mVal (.str [46]))) (mLoc 3)) (mVal (.str [32, 32]))) (mJoin (mComp (eCall F_chr (eOp2 oSub (eCall F_ord (fun _ v σ => .ok v σ)) (fun _ _ σ => .ok (.int 32) σ))) (mLoc 1))), mVal (.int 1)], mTup [mOp2 oAdd (mOp2 oAdd (mOp2 oAdd (mOp2 oAdd (mOp2 oAdd (mVal (.str [43])) (mLoc 2)) (mVal (.str [44]))) (mLoc 3)) (mOp2 oMul (mVal (.str [48])) (mVal (.int 20)))) (mLoc 1), mVal (.int 1)]])
      [some (.ref p), some (.str [c1, c2]), some (.str N), some (.str B), some t, none, none, none, none, none, none, none, none, none] σ
      = .ok (.ref (σ.length + 1)) (σ ++ [.list [.str [c1 - 32], .str [c2 - 32]], .list (waysL N B c1 c2)]) := by
  have hu := upper_ok (ρ := [some (.ref p), some (.str [c1, c2]), some (.str N), some (.str B), some t, none, none, none, none, none, none, none, none, none]) (σ := σ) h1 h2 h3 h4 rfl
  have a0 := fun σ => addL (σ := σ) (a := [45]) (b := N) 1 10 (by decide) hN (by decide)
  have a1 := fun σ => addL (σ := σ) (a := [45] ++ N) (b := [46]) 11 1 (by simp; lia) (by decide) (by decide)
  have a2 := fun σ => addL (σ := σ) (a := [45] ++ N ++ [46]) (b := B) 12 2 (by simp; lia) hB (by decide)
  have a3 := fun σ => addL (σ := σ) (a := [45] ++ N ++ [46] ++ B) (b := [c1, c2]) 14 2 (by simp; lia) (by simp) (by decide)
  have b0 := fun σ => addL (σ := σ) (a := [45, 32, 43, 32, 45]) (b := N) 5 10 (by decide) hN (by decide)
  have b1 := fun σ => addL (σ := σ) (a := [45, 32, 43, 32, 45] ++ N) (b := [44]) 15 1 (by simp; lia) (by decide) (by decide)
  have b2 := fun σ => addL (σ := σ) (a := [45, 32, 43, 32, 45] ++ N ++ [44]) (b := B) 16 2 (by simp; lia) hB (by decide)
  have b3 := fun σ => addL (σ := σ) (a := [45, 32, 43, 32, 45] ++ N ++ [44] ++ B) (b := [32]) 18 1 (by simp; lia) (by simp) (by decide)
  have b4 := fun σ => addL (σ := σ) (a := [45, 32, 43, 32, 45] ++ N ++ [44] ++ B ++ [32]) (b := [c1, c2]) 19 2 (by simp; lia) (by simp) (by decide)
  have b5 := fun σ => addL (σ := σ) (a := [45, 32, 43, 32, 45] ++ N ++ [44] ++ B ++ [32] ++ [c1, c2]) (b := [32]) 21 2 (by simp; lia) (by simp) (by decide)
  have d0 := fun σ => addL (σ := σ) (a := [48, 48, 48]) (b := N) 3 10 (by decide) hN (by decide)
  have d1 := fun σ => addL (σ := σ) (a := [48, 48, 48] ++ N) (b := [46]) 13 1 (by simp; lia) (by decide) (by decide)
  have d2 := fun σ => addL (σ := σ) (a := [48, 48, 48] ++ N ++ [46]) (b := B) 14 2 (by simp; lia) hB (by decide)
  have d3 := fun σ => addL (σ := σ) (a := [48, 48, 48] ++ N ++ [46] ++ B) (b := [48, 48, 48, 48]) 16 4 (by simp; lia) (by simp) (by decide)
  have d4 := fun σ => addL (σ := σ) (a := [48, 48, 48] ++ N ++ [46] ++ B ++ [48, 48, 48, 48]) (b := [c1, c2]) 20 2 (by simp; lia) (by simp) (by decide)
  have f0 := fun σ => addL (σ := σ) (a := [32]) (b := N) 1 10 (by decide) hN (by decide)
  have f1 := fun σ => addL (σ := σ) (a := [32] ++ N) (b := [46]) 11 1 (by simp; lia) (by decide) (by decide)
  have f2 := fun σ => addL (σ := σ) (a := [32] ++ N ++ [46]) (b := B) 12 2 (by simp; lia) hB (by decide)
  have f3 := fun σ => addL (σ := σ) (a := [32] ++ N ++ [46] ++ B) (b := [32, 32]) 14 2 (by simp; lia) (by simp) (by decide)
  have f4 := fun σ => addL (σ := σ) (a := [32] ++ N ++ [46] ++ B ++ [32, 32]) (b := [c1 - 32, c2 - 32]) 16 2 (by simp; lia) (by simp) (by decide)
  have g0 := fun σ => addL (σ := σ) (a := [43]) (b := N) 1 10 (by decide) hN (by decide)
  have g1 := fun σ => addL (σ := σ) (a := [43] ++ N) (b := [44]) 11 1 (by simp; lia) (by decide) (by decide)
  have g2 := fun σ => addL (σ := σ) (a := [43] ++ N ++ [44]) (b := B) 12 2 (by simp; lia) hB (by decide)
  have g3 := fun σ => addL (σ := σ) (a := [43] ++ N ++ [44] ++ B) (b := List.replicate 20 48) 14 20 (by simp; lia) (by simp) (by decide)
  have g4 := fun σ => addL (σ := σ) (a := [43] ++ N ++ [44] ++ B ++ List.replicate 20 48) (b := [c1, c2]) 34 2 (by simp; lia) (by simp) (by decide)
  have hmul := fun (σ : Store) => (show oMul σ (.str [48]) (.int 20) = some (.str (List.replicate 20 48)) from rfl)
  unfold waysL
  generalize List.replicate 20 48 = R at *
  simp only [List.append_assoc, List.cons_append, List.nil_append] at a0 a1 a2 a3 b0 b1 b2 b3 b4 b5 d0 d1 d2 d3 d4 f0 f1 f2 f3 f4 g0 g1 g2 g3 g4
  simp [hmul, a0, a1, a2, a3, b0, b1, b2, b3, b4, b5, d0, d1, d2, d3, d4, f0, f1, f2, f3, f4, g0, g1, g2, g3, g4, hu]
end

/- P27 -/
section
theorem ways_turn {σ : Store} {p j k fuel n m : Nat} {u : Nat × Nat × Int × Int} (hu : u ∈ rowsU) (hn : n < 100) (hm : m < 100) (P : Pool σ p) (hJ : σ[j]? = some (.list (waysL (chs (dl n)) (chs (pad 2 m)) u.1 u.2.1))) (hj : j ≠ p) (hk : k < 2) {x1 x2 x3 x6 x7 x8 : Option AV} :
    ∃ σ' x6' x7' x8', mForF (rangeItem 2) (tgName 6) (mSeq (mSetTup [7, 8] (mOp2 oItem (mLoc 5) (mCall F__law_take [mLoc 0, mVal (.int 5)]))) (mSeq (mIfS (mOp2 oNe (mCall F__law_read [mLoc 7]) (mOp2 oMul (mLoc 8) (mLoc 4))) (mSeq (mRet (mVal (.bool false))) (mNil)) (mNil)) (mNil))) (fuel + 1) k
        [some (.ref p), x1, x2, x3, some (.int (convV n (fracOf (pad 2 m)) u.2.2.1 u.2.2.2)), some (.ref j), x6, x7, x8, none, none, none, none, none] σ
      = mForF (rangeItem 2) (tgName 6) (mSeq (mSetTup [7, 8] (mOp2 oItem (mLoc 5) (mCall F__law_take [mLoc 0, mVal (.int 5)]))) (mSeq (mIfS (mOp2 oNe (mCall F__law_read [mLoc 7]) (mOp2 oMul (mLoc 8) (mLoc 4))) (mSeq (mRet (mVal (.bool false))) (mNil)) (mNil)) (mNil))) fuel (k + 1)
        [some (.ref p), x1, x2, x3, some (.int (convV n (fracOf (pad 2 m)) u.2.2.1 u.2.2.2)), some (.ref j), x6', x7', x8', none, none, none, none, none] σ'
      ∧ Pool σ' p ∧ σ'[j]? = some (.list (waysL (chs (dl n)) (chs (pad 2 m)) u.1 u.2.1)) := by
  obtain ⟨y, σ1, e1, hy, P1, K1⟩ := F_take_ok P (m := 5) (by decide)
  have hJ1 := K1.get hJ hj
  obtain ⟨W, s, hi, hs, hr⟩ := ways_read hu hn hm (y := y) (by lia)
  obtain ⟨σ2, e2, S2⟩ := hr σ1
  generalize convV n (fracOf (pad 2 m)) u.2.2.1 u.2.2.2 = V at *
  generalize waysL (chs (dl n)) (chs (pad 2 m)) u.1 u.2.1 = WL at *
  refine ⟨σ2, some (.int k), some (.str W), some (.int s), ?_, P1.keep S2, by rw [S2.old j (List.getElem?_eq_some_iff.mp hJ1).1]; exact hJ1⟩
  have hy62 : (y : Int) < 4611686018427387904 := by lia
  have hmul : mulOk s V = true := mulOk_l (by lia)
  conv => lhs; unfold mForF
  have hit := oItem_ref hJ1 hi (by lia)
  simp [rangeItem, hk, tgName, e1, hit, e2, hmul]
theorem L_ways {σ : Store} {p : Nat} (P : Pool σ p) : ∃ σ', F__law_ways [.ref p] σ = .ok (.bool true) σ' ∧ Pool σ' p := by
  have lp := P.lt
  have hU := F_lunits_ok σ
  obtain ⟨v, σ1, e1, hv, P1, K1⟩ := F_take_ok (P.app [.list (rowsU.map rowAV)]) (m := 8) (by decide)
  have hJ : σ1[σ.length]? = some (.list (rowsU.map rowAV)) := K1.get (by rw [getS0]; rfl) (by lia)
  have hv8 : v < rowsU.length := by show v < 8; lia
  have hR : rowsU[v]? = some rowsU[v] := List.getElem?_eq_getElem hv8
  have hmem : rowsU[v] ∈ rowsU := List.getElem_mem hv8
  generalize rowsU[v] = u at *
  have hi : (rowsU.map rowAV)[v]? = some (rowAV u) := by simp [hR]
  generalize rowsU.map rowAV = RW at *
  obtain ⟨n, σ2, e2, hn, P2, K2⟩ := F_take_ok P1 (m := 100) (by decide)
  obtain ⟨m, σ3, e3, hm, P3, K3⟩ := F_take_ok P2 (m := 100) (by decide)
  have hn2 : n ≤ 2147483647 := by lia
  have hpl : (pad 2 m).length = 2 := pad_len 2 m
  have hpd := pad_dig 2 m
  have h17 : (pad 2 m).take 17 = pad 2 m := List.take_of_length_le (by lia)
  have hle := ways_le hmem (n := n) (by lia) (fracOf_b hpd).2
  have hV := rowsU_V u hmem n (fracOf (pad 2 m))
  have s2 := F_str_s (n := n) (σ := σ2) hn2
  have s3 := padk_str (k := 2) (m := m) (σ := σ3) (by decide) (by show m < 100; lia)
  have t3 := str1_cons (σ := σ3) (d := 1) (ds := pad 2 m) (by lia)
  have c1 : (chs (pad 2 m)).length ≤ 2 := by rw [chs_len]; lia
  have c3 : (chs (dl n)).length ≤ 10 := by rw [chs_len]; exact dl_len32 hn2
  obtain ⟨σ4, e4, S4⟩ := read_nd (σ := σ3) (n := n) (mk := 46) (es := pad 2 m) (W := chs (dl n) ++ [46] ++ chs (pad 2 m) ++ [u.1, u.2.1]) (.inl rfl) hn2 hpd (by lia) (rowsU_T u hmem) (by rw [h17]; exact hV) (by simp)
  rw [ans_le hle] at e4
  have a5 := fun σ => addL (σ := σ) (a := chs (dl n)) (b := [46]) 10 1 c3 (by decide) (by decide)
  have a6 := fun σ => addL (σ := σ) (a := chs (dl n) ++ [46]) (b := chs (pad 2 m)) 11 2 (by simp; lia) c1 (by decide)
  have a7 := fun σ => addL (σ := σ) (a := chs (dl n) ++ [46] ++ chs (pad 2 m)) (b := [u.1, u.2.1]) 13 2 (by simp; lia) (by simp) (by decide)
  obtain ⟨_, _, t1', t2', t3', t4'⟩ := Tail_up u hmem
  have hw := ways_list (c1 := u.1) (c2 := u.2.1) (N := chs (dl n)) (B := chs (pad 2 m)) (t := .int (convV n (fracOf (pad 2 m)) u.2.2.1 u.2.2.2)) (p := p) (σ := σ4) t1' t2' t3' t4' c3 c1
  have P4 := P3.keep S4
  have P5 := P4.app [.list [.str [u.1 - 32], .str [u.2.1 - 32]], .list (waysL (chs (dl n)) (chs (pad 2 m)) u.1 u.2.1), .list [.str [111, 118, 101, 114], .str [108, 101, 102, 116]]]
  have i1 := in_two (σ := σ4 ++ [.list [.str [u.1 - 32], .str [u.2.1 - 32]], .list (waysL (chs (dl n)) (chs (pad 2 m)) u.1 u.2.1), .list [.str [111, 118, 101, 114], .str [108, 101, 102, 116]]]) (v := convV n (fracOf (pad 2 m)) u.2.2.1 u.2.2.2) (j := σ4.length + 2) (by rw [getS]; rfl)
  obtain ⟨σ6, x6, x7, x8, f1, P6, J6⟩ := ways_turn (n := n) (m := m) (j := σ4.length + 1) (k := 0) (fuel := 2) (x1 := some (.str [u.1, u.2.1])) (x2 := some (.str (chs (dl n)))) (x3 := some (.str (chs (pad 2 m)))) (x6 := none) (x7 := none) (x8 := none) hmem (by lia) (by lia) P5 (by rw [getS]; rfl) (by have := P4.lt; lia) (by decide)
  obtain ⟨σ7, y6, y7, y8, f2, P7, J7⟩ := ways_turn (n := n) (m := m) (j := σ4.length + 1) (k := 1) (fuel := 1) (x1 := some (.str [u.1, u.2.1])) (x2 := some (.str (chs (dl n)))) (x3 := some (.str (chs (pad 2 m)))) (x6 := x6) (x7 := x7) (x8 := x8) hmem (by lia) (by lia) P6 J6 (by have := P4.lt; lia) (by decide)
  have f := f1.trans f2
  generalize convV n (fracOf (pad 2 m)) u.2.2.1 u.2.2.2 = V at *
  generalize waysL (chs (dl n)) (chs (pad 2 m)) u.1 u.2.1 = WL at *
  generalize chs (1 :: pad 2 m) = A1 at *
  generalize chs (pad 2 m) = B at *
  generalize chs (dl n) = N at *
  refine ⟨σ7, ?_, P7⟩
  have hv62 : (v : Int) < 4611686018427387904 := by lia
  simp only [List.append_assoc, List.cons_append, List.nil_append] at e4 a5 a6 a7
  rw [show ((10 ^ 2 : Nat) : Int) = 100 from rfl] at s3
  unfold F__law_ways mFn
  simp only [List.length_cons, List.length_nil, if_pos, List.cons_append, List.nil_append, List.map_cons, List.map_nil, List.replicate]
  unfold m__law_ways
  have hit := oItem_ref hJ hi (by lia)
  simp [-uLst, hU, e1, hit, rowAV, e2, s2, e3, s3, t3, a5, a6, a7, e4]
  rw [hw]
  simp [getS, i1, mForR]
  rw [f]
  unfold mForF
  simp [rangeItem]
end

/- P28 -/
theorem mulOk_big {a b t : Nat} (ha : a < 10 ^ (120 * t)) (ht : t ≤ 24) (hb : b < 10 ^ (120 * 2)) : mulOk (a : Int) (b : Int) = true := by
  have key : ∀ (n s : Nat), n < 10 ^ (120 * s) → s ≤ 24 → Builtin.Int.intBits (n : Int) ≤ 480 * 24 := by
    intro n s hn hs
    unfold Builtin.Int.intBits
    split
    · lia
    · rename_i h0
      have h0' : n ≠ 0 := by simpa using h0
      rw [Int.natAbs_natCast]
      have h1 : n < 2 ^ (480 * s) := by
        have h2 : 10 ^ (120 * s) ≤ 16 ^ (120 * s) := Nat.pow_le_pow_left (by decide) _
        have h3 : (16 : Nat) ^ (120 * s) = 2 ^ (480 * s) := by
          rw [show (16 : Nat) = 2 ^ 4 from rfl, ← Nat.pow_mul]
          congr 1
          lia
        lia
      have := (Nat.log2_lt h0').mpr h1
      lia
  have h1 := key a t ha ht
  have h2 := key b 2 hb (by decide)
  unfold mulOk
  rw [show Builtin.Int.intTooBig (Builtin.Int.intBits (a : Int) + Builtin.Int.intBits (b : Int)) = false from by simp [Builtin.Int.intTooBig, bitsLine]; lia]
  simp
theorem fmod_nat {x m : Int} (h : 0 < m) : ∃ b : Nat, x.fmod m = (b : Int) := ⟨(x.fmod m).toNat, (Int.toNat_of_nonneg (fmod_nonneg h)).symm⟩
section
theorem pool_loop {j p : Nat} {v0 : AV} {all : List Int} (hj : j ≠ p) : ∀ (cs : List Int) (k fuel t a b : Nat) (x : Option AV) (σ : Store), all.drop k = cs → cs.length < fuel → σ[j]? = some (.list (all.map .int)) → σ[p]? = some (.list [.int (a : Int), .int (b : Int)]) → a < 10 ^ (120 * t) → t + cs.length ≤ 24 →
    ∃ σ' x', mForF (listItem j) (tgName 2) (mSeq (mIfS (mOp2 oGe (mCall F_abs [mLoc 2]) (mOp2 oPow (mVal (.int 10)) (mVal (.int 18)))) (mSeq (mPutI (mOp2 oAdd (mOp2 oMul (mOp2 oItem (mLoc 1) (mVal (.int 0))) (mOp2 oPow (mVal (.int 10)) (mVal (.int 120)))) (mOp2 oMod (mCall F_abs [mLoc 2]) (mOp2 oPow (mVal (.int 10)) (mVal (.int 120))))) (mLoc 1) (mVal (.int 0))) (mNil)) (mSeq (mPutI (mOp2 oMod (mOp2 oAdd (mOp2 oAdd (mOp2 oMul (mOp2 oItem (mLoc 1) (mVal (.int 1))) (mVal (.int 1000003))) (mOp2 oMul (mVal (.int 2)) (mCall F_abs [mLoc 2]))) (mCall F_int [mOp2 oLt (mLoc 2) (mVal (.int 0))])) (mVal (.int 2147483647))) (mLoc 1) (mVal (.int 1))) (mNil))) (mNil)) fuel k
        [some v0, some (.ref p), x, none, none] σ = .ok (.next, [some v0, some (.ref p), x', none, none]) σ' ∧ Pool σ' p
  | [], k, fuel, t, a, b, x, σ, hk, hf, hJ, hP, ha, ht => by
    obtain ⟨fuel, rfl⟩ : ∃ n, fuel = n + 1 := ⟨fuel - 1, by simp at hf; lia⟩
    have hk' : all.length ≤ k := List.drop_eq_nil_iff.mp hk
    refine ⟨σ, x, ?_, ⟨a, b, hP⟩⟩
    unfold mForF
    simp [listItem, hJ, hk']
  | c :: cs, k, fuel, t, a, b, x, σ, hk, hf, hJ, hP, ha, ht => by
    obtain ⟨fuel, rfl⟩ : ∃ n, fuel = n + 1 := ⟨fuel - 1, by simp at hf; lia⟩
    have hk1 : all[k]? = some c := by
      have := congrArg (fun l => l[0]?) hk
      simpa using this
    have hk2 : all.drop (k + 1) = cs := by
      have := congrArg (fun l => l.drop 1) hk
      simpa [List.drop_drop, Nat.add_comm] using this
    have lp := (List.getElem?_eq_some_iff.mp hP).1
    have habs : (if c < 0 then -c else c) = (c.natAbs : Int) := by lia
    simp at ht
    have x0 : oItem σ (.ref p) (.int 0) = some (.int (a : Int)) := oItem_ref (v := 0) hP rfl (by decide)
    have x1 : oItem σ (.ref p) (.int 1) = some (.int (b : Int)) := oItem_ref (v := 1) hP rfl (by decide)
    by_cases hc : (10 : Int) ^ 18 ≤ (c.natAbs : Int)
    · have hD : 0 < 10 ^ 120 := Nat.pow_pos (by decide)
      have hr : c.natAbs % 10 ^ 120 < 10 ^ 120 := Nat.mod_lt _ hD
      have hm := mulOk_big (a := a) (b := 10 ^ 120) (t := t) ha (by lia) (Nat.pow_lt_pow_right (by decide) (by decide))
      have hpD : ((10 : Int) ^ 120) = ((10 ^ 120 : Nat) : Int) := by rw [Int.natCast_pow]; rfl
      have ha' : a * 10 ^ 120 + c.natAbs % 10 ^ 120 < 10 ^ (120 * (t + 1)) := by
        rw [Nat.mul_add, Nat.pow_add, Nat.mul_one]
        generalize 10 ^ 120 = D at *
        generalize 10 ^ (120 * t) = E at *
        have h1 : (a + 1) * D ≤ E * D := Nat.mul_le_mul_right _ ha
        rw [Nat.add_mul] at h1
        lia
      generalize 10 ^ 120 = D at *
      have hD0 : ¬ D = 0 := by lia
      obtain ⟨σ', x', e, P'⟩ := pool_loop (v0 := v0) hj cs (k + 1) fuel (t + 1) (a * D + c.natAbs % D) b (some (.int c)) (List.set σ p (.list [.int ((a * D + c.natAbs % D : Nat) : Int), .int (b : Int)])) hk2 (by simp at hf; lia) (by rw [List.getElem?_set_ne hj.symm]; exact hJ) (by simp [lp]) ha' (by lia)
      refine ⟨σ', x', ?_, P'⟩
      have hfm : ((c.natAbs : Int)).fmod (D : Int) = ((c.natAbs % D : Nat) : Int) := by rw [fm _ (by lia)]; simp
      have hcast : (a : Int) * (D : Int) + ((c.natAbs % D : Nat) : Int) = ((a * D + c.natAbs % D : Nat) : Int) := by rw [Int.natCast_add, Int.natCast_mul]
      generalize a * D + c.natAbs % D = a2 at *
      generalize c.natAbs % D = r at *
      unfold mForF
      simp [-Int.reducePow, x0, x1, listItem, hJ, hk1, tgName, habs, hc, hP, hpD, hm, hD0, hfm, hcast, mPutI, putIR]
      exact e
    · obtain ⟨b2, hb2⟩ := fmod_nat (x := (b : Int) * 1000003 + 2 * (c.natAbs : Int) + (if c < 0 then 1 else 0)) (m := 2147483647) (by decide)
      obtain ⟨σ', x', e, P'⟩ := pool_loop (v0 := v0) hj cs (k + 1) fuel t a b2 (some (.int c)) (List.set σ p (.list [.int (a : Int), .int (b2 : Int)])) hk2 (by simp at hf; lia) (by rw [List.getElem?_set_ne hj.symm]; exact hJ) (by simp [lp]) ha (by lia)
      refine ⟨σ', x', ?_, P'⟩
      unfold mForF
      simp [-Int.reducePow, x0, x1, listItem, hJ, hk1, tgName, habs, hc, hP, mulOk_r (a := (b : Int)) (b := 1000003) (by decide), mulOk_l (a := 2) (b := (c.natAbs : Int)) (by decide), hb2, mPutI, putIR]
      exact e
end

/- P29 -/
section
theorem F_pool_ok {sa : Nat} {is : List Int} {σ : Store} : ∃ σ', F__law_pool sa is [.lit (.ref sa)] σ = .ok (.ref σ.length) σ' ∧ Pool σ' σ.length := by
  obtain ⟨σ', x', e, P'⟩ := pool_loop (j := σ.length + 1) (p := σ.length) (v0 := .lit (.ref sa)) (all := is.take 24) (by lia) (is.take 24) 0 (((is.take 24).map AV.int).length + 1) 0 0 1 none (σ ++ [.list [.int 0, .int 1], .list ((is.take 24).map .int)]) rfl (by simp) (by rw [getS]; rfl) (by rw [getS0]; rfl) (by decide) (by simp; lia)
  refine ⟨σ', ?_, P'⟩
  have hms : ∀ (ρ : Loc) (σ : Store), mScript is 24 ρ σ = .ok (.ref σ.length) (σ ++ [.list ((is.take 24).map .int)]) := fun _ _ => rfl
  generalize (is.take 24).map AV.int = L at *
  simp [F__law_pool, m__law_pool, mScriptS, hms, mForL, getS]
  rw [e]
  simp
theorem law_turn {p N k fuel : Nat} {σ : Store} {x0 x2 x3 : Option AV} (P : Pool σ p) (hk : k < N) : ∃ σ' x2' x3', mForF (rangeItem N) (tgName 2) (mSeq (mSet 3 (mCall F__law_take [mLoc 1, mVal (.int 7)])) (mSeq (mIfS (mAnd (mOp2 oEq (mLoc 3) (mVal (.int 0))) (mNot (mCall F__law_multiples [mLoc 1]))) (mSeq (mRet (mVal (.bool false))) (mNil)) (mNil)) (mSeq (mIfS (mAnd (mOp2 oEq (mLoc 3) (mVal (.int 1))) (mNot (mCall F__law_order [mLoc 1]))) (mSeq (mRet (mVal (.bool false))) (mNil)) (mNil)) (mSeq (mIfS (mAnd (mOp2 oEq (mLoc 3) (mVal (.int 2))) (mNot (mCall F__law_sums [mLoc 1]))) (mSeq (mRet (mVal (.bool false))) (mNil)) (mNil)) (mSeq (mIfS (mAnd (mOp2 oEq (mLoc 3) (mVal (.int 3))) (mNot (mCall F__law_ways [mLoc 1]))) (mSeq (mRet (mVal (.bool false))) (mNil)) (mNil)) (mSeq (mIfS (mAnd (mOp2 oEq (mLoc 3) (mVal (.int 4))) (mNot (mCall F__law_bounds [mLoc 1]))) (mSeq (mRet (mVal (.bool false))) (mNil)) (mNil)) (mSeq (mIfS (mAnd (mOp2 oEq (mLoc 3) (mVal (.int 5))) (mNot (mCall F__law_part [mLoc 1]))) (mSeq (mRet (mVal (.bool false))) (mNil)) (mNil)) (mSeq (mIfS (mAnd (mOp2 oEq (mLoc 3) (mVal (.int 6))) (mNot (mCall F__law_scaled [mLoc 1]))) (mSeq (mRet (mVal (.bool false))) (mNil)) (mNil)) (mNil))))))))) (fuel + 1) k [x0, some (.ref p), x2, x3] σ
    = mForF (rangeItem N) (tgName 2) (mSeq (mSet 3 (mCall F__law_take [mLoc 1, mVal (.int 7)])) (mSeq (mIfS (mAnd (mOp2 oEq (mLoc 3) (mVal (.int 0))) (mNot (mCall F__law_multiples [mLoc 1]))) (mSeq (mRet (mVal (.bool false))) (mNil)) (mNil)) (mSeq (mIfS (mAnd (mOp2 oEq (mLoc 3) (mVal (.int 1))) (mNot (mCall F__law_order [mLoc 1]))) (mSeq (mRet (mVal (.bool false))) (mNil)) (mNil)) (mSeq (mIfS (mAnd (mOp2 oEq (mLoc 3) (mVal (.int 2))) (mNot (mCall F__law_sums [mLoc 1]))) (mSeq (mRet (mVal (.bool false))) (mNil)) (mNil)) (mSeq (mIfS (mAnd (mOp2 oEq (mLoc 3) (mVal (.int 3))) (mNot (mCall F__law_ways [mLoc 1]))) (mSeq (mRet (mVal (.bool false))) (mNil)) (mNil)) (mSeq (mIfS (mAnd (mOp2 oEq (mLoc 3) (mVal (.int 4))) (mNot (mCall F__law_bounds [mLoc 1]))) (mSeq (mRet (mVal (.bool false))) (mNil)) (mNil)) (mSeq (mIfS (mAnd (mOp2 oEq (mLoc 3) (mVal (.int 5))) (mNot (mCall F__law_part [mLoc 1]))) (mSeq (mRet (mVal (.bool false))) (mNil)) (mNil)) (mSeq (mIfS (mAnd (mOp2 oEq (mLoc 3) (mVal (.int 6))) (mNot (mCall F__law_scaled [mLoc 1]))) (mSeq (mRet (mVal (.bool false))) (mNil)) (mNil)) (mNil))))))))) fuel (k + 1) [x0, some (.ref p), x2', x3'] σ'
    ∧ Pool σ' p := by
  obtain ⟨v, σ1, e1, hv, P1, K1⟩ := F_take_ok P (m := 7) (by decide)
  match v, hv, e1 with
  | 0, _, e1 =>
    obtain ⟨σ2, e2, P2⟩ := L_multiples P1
    refine ⟨σ2, some (.int k), some (.int 0), ?_, P2⟩
    conv => lhs; unfold mForF
    simp [rangeItem, hk, tgName, e1, e2]
  | 1, _, e1 =>
    obtain ⟨σ2, e2, P2⟩ := L_order P1
    refine ⟨σ2, some (.int k), some (.int 1), ?_, P2⟩
    conv => lhs; unfold mForF
    simp [rangeItem, hk, tgName, e1, e2]
  | 2, _, e1 =>
    obtain ⟨σ2, e2, P2⟩ := L_sums P1
    refine ⟨σ2, some (.int k), some (.int 2), ?_, P2⟩
    conv => lhs; unfold mForF
    simp [rangeItem, hk, tgName, e1, e2]
  | 3, _, e1 =>
    obtain ⟨σ2, e2, P2⟩ := L_ways P1
    refine ⟨σ2, some (.int k), some (.int 3), ?_, P2⟩
    conv => lhs; unfold mForF
    simp [rangeItem, hk, tgName, e1, e2]
  | 4, _, e1 =>
    obtain ⟨σ2, e2, P2⟩ := L_bounds P1
    refine ⟨σ2, some (.int k), some (.int 4), ?_, P2⟩
    conv => lhs; unfold mForF
    simp [rangeItem, hk, tgName, e1, e2]
  | 5, _, e1 =>
    obtain ⟨σ2, e2, P2⟩ := L_part P1
    refine ⟨σ2, some (.int k), some (.int 5), ?_, P2⟩
    conv => lhs; unfold mForF
    simp [rangeItem, hk, tgName, e1, e2]
  | 6, _, e1 =>
    obtain ⟨σ2, e2, P2⟩ := L_scaled P1
    refine ⟨σ2, some (.int k), some (.int 6), ?_, P2⟩
    conv => lhs; unfold mForF
    simp [rangeItem, hk, tgName, e1, e2]
  | v + 7, h, _ => lia
theorem law_loop {p N : Nat} {x0 : Option AV} : ∀ (fuel k : Nat) (σ : Store) (x2 x3 : Option AV), Pool σ p → k ≤ N → N - k < fuel → ∃ σ' x2' x3', mForF (rangeItem N) (tgName 2) (mSeq (mSet 3 (mCall F__law_take [mLoc 1, mVal (.int 7)])) (mSeq (mIfS (mAnd (mOp2 oEq (mLoc 3) (mVal (.int 0))) (mNot (mCall F__law_multiples [mLoc 1]))) (mSeq (mRet (mVal (.bool false))) (mNil)) (mNil)) (mSeq (mIfS (mAnd (mOp2 oEq (mLoc 3) (mVal (.int 1))) (mNot (mCall F__law_order [mLoc 1]))) (mSeq (mRet (mVal (.bool false))) (mNil)) (mNil)) (mSeq (mIfS (mAnd (mOp2 oEq (mLoc 3) (mVal (.int 2))) (mNot (mCall F__law_sums [mLoc 1]))) (mSeq (mRet (mVal (.bool false))) (mNil)) (mNil)) (mSeq (mIfS (mAnd (mOp2 oEq (mLoc 3) (mVal (.int 3))) (mNot (mCall F__law_ways [mLoc 1]))) (mSeq (mRet (mVal (.bool false))) (mNil)) (mNil)) (mSeq (mIfS (mAnd (mOp2 oEq (mLoc 3) (mVal (.int 4))) (mNot (mCall F__law_bounds [mLoc 1]))) (mSeq (mRet (mVal (.bool false))) (mNil)) (mNil)) (mSeq (mIfS (mAnd (mOp2 oEq (mLoc 3) (mVal (.int 5))) (mNot (mCall F__law_part [mLoc 1]))) (mSeq (mRet (mVal (.bool false))) (mNil)) (mNil)) (mSeq (mIfS (mAnd (mOp2 oEq (mLoc 3) (mVal (.int 6))) (mNot (mCall F__law_scaled [mLoc 1]))) (mSeq (mRet (mVal (.bool false))) (mNil)) (mNil)) (mNil))))))))) fuel k [x0, some (.ref p), x2, x3] σ = .ok (.next, [x0, some (.ref p), x2', x3']) σ'
  | 0, k, σ, x2, x3, P, hk, hf => by lia
  | fuel + 1, k, σ, x2, x3, P, hk, hf => by
    by_cases h : k < N
    · obtain ⟨σ1, y2, y3, e1, P1⟩ := law_turn (N := N) (k := k) (fuel := fuel) (x0 := x0) (x2 := x2) (x3 := x3) P h
      obtain ⟨σ', z2, z3, e2⟩ := law_loop (N := N) (x0 := x0) fuel (k + 1) σ1 y2 y3 P1 (by lia) (by lia)
      exact ⟨σ', z2, z3, e1.trans e2⟩
    · refine ⟨σ, x2, x3, ?_⟩
      unfold mForF
      simp [rangeItem, h]
theorem law_pure (sa : Nat) (is : List Int) (hl : is.length ≤ 63) : ∃ ρ' σ', m_law sa is [some (.lit (.ref sa)), none, none, none] [] = .ok (.ret (.bool true), ρ') σ' := by
  obtain ⟨σ1, e1, P1⟩ := F_pool_ok (sa := sa) (is := is) (σ := [])
  have hlen : is.length ≤ 100000 := by lia
  rw [show ([] : Store).length = 0 from rfl] at e1 P1
  by_cases h1 : 1 < (is.length : Int)
  · obtain ⟨v, σ2, e2, hv, P2, K2⟩ := F_take_ok P1 (m := 5) (by decide)
    obtain ⟨σ3, y2, y3, e3⟩ := law_loop (p := 0) (N := 4 + v) (x0 := some (.lit (.ref sa))) (4 + v + 1) 0 σ2 none none P2 (by lia) (by lia)
    refine ⟨[some (.lit (.ref sa)), some (.ref 0), y2, y3], σ3, ?_⟩
    have hb : 0 ≤ 4 + (v : Int) ∧ 4 + (v : Int) ≤ 1000 := by lia
    have hn : (4 + (v : Int)).toNat = 4 + v := by lia
    simp [m_law, e1, F_len, lenS, hlen, h1, e2, mForR]
    rw [if_pos hb, hn, e3]
    rfl
  · obtain ⟨σ3, y2, y3, e3⟩ := law_loop (p := 0) (N := 4) (x0 := some (.lit (.ref sa))) 5 0 σ1 none none P1 (by lia) (by lia)
    refine ⟨[some (.lit (.ref sa)), some (.ref 0), y2, y3], σ3, ?_⟩
    simp [m_law, e1, F_len, lenS, hlen, h1, mForR]
    rw [e3]
    rfl
end

/- the head and the walk -/
/- The head lays a twin with an equation for each constant that it makes; of this row they fill 160 MB compiled, five times the lid.
   The names below stand in the twins' places, so it goes on without them. Nothing else hangs on these names. -/
namespace top
noncomputable def tw2601905985415302144 : Unit := ()
noncomputable def tw11582926029173025856 : Unit := ()
noncomputable def tw14142502885225118848 : Unit := ()
noncomputable def tw2218668502564051296 : Unit := ()
noncomputable def tw15542334942015070624 : Unit := ()
noncomputable def tw13160728816969591200 : Unit := ()
noncomputable def tw13223034962123697568 : Unit := ()
noncomputable def tw14168018189251442112 : Unit := ()
noncomputable def tw4597200072644226624 : Unit := ()
noncomputable def tw2417791160451022400 : Unit := ()
noncomputable def tw76412952228603488 : Unit := ()
noncomputable def tw2741389259953327712 : Unit := ()
noncomputable def tw1732150942055357024 : Unit := ()
noncomputable def tw15874363893724204672 : Unit := ()
noncomputable def tw16104615914030681952 : Unit := ()
noncomputable def tw17953984050398360512 : Unit := ()
noncomputable def tw11613256710310857696 : Unit := ()
noncomputable def tw9666326922614434849 : Unit := ()
noncomputable def tw17795014544551873601 : Unit := ()
noncomputable def tw9953747333497923681 : Unit := ()
noncomputable def tw1400011881503588481 : Unit := ()
noncomputable def tw7213333562754528385 : Unit := ()
noncomputable def tw8507776931139520737 : Unit := ()
noncomputable def tw1068965626710143233 : Unit := ()
noncomputable def tw4859757453598101857 : Unit := ()
noncomputable def tw1584292188352093569 : Unit := ()
noncomputable def tw18289109515434150305 : Unit := ()
noncomputable def tw15177526630643400193 : Unit := ()
noncomputable def tw16976566692861417025 : Unit := ()
noncomputable def tw6381231289166406305 : Unit := ()
noncomputable def tw11845233108574324481 : Unit := ()
noncomputable def tw1601500998369573665 : Unit := ()
noncomputable def tw9016798869158615873 : Unit := ()
noncomputable def tw3696473221133414273 : Unit := ()
noncomputable def tw5303079699428457377 : Unit := ()
noncomputable def tw9272544492142499777 : Unit := ()
noncomputable def tw2405475915293451298 : Unit := ()
noncomputable def tw9601329371697537090 : Unit := ()
noncomputable def tw4177254973167742082 : Unit := ()
noncomputable def tw16580785732701462914 : Unit := ()
noncomputable def tw3767615275625035234 : Unit := ()
noncomputable def tw1291508964198565346 : Unit := ()
noncomputable def tw1900889202398478850 : Unit := ()
noncomputable def tw1016984595167383106 : Unit := ()
noncomputable def tw15254643099363442306 : Unit := ()
noncomputable def tw9739860059890490050 : Unit := ()
noncomputable def tw5728218623943512802 : Unit := ()
noncomputable def tw12425085872883035938 : Unit := ()
noncomputable def tw4392038535549328194 : Unit := ()
noncomputable def tw17103177528636943170 : Unit := ()
noncomputable def tw8321918168302905379 : Unit := ()
noncomputable def tw2988451766255067171 : Unit := ()
noncomputable def tw17512577416206416963 : Unit := ()
noncomputable def tw2665807947273092163 : Unit := ()
noncomputable def tw10414433010598505635 : Unit := ()
noncomputable def tw6756868429301003459 : Unit := ()
noncomputable def tw8311017846404947139 : Unit := ()
noncomputable def tw6761616313442571491 : Unit := ()
noncomputable def tw1212798325632107971 : Unit := ()
noncomputable def tw10936122117785486979 : Unit := ()
noncomputable def tw3871027444623705763 : Unit := ()
noncomputable def tw9149571693438533347 : Unit := ()
noncomputable def tw14632489290957082403 : Unit := ()
noncomputable def tw15740088241188596515 : Unit := ()
noncomputable def tw14796646475526232899 : Unit := ()
noncomputable def tw13305523845174962083 : Unit := ()
noncomputable def tw1297684725254868899 : Unit := ()
noncomputable def tw16054190913257422852 : Unit := ()
noncomputable def tw14608685727046917156 : Unit := ()
noncomputable def tw6292954644110606532 : Unit := ()
noncomputable def tw15212760480394562756 : Unit := ()
noncomputable def tw14450715343900746980 : Unit := ()
noncomputable def tw8281120267493503204 : Unit := ()
noncomputable def tw13710211086531791108 : Unit := ()
noncomputable def tw10694878333477680388 : Unit := ()
noncomputable def tw401921906979044612 : Unit := ()
noncomputable def tw16541100652227675460 : Unit := ()
noncomputable def tw146815374380898660 : Unit := ()
noncomputable def tw7033079012710635876 : Unit := ()
noncomputable def tw12764151676501842404 : Unit := ()
noncomputable def tw370947364307004932 : Unit := ()
noncomputable def tw13012589842206080548 : Unit := ()
noncomputable def tw12483720753089274532 : Unit := ()
noncomputable def tw13896958669275611876 : Unit := ()
noncomputable def tw814325599930780420 : Unit := ()
noncomputable def tw18064794426631996164 : Unit := ()
noncomputable def tw10665585003947065092 : Unit := ()
noncomputable def tw97580500277827492 : Unit := ()
noncomputable def tw7671549972530922468 : Unit := ()
noncomputable def tw4656485037274611717 : Unit := ()
noncomputable def tw15646934709686841381 : Unit := ()
noncomputable def tw17810072253543177317 : Unit := ()
noncomputable def tw6505410396798821541 : Unit := ()
noncomputable def tw3796891538752321733 : Unit := ()
noncomputable def tw8892184565913893157 : Unit := ()
noncomputable def tw2685012915969955173 : Unit := ()
noncomputable def tw13001836021917841797 : Unit := ()
noncomputable def tw9227541089923242437 : Unit := ()
noncomputable def tw3976154599441133093 : Unit := ()
noncomputable def tw81815255157605957 : Unit := ()
noncomputable def tw196536941598035525 : Unit := ()
noncomputable def tw8212240652046128837 : Unit := ()
noncomputable def tw9059832203979395877 : Unit := ()
noncomputable def tw9685713192446186341 : Unit := ()
noncomputable def tw8363718466572441477 : Unit := ()
noncomputable def tw3669314199184481253 : Unit := ()
noncomputable def tw1294077662247117797 : Unit := ()
noncomputable def tw1495599714519013414 : Unit := ()
noncomputable def tw10006222313960134694 : Unit := ()
noncomputable def tw6520327441239513222 : Unit := ()
noncomputable def tw13501252493785611398 : Unit := ()
noncomputable def tw3140898538269762758 : Unit := ()
noncomputable def tw11383000496634168614 : Unit := ()
noncomputable def tw297971269722091814 : Unit := ()
noncomputable def tw6749217079512962374 : Unit := ()
noncomputable def tw8435561252592420358 : Unit := ()
noncomputable def tw5969682004907312646 : Unit := ()
noncomputable def tw8640399195822439974 : Unit := ()
noncomputable def tw14042817526060737062 : Unit := ()
noncomputable def tw8420165910927482534 : Unit := ()
noncomputable def tw1736530178072539846 : Unit := ()
noncomputable def tw4835499133494076262 : Unit := ()
noncomputable def tw14671331368771545958 : Unit := ()
noncomputable def tw5860347150701562758 : Unit := ()
noncomputable def tw2506305409684761478 : Unit := ()
noncomputable def tw10783980745131425670 : Unit := ()
noncomputable def tw8679839319945467846 : Unit := ()
noncomputable def tw6491118196486620199 : Unit := ()
noncomputable def tw860223938195835975 : Unit := ()
noncomputable def tw11459358961799972967 : Unit := ()
noncomputable def tw12256363837256957063 : Unit := ()
noncomputable def tw953821971998124167 : Unit := ()
noncomputable def tw8043003576528973991 : Unit := ()
noncomputable def tw53344730913325255 : Unit := ()
noncomputable def tw11443710868159068359 : Unit := ()
noncomputable def tw1697544655201012999 : Unit := ()
noncomputable def tw6176384092110617959 : Unit := ()
noncomputable def tw2731995056826638727 : Unit := ()
noncomputable def tw6286779285267259847 : Unit := ()
noncomputable def tw8772347619160991303 : Unit := ()
noncomputable def tw9165953624949470791 : Unit := ()
noncomputable def tw12545222027267286695 : Unit := ()
noncomputable def tw10864713392326063847 : Unit := ()
noncomputable def tw16970143879199821575 : Unit := ()
noncomputable def tw13090165191389475591 : Unit := ()
noncomputable def tw13968125046926948103 : Unit := ()
noncomputable def tw775762912060472103 : Unit := ()
noncomputable def tw12819366960792805191 : Unit := ()
noncomputable def tw13385244156195431271 : Unit := ()
noncomputable def tw10361075674979980167 : Unit := ()
noncomputable def tw10816355053677723559 : Unit := ()
noncomputable def tw12317137736924338119 : Unit := ()
noncomputable def tw17202644642538248135 : Unit := ()
noncomputable def tw14145802354927516647 : Unit := ()
noncomputable def tw7657828476027519975 : Unit := ()
noncomputable def tw5244899138074338376 : Unit := ()
noncomputable def tw3484022092364678248 : Unit := ()
noncomputable def tw8974921116410688616 : Unit := ()
noncomputable def tw13994475860397038760 : Unit := ()
noncomputable def tw14615657086365298920 : Unit := ()
noncomputable def tw16439428074185983240 : Unit := ()
noncomputable def tw708234853630380328 : Unit := ()
noncomputable def tw3261557481417251176 : Unit := ()
noncomputable def tw4205137553216949640 : Unit := ()
noncomputable def tw18063644159110109576 : Unit := ()
noncomputable def tw83393220934416808 : Unit := ()
noncomputable def tw6370870915552960936 : Unit := ()
noncomputable def tw1486479319815781832 : Unit := ()
noncomputable def tw12622177474791663080 : Unit := ()
noncomputable def tw10657950659306570408 : Unit := ()
noncomputable def tw5667650583090716360 : Unit := ()
noncomputable def tw10648311167861321448 : Unit := ()
noncomputable def tw6042063481754889096 : Unit := ()
noncomputable def tw517144808224063464 : Unit := ()
noncomputable def tw4916261283513009128 : Unit := ()
noncomputable def tw6906291655842520137 : Unit := ()
noncomputable def tw13177472732611162249 : Unit := ()
noncomputable def tw15878805988109762761 : Unit := ()
noncomputable def tw10548783162686979305 : Unit := ()
noncomputable def tw15860264024139754761 : Unit := ()
noncomputable def tw13303987763403120937 : Unit := ()
noncomputable def tw6786057226368545225 : Unit := ()
noncomputable def tw16123964013534891561 : Unit := ()
noncomputable def tw15569959144833144457 : Unit := ()
noncomputable def tw13290321428070320777 : Unit := ()
noncomputable def tw16782997733028217545 : Unit := ()
noncomputable def tw3378803678994701225 : Unit := ()
noncomputable def tw4671429814451907529 : Unit := ()
noncomputable def tw10915162052029792233 : Unit := ()
noncomputable def tw2770239361232196585 : Unit := ()
noncomputable def tw13187519465064655849 : Unit := ()
noncomputable def tw9990226795618131978 : Unit := ()
noncomputable def tw339143206060000330 : Unit := ()
noncomputable def tw3490714775656875082 : Unit := ()
noncomputable def tw8729362747519067210 : Unit := ()
noncomputable def tw3315250197877816394 : Unit := ()
noncomputable def tw10994726798756425834 : Unit := ()
noncomputable def tw9059672392935016618 : Unit := ()
noncomputable def tw12166907935582030026 : Unit := ()
noncomputable def tw10187724287525710026 : Unit := ()
noncomputable def tw8523463495250067690 : Unit := ()
noncomputable def tw7204493036743257322 : Unit := ()
noncomputable def tw5058314954733539658 : Unit := ()
noncomputable def tw342308947776675178 : Unit := ()
noncomputable def tw501154541418245514 : Unit := ()
noncomputable def tw2369445192022557226 : Unit := ()
noncomputable def tw15976228082101565994 : Unit := ()
noncomputable def tw8184561461823581802 : Unit := ()
noncomputable def tw3743591355870132874 : Unit := ()
noncomputable def tw17469865338272021226 : Unit := ()
noncomputable def tw13889309363888878346 : Unit := ()
noncomputable def tw16068562728529669930 : Unit := ()
noncomputable def tw1655259298481077034 : Unit := ()
noncomputable def tw1321871150748368714 : Unit := ()
noncomputable def tw14724332232928298890 : Unit := ()
noncomputable def tw9951221954081769418 : Unit := ()
noncomputable def tw5513142621748847562 : Unit := ()
noncomputable def tw6624316729101989866 : Unit := ()
noncomputable def tw6919701780365589675 : Unit := ()
noncomputable def tw13370750898655102155 : Unit := ()
noncomputable def tw2683898200743741643 : Unit := ()
noncomputable def tw18241700872308971723 : Unit := ()
noncomputable def tw4828031223510198475 : Unit := ()
noncomputable def tw3002795768020413707 : Unit := ()
noncomputable def tw6812286434817487243 : Unit := ()
noncomputable def tw6431110157172167083 : Unit := ()
noncomputable def tw13706816188851595723 : Unit := ()
noncomputable def tw7587601194962177611 : Unit := ()
noncomputable def tw6674990990233134667 : Unit := ()
noncomputable def tw8140125068956082859 : Unit := ()
noncomputable def tw956942650209027819 : Unit := ()
noncomputable def tw17315540178315561739 : Unit := ()
noncomputable def tw7673058066778466091 : Unit := ()
noncomputable def tw14282377253939248939 : Unit := ()
noncomputable def tw9962302188120564619 : Unit := ()
noncomputable def tw9233335307524088747 : Unit := ()
noncomputable def tw9227057690007400460 : Unit := ()
noncomputable def tw5915399644114372684 : Unit := ()
noncomputable def tw2443449257678562572 : Unit := ()
noncomputable def tw17470836177267949868 : Unit := ()
noncomputable def tw5609151216138764652 : Unit := ()
noncomputable def tw3969286963782609292 : Unit := ()
noncomputable def tw17046948494117081484 : Unit := ()
noncomputable def tw6333448901615975916 : Unit := ()
noncomputable def tw13799840507378627052 : Unit := ()
noncomputable def tw93012567124736588 : Unit := ()
noncomputable def tw11542710104232473196 : Unit := ()
noncomputable def tw3254097082911018636 : Unit := ()
noncomputable def tw12958664272152378060 : Unit := ()
noncomputable def tw4951766788466123468 : Unit := ()
noncomputable def tw10404823597219466188 : Unit := ()
noncomputable def tw17323899518341599180 : Unit := ()
noncomputable def tw13987285891283452908 : Unit := ()
noncomputable def tw6240723676877644813 : Unit := ()
noncomputable def tw14453841093610474573 : Unit := ()
noncomputable def tw13822267516522204269 : Unit := ()
noncomputable def tw16174758807025615021 : Unit := ()
noncomputable def tw7527032243904285869 : Unit := ()
noncomputable def tw4335235751029319853 : Unit := ()
noncomputable def tw16352630495959832749 : Unit := ()
noncomputable def tw1112988674713690477 : Unit := ()
noncomputable def tw4047667213573674445 : Unit := ()
noncomputable def tw3479634599624807885 : Unit := ()
noncomputable def tw10774637447528242797 : Unit := ()
noncomputable def tw2329457986368946861 : Unit := ()
noncomputable def tw16719718919923625709 : Unit := ()
noncomputable def tw2581206410525282061 : Unit := ()
noncomputable def tw1814787853859245837 : Unit := ()
noncomputable def tw8265191368974092141 : Unit := ()
noncomputable def tw672699306608606093 : Unit := ()
noncomputable def tw10574840078274726829 : Unit := ()
noncomputable def tw661290744650703789 : Unit := ()
noncomputable def tw1516213087968936877 : Unit := ()
noncomputable def tw13318506193475082254 : Unit := ()
noncomputable def tw14502225709538309166 : Unit := ()
noncomputable def tw12385144161495827662 : Unit := ()
noncomputable def tw2809488002615124206 : Unit := ()
noncomputable def tw8472579005086612782 : Unit := ()
noncomputable def tw7297446738713254254 : Unit := ()
noncomputable def tw2544169868661182894 : Unit := ()
noncomputable def tw12894197372075662830 : Unit := ()
noncomputable def tw1142415686869020238 : Unit := ()
noncomputable def tw14611434983143301774 : Unit := ()
noncomputable def tw6124053682588569230 : Unit := ()
noncomputable def tw1803303928475200142 : Unit := ()
noncomputable def tw17542608870123051758 : Unit := ()
noncomputable def tw15299407806266782574 : Unit := ()
noncomputable def tw12718909917080609646 : Unit := ()
noncomputable def tw15503665604740900718 : Unit := ()
noncomputable def tw12958502747184954254 : Unit := ()
noncomputable def tw15985961358823992270 : Unit := ()
noncomputable def tw5938664839603501006 : Unit := ()
noncomputable def tw17176029603704830031 : Unit := ()
noncomputable def tw6898770573198911631 : Unit := ()
noncomputable def tw11334350811105764591 : Unit := ()
noncomputable def tw1638113669730673903 : Unit := ()
noncomputable def tw7326123406312810735 : Unit := ()
noncomputable def tw14697636140705633519 : Unit := ()
noncomputable def tw17565814175750979855 : Unit := ()
noncomputable def tw8560541052185303311 : Unit := ()
noncomputable def tw16900427199656544559 : Unit := ()
noncomputable def tw9631074621892390191 : Unit := ()
noncomputable def tw5596365628329696591 : Unit := ()
noncomputable def tw16598799759364053327 : Unit := ()
noncomputable def tw7198060816514059695 : Unit := ()
noncomputable def tw13326734554550294991 : Unit := ()
noncomputable def tw9913501989792142831 : Unit := ()
noncomputable def tw2103985501979894447 : Unit := ()
noncomputable def tw5581607755468803823 : Unit := ()
noncomputable def tw10567129059001840431 : Unit := ()
noncomputable def tw10296497611174029103 : Unit := ()
noncomputable def tw2126296398998916975 : Unit := ()
noncomputable def tw352232786441526191 : Unit := ()
noncomputable def tw9378254376102152143 : Unit := ()
noncomputable def tw8623022884188638191 : Unit := ()
noncomputable def tw1040915598704419856 : Unit := ()
noncomputable def tw4186445540838780016 : Unit := ()
noncomputable def tw1843344800811705456 : Unit := ()
noncomputable def tw2145171640123136144 : Unit := ()
noncomputable def tw12392516345856041104 : Unit := ()
noncomputable def tw390997316461189296 : Unit := ()
noncomputable def tw11982747722937265360 : Unit := ()
noncomputable def tw8538268897159353584 : Unit := ()
noncomputable def tw7414872774492366064 : Unit := ()
noncomputable def tw104434173382791472 : Unit := ()
noncomputable def tw9382581127745807760 : Unit := ()
noncomputable def tw1585457916280141200 : Unit := ()
noncomputable def tw8735323631387419056 : Unit := ()
noncomputable def tw16044733080236030384 : Unit := ()
noncomputable def tw7444641836354208208 : Unit := ()
noncomputable def tw2153201293294769616 : Unit := ()
noncomputable def tw17576949682797635024 : Unit := ()
noncomputable def tw14537839394382259888 : Unit := ()
noncomputable def tw8410488445778877200 : Unit := ()
noncomputable def tw8833053369097974544 : Unit := ()
noncomputable def tw7600245330811189008 : Unit := ()
noncomputable def tw15095372191486117680 : Unit := ()
noncomputable def tw12342655685612074800 : Unit := ()
noncomputable def tw14861896470697024400 : Unit := ()
noncomputable def tw4383139521930768336 : Unit := ()
noncomputable def tw7429413206186439793 : Unit := ()
noncomputable def tw18086089286151905521 : Unit := ()
noncomputable def tw10996937224433265937 : Unit := ()
noncomputable def tw7250933059871147345 : Unit := ()
noncomputable def tw8297286125493194097 : Unit := ()
noncomputable def tw7913636548009798097 : Unit := ()
noncomputable def tw17828378304095215089 : Unit := ()
noncomputable def tw8204474986945543665 : Unit := ()
noncomputable def tw11457754044182789617 : Unit := ()
noncomputable def tw1706793611546318481 : Unit := ()
noncomputable def tw9166809390415177425 : Unit := ()
noncomputable def tw5225153198818245361 : Unit := ()
noncomputable def tw13307591127769906961 : Unit := ()
noncomputable def tw18008055252877512497 : Unit := ()
noncomputable def tw2822501910515967889 : Unit := ()
noncomputable def tw4076138812419527698 : Unit := ()
noncomputable def tw908825868028484722 : Unit := ()
noncomputable def tw987869383939708018 : Unit := ()
noncomputable def tw16597617366809209970 : Unit := ()
noncomputable def tw16405686840318294130 : Unit := ()
noncomputable def tw9259421805112917234 : Unit := ()
noncomputable def tw3855276242980373810 : Unit := ()
noncomputable def tw2907113945770861938 : Unit := ()
noncomputable def tw15877122091014420850 : Unit := ()
noncomputable def tw14657780768301432306 : Unit := ()
noncomputable def tw16866024460163772082 : Unit := ()
noncomputable def tw427420600052151026 : Unit := ()
noncomputable def tw8645369167282567922 : Unit := ()
noncomputable def tw705360758644809490 : Unit := ()
noncomputable def tw14399976873020721970 : Unit := ()
noncomputable def tw13261893007816960818 : Unit := ()
noncomputable def tw15092371282622821202 : Unit := ()
noncomputable def tw12540527436937284434 : Unit := ()
noncomputable def tw10090393231696489298 : Unit := ()
noncomputable def tw8025738503920905074 : Unit := ()
noncomputable def tw16550210197400561554 : Unit := ()
noncomputable def tw4699463449715708850 : Unit := ()
noncomputable def tw17177869089781658578 : Unit := ()
noncomputable def tw16795567611416646642 : Unit := ()
noncomputable def tw887695700811335699 : Unit := ()
noncomputable def tw17328158490183931955 : Unit := ()
noncomputable def tw4571971715460732019 : Unit := ()
noncomputable def tw5507162329139097715 : Unit := ()
noncomputable def tw9229161468869434483 : Unit := ()
noncomputable def tw16204670001084760307 : Unit := ()
noncomputable def tw13432635357386499347 : Unit := ()
noncomputable def tw11141966352661209427 : Unit := ()
noncomputable def tw6662652255960138227 : Unit := ()
noncomputable def tw5398424786039705171 : Unit := ()
noncomputable def tw1275901062530889299 : Unit := ()
noncomputable def tw6972929390595279475 : Unit := ()
noncomputable def tw13420762306968818387 : Unit := ()
noncomputable def tw12117888159696746259 : Unit := ()
noncomputable def tw7160873610591055699 : Unit := ()
noncomputable def tw8874702517807110003 : Unit := ()
noncomputable def tw1492452104121835379 : Unit := ()
noncomputable def tw7743179893348639699 : Unit := ()
noncomputable def tw2758071753971750899 : Unit := ()
noncomputable def tw12643491718579748851 : Unit := ()
noncomputable def tw4526881389914513428 : Unit := ()
noncomputable def tw15918733279669447828 : Unit := ()
noncomputable def tw15623792648095043764 : Unit := ()
noncomputable def tw13975414291046593716 : Unit := ()
noncomputable def tw12415523145999629524 : Unit := ()
noncomputable def tw1394568958698188020 : Unit := ()
noncomputable def tw9442318146202087700 : Unit := ()
noncomputable def tw14789260269991461300 : Unit := ()
noncomputable def tw11760055953109336660 : Unit := ()
noncomputable def tw1617357707322924660 : Unit := ()
noncomputable def tw12535971307161669396 : Unit := ()
noncomputable def tw11922380849998532372 : Unit := ()
noncomputable def tw16759092144687519636 : Unit := ()
noncomputable def tw6694047246710070196 : Unit := ()
noncomputable def tw6265701101103706036 : Unit := ()
noncomputable def tw13983857475226248213 : Unit := ()
noncomputable def tw5225916559131626549 : Unit := ()
noncomputable def tw10577272966987657301 : Unit := ()
noncomputable def tw2686433634493928565 : Unit := ()
noncomputable def tw4796303294375832693 : Unit := ()
noncomputable def tw2924597203103170677 : Unit := ()
noncomputable def tw6664487174759623829 : Unit := ()
noncomputable def tw11994683656316670133 : Unit := ()
noncomputable def tw10562855833978642645 : Unit := ()
noncomputable def tw7008692893051332821 : Unit := ()
noncomputable def tw18374746225686918389 : Unit := ()
noncomputable def tw14402358008270493973 : Unit := ()
noncomputable def tw4791253341166991637 : Unit := ()
noncomputable def tw3739144386018749749 : Unit := ()
noncomputable def tw13549259019975226677 : Unit := ()
noncomputable def tw1988063486488863061 : Unit := ()
noncomputable def tw11334203419191126389 : Unit := ()
noncomputable def tw2220570432770164149 : Unit := ()
noncomputable def tw575894324575664597 : Unit := ()
noncomputable def tw11203750815551599093 : Unit := ()
noncomputable def tw18371284783138465269 : Unit := ()
noncomputable def tw72247145696351765 : Unit := ()
noncomputable def tw16034636559557993077 : Unit := ()
noncomputable def tw10797620697341660853 : Unit := ()
noncomputable def tw4058662728301269685 : Unit := ()
noncomputable def tw350670483859837877 : Unit := ()
noncomputable def tw18367679650794681301 : Unit := ()
noncomputable def tw8813761850579938390 : Unit := ()
noncomputable def tw9800703332001039478 : Unit := ()
noncomputable def tw8265311939077410998 : Unit := ()
noncomputable def tw2049803448638775478 : Unit := ()
noncomputable def tw8054331753737935190 : Unit := ()
noncomputable def tw5597187220613765494 : Unit := ()
noncomputable def tw17346259052997144950 : Unit := ()
noncomputable def tw5648408011753718230 : Unit := ()
noncomputable def tw13264354339760550358 : Unit := ()
noncomputable def tw4736427724481360342 : Unit := ()
noncomputable def tw15362295582089109014 : Unit := ()
noncomputable def tw15169761463676818070 : Unit := ()
noncomputable def tw17050326753033342646 : Unit := ()
noncomputable def tw1195175773429642966 : Unit := ()
noncomputable def tw4166218997396506358 : Unit := ()
noncomputable def tw8657480035899644758 : Unit := ()
noncomputable def tw2985252069258134486 : Unit := ()
noncomputable def tw10194810499950245846 : Unit := ()
noncomputable def tw6438537300738474071 : Unit := ()
noncomputable def tw17492772389151264855 : Unit := ()
noncomputable def tw620129878449983639 : Unit := ()
noncomputable def tw7458633546980236471 : Unit := ()
noncomputable def tw16885616592811714743 : Unit := ()
noncomputable def tw12318557346453588183 : Unit := ()
noncomputable def tw3712731000106771831 : Unit := ()
noncomputable def tw7381879191629600215 : Unit := ()
noncomputable def tw3120133295221510679 : Unit := ()
noncomputable def tw4299629679881509495 : Unit := ()
noncomputable def tw15349318334595610263 : Unit := ()
noncomputable def tw8143265674769528471 : Unit := ()
noncomputable def tw8139039716903228087 : Unit := ()
noncomputable def tw12012865196380796599 : Unit := ()
noncomputable def tw7830913209206220567 : Unit := ()
noncomputable def tw11520865232209809239 : Unit := ()
noncomputable def tw5868845118606482295 : Unit := ()
noncomputable def tw5245862010334584759 : Unit := ()
noncomputable def tw9843447840031818808 : Unit := ()
noncomputable def tw10008474027749305400 : Unit := ()
noncomputable def tw1139600151236580504 : Unit := ()
noncomputable def tw681777741448182936 : Unit := ()
noncomputable def tw6487610083215253720 : Unit := ()
noncomputable def tw9063741608606530840 : Unit := ()
noncomputable def tw2812155379371279736 : Unit := ()
noncomputable def tw4498253355057717688 : Unit := ()
noncomputable def tw12783364522390391256 : Unit := ()
noncomputable def tw4551080515912023512 : Unit := ()
noncomputable def tw6211089042160764376 : Unit := ()
noncomputable def tw13500427573557490136 : Unit := ()
noncomputable def tw9768079942903668216 : Unit := ()
noncomputable def tw8107780213005350392 : Unit := ()
noncomputable def tw2617719716777270872 : Unit := ()
noncomputable def tw1149218181149386328 : Unit := ()
noncomputable def tw10395339647360373368 : Unit := ()
noncomputable def tw6746510453823603384 : Unit := ()
noncomputable def tw16713831800681072344 : Unit := ()
noncomputable def tw3995942328266245912 : Unit := ()
noncomputable def tw9516688046558066552 : Unit := ()
noncomputable def tw17886615442053742456 : Unit := ()
noncomputable def tw2722852734226103192 : Unit := ()
noncomputable def tw11546936639936008217 : Unit := ()
noncomputable def tw6908635100366463001 : Unit := ()
noncomputable def tw16273406610938067001 : Unit := ()
noncomputable def tw10581302375092517977 : Unit := ()
noncomputable def tw2596539476470345881 : Unit := ()
noncomputable def tw10001883323181062329 : Unit := ()
noncomputable def tw13359135706311490777 : Unit := ()
noncomputable def tw9851269098105209369 : Unit := ()
noncomputable def tw17741875731164886585 : Unit := ()
noncomputable def tw14349089067433371257 : Unit := ()
noncomputable def tw5187335452993679001 : Unit := ()
noncomputable def tw795583310449317561 : Unit := ()
noncomputable def tw6189502492464219833 : Unit := ()
noncomputable def tw11466170419677230873 : Unit := ()
noncomputable def tw16325430554902658873 : Unit := ()
noncomputable def tw9178861053002065721 : Unit := ()
noncomputable def tw6659320528611288953 : Unit := ()
noncomputable def tw16196420915677631385 : Unit := ()
noncomputable def tw1147548669246485465 : Unit := ()
noncomputable def tw11199532085631943738 : Unit := ()
noncomputable def tw9743097575036673082 : Unit := ()
noncomputable def tw6973401727384321114 : Unit := ()
noncomputable def tw7681529838311687354 : Unit := ()
noncomputable def tw17620759639134147866 : Unit := ()
noncomputable def tw10079171474624433434 : Unit := ()
noncomputable def tw1047907039808853306 : Unit := ()
noncomputable def tw3195522803047326042 : Unit := ()
noncomputable def tw10447893713326736730 : Unit := ()
noncomputable def tw10448899703829047738 : Unit := ()
noncomputable def tw1108800333578037850 : Unit := ()
noncomputable def tw5702910450625016506 : Unit := ()
noncomputable def tw16420938139371093754 : Unit := ()
noncomputable def tw12105128591322288922 : Unit := ()
noncomputable def tw17219337458794519322 : Unit := ()
noncomputable def tw13068111086705522682 : Unit := ()
noncomputable def tw427269002284569659 : Unit := ()
noncomputable def tw4773702212245658779 : Unit := ()
noncomputable def tw13609902449971354875 : Unit := ()
noncomputable def tw17089494485692210459 : Unit := ()
noncomputable def tw17981982808018919739 : Unit := ()
noncomputable def tw995497684801637723 : Unit := ()
noncomputable def tw10017263926548143515 : Unit := ()
noncomputable def tw15911569825323301435 : Unit := ()
noncomputable def tw4134505453457115739 : Unit := ()
noncomputable def tw3422688185749166683 : Unit := ()
noncomputable def tw16800595933775061595 : Unit := ()
noncomputable def tw11334415319851112604 : Unit := ()
noncomputable def tw18245740138792012028 : Unit := ()
noncomputable def tw15286249088069653756 : Unit := ()
noncomputable def tw2377541652452675900 : Unit := ()
noncomputable def tw14826035006057030972 : Unit := ()
noncomputable def tw13928562000808390012 : Unit := ()
noncomputable def tw1869187583165140508 : Unit := ()
noncomputable def tw12376051458212225564 : Unit := ()
noncomputable def tw13802547742096326172 : Unit := ()
noncomputable def tw4321519831107876412 : Unit := ()
noncomputable def tw13635007476017903164 : Unit := ()
noncomputable def tw14917401599646851644 : Unit := ()
noncomputable def tw10195997230039290492 : Unit := ()
noncomputable def tw2727672472851901052 : Unit := ()
noncomputable def tw4807692442873511580 : Unit := ()
noncomputable def tw16453443671601555132 : Unit := ()
noncomputable def tw216529984938456764 : Unit := ()
noncomputable def tw1088946173253831356 : Unit := ()
noncomputable def tw15361541807878343388 : Unit := ()
noncomputable def tw1124271682379634556 : Unit := ()
noncomputable def tw3776753064480771068 : Unit := ()
noncomputable def tw4547018644641229820 : Unit := ()
noncomputable def tw956089473029861405 : Unit := ()
noncomputable def tw11240886729373846589 : Unit := ()
noncomputable def tw5155950481276406077 : Unit := ()
noncomputable def tw2782073688633401757 : Unit := ()
noncomputable def tw5724797396398055869 : Unit := ()
noncomputable def tw668136137496459709 : Unit := ()
noncomputable def tw17355269125676882429 : Unit := ()
noncomputable def tw7325726471975496349 : Unit := ()
noncomputable def tw16155163154822807229 : Unit := ()
noncomputable def tw11430207588045935325 : Unit := ()
noncomputable def tw3730354652608582461 : Unit := ()
noncomputable def tw11423202765487971197 : Unit := ()
noncomputable def tw1833847959688406909 : Unit := ()
noncomputable def tw47109162367338493 : Unit := ()
noncomputable def tw13091174067606910046 : Unit := ()
noncomputable def tw8973803690348224638 : Unit := ()
noncomputable def tw14851680436948445374 : Unit := ()
noncomputable def tw2555065506035805374 : Unit := ()
noncomputable def tw14747140909534839006 : Unit := ()
noncomputable def tw8968299171318014206 : Unit := ()
noncomputable def tw6930518751129746686 : Unit := ()
noncomputable def tw9361663168868926718 : Unit := ()
noncomputable def tw12904532413392791838 : Unit := ()
noncomputable def tw10579768621468169598 : Unit := ()
noncomputable def tw2878843996050045342 : Unit := ()
noncomputable def tw10956490626425055710 : Unit := ()
noncomputable def tw788273225186049534 : Unit := ()
noncomputable def tw5118827330378232414 : Unit := ()
noncomputable def tw3486219094355674750 : Unit := ()
noncomputable def tw105208000716104510 : Unit := ()
noncomputable def tw13889484949932952446 : Unit := ()
noncomputable def tw2867133514656366558 : Unit := ()
noncomputable def tw5983031951866500094 : Unit := ()
noncomputable def tw15058813355848621054 : Unit := ()
noncomputable def tw2267912224990424062 : Unit := ()
noncomputable def tw14371913498598963198 : Unit := ()
noncomputable def tw14390669486469195807 : Unit := ()
noncomputable def tw11173010173815179391 : Unit := ()
noncomputable def tw17428532607074087071 : Unit := ()
noncomputable def tw2464713573024523455 : Unit := ()
noncomputable def tw18085771088847121727 : Unit := ()
noncomputable def tw11279390925490393535 : Unit := ()
noncomputable def tw3176535264509419967 : Unit := ()
noncomputable def tw9589608677651300831 : Unit := ()
noncomputable def tw14762295962024373759 : Unit := ()
noncomputable def tw5766051744304087583 : Unit := ()
noncomputable def tw2514443458684651071 : Unit := ()
noncomputable def tw453181688931711583 : Unit := ()
noncomputable def tw8345894832289464959 : Unit := ()
noncomputable def tw17582957951858275007 : Unit := ()
noncomputable def tw5715316560689409759 : Unit := ()
noncomputable def tw8999917154711486175 : Unit := ()
noncomputable def tw649594095290182367 : Unit := ()
noncomputable def tw10399464001100048223 : Unit := ()
noncomputable def tw5839659824258004927 : Unit := ()
noncomputable def tw3548060758652744671 : Unit := ()
noncomputable def tw12951431367848996787 : Unit := ()
noncomputable def tw12222506755733153933 : Unit := ()
end top
set_option maxHeartbeats 0 in
set_option Elab.async true in
theorem top : PySem.Challenge.rw_sq0049_01.Holds := by
  w_on
  o_law
  k_head
  (case hw => w_witness2)
  k_go0
  all_goals (try k_fold)
  rename_i h₁ F N0
  refine law_fin ?kf law_pure (by assumption) (by assumption) (by assumption) (by assumption) (by assumption) (by assumption) F N0 ?he ?hq
  case kf =>
    intro c P sa ob is vs n hK hl hc hd hi hn
    obtain ⟨prog, w, K, p, loose, mean, mg, mb, base, gens, drawn, os⟩ := c
    dsimp only at hK
    subst hK
    exact {
      gI := by kernel_rfl
      gR := by kernel_rfl
      kA := by kernel_rfl
      i_is_whole := FnIs.of' "is_whole" (argsOf (stAt pwB 18)) (.none) (.none) (.str (Str.ofString "gluepage.scaled") 356) (by kernel_rfl) (fun _ => by kernel_rfl) (by kernel_rfl) (by kernel_rfl)
      i_check_whole := FnIs.of' "check_whole" (argsOf (stAt pwB 19)) (.none) (.none) (.str (Str.ofString "gluepage.scaled") 356) (by kernel_rfl) (fun _ => by kernel_rfl) (by kernel_rfl) (by kernel_rfl)
      i_check_dimen := FnIs.of' "check_dimen" (argsOf (stAt pwB 21)) (.none) (.none) (.str (Str.ofString "gluepage.scaled") 356) (by kernel_rfl) (fun _ => by kernel_rfl) (by kernel_rfl) (by kernel_rfl)
      i_reading := FnIs.of' "reading" (argsOf (stAt pwB 24)) (.none) (.none) (.str (Str.ofString "gluepage.scaled") 356) (by kernel_rfl) (fun _ => by kernel_rfl) (by kernel_rfl) (by kernel_rfl)
      i_from_decimals := FnIs.of' "from_decimals" (argsOf (stAt pwB 23)) (.none) (.none) (.str (Str.ofString "gluepage.scaled") 356) (by kernel_rfl) (fun _ => by kernel_rfl) (by kernel_rfl) (by kernel_rfl)
      i_times := FnIs.of' "times" (argsOf (stAt pwB 26)) (.none) (.none) (.str (Str.ofString "gluepage.scaled") 356) (by kernel_rfl) (fun _ => by kernel_rfl) (by kernel_rfl) (by kernel_rfl)
      i_over := FnIs.of' "over" (argsOf (stAt pwB 28)) (.none) (.none) (.str (Str.ofString "gluepage.scaled") 356) (by kernel_rfl) (fun _ => by kernel_rfl) (by kernel_rfl) (by kernel_rfl)
      i_fraction := FnIs.of' "fraction" (argsOf (stAt pwB 30)) (.none) (.none) (.str (Str.ofString "gluepage.scaled") 356) (by kernel_rfl) (fun _ => by kernel_rfl) (by kernel_rfl) (by kernel_rfl)
      i_units := FnIs.of' "units" (argsOf (stAt pwB 31)) (.none) (.none) (.str (Str.ofString "gluepage.scaled") 356) (by kernel_rfl) (fun _ => by kernel_rfl) (by kernel_rfl) (by kernel_rfl)
      i_is_token := FnIs.of' "is_token" (argsOf (stAt pwB 42)) (.none) (.none) (.str (Str.ofString "gluepage.tokens") 607) (by kernel_rfl) (fun _ => by kernel_rfl) (by kernel_rfl) (by kernel_rfl)
      i_read := FnIs.of' "read" (argsOf (stAt (bodyOf (stAt pwB 70)) 1)) (.none) (.none) (.str (Str.ofString "gluepage.scan") 697) (by kernel_rfl) (fun _ => by kernel_rfl) (by kernel_rfl) (by kernel_rfl)
      i_read_expanded := FnIs.of' "read_expanded" (argsOf (stAt (bodyOf (stAt pwB 70)) 2)) (.none) (.none) (.str (Str.ofString "gluepage.scan") 697) (by kernel_rfl) (fun _ => by kernel_rfl) (by kernel_rfl) (by kernel_rfl)
      i_back := FnIs.of' "back" (argsOf (stAt (bodyOf (stAt pwB 70)) 3)) (.none) (.none) (.str (Str.ofString "gluepage.scan") 697) (by kernel_rfl) (fun _ => by kernel_rfl) (by kernel_rfl) (by kernel_rfl)
      i_left := FnIs.of' "left" (argsOf (stAt (bodyOf (stAt pwB 70)) 4)) (.none) (.none) (.str (Str.ofString "gluepage.scan") 697) (by kernel_rfl) (fun _ => by kernel_rfl) (by kernel_rfl) (by kernel_rfl)
      i_quantity := FnIs.of' "quantity" (argsOf (stAt (bodyOf (stAt pwB 70)) 5)) (.none) (.none) (.str (Str.ofString "gluepage.scan") 697) (by kernel_rfl) (fun _ => by kernel_rfl) (by kernel_rfl) (by kernel_rfl)
      i_font_size := FnIs.of' "font_size" (argsOf (stAt (bodyOf (stAt pwB 70)) 6)) (.none) (.none) (.str (Str.ofString "gluepage.scan") 697) (by kernel_rfl) (fun _ => by kernel_rfl) (by kernel_rfl) (by kernel_rfl)
      i___init__ := FnIs.of "__init__" (argsOf (stAt (bodyOf (stAt pwB 70)) 0)) (.ref 492) (.none) (.str (Str.ofString "gluepage.scan") 697) (by kernel_rfl) (fun s X Vs hl => vs6 hl fun v0 v1 v2 v3 v4 v5 => BindsTo.ofK X rfl ⟨_, _, _, rfl⟩ rfl rfl) (by kernel_rfl) (by kernel_rfl) (fun _ => .nil)
      i_unread := FnIs.of' "unread" (argsOf (stAt pwB 48)) (.none) (.none) (.str (Str.ofString "gluepage.scan") 697) (by kernel_rfl) (fun _ => by kernel_rfl) (by kernel_rfl) (by kernel_rfl)
      i_skip_blanks := FnIs.of' "skip_blanks" (argsOf (stAt pwB 49)) (.none) (.none) (.str (Str.ofString "gluepage.scan") 697) (by kernel_rfl) (fun _ => by kernel_rfl) (by kernel_rfl) (by kernel_rfl)
      i_optional_blank := FnIs.of' "optional_blank" (argsOf (stAt pwB 50)) (.none) (.none) (.str (Str.ofString "gluepage.scan") 697) (by kernel_rfl) (fun _ => by kernel_rfl) (by kernel_rfl) (by kernel_rfl)
      i_spells := FnIs.of' "spells" (argsOf (stAt pwB 51)) (.none) (.none) (.str (Str.ofString "gluepage.scan") 697) (by kernel_rfl) (fun _ => by kernel_rfl) (by kernel_rfl) (by kernel_rfl)
      i_keyword := FnIs.of' "keyword" (argsOf (stAt pwB 52)) (.none) (.none) (.str (Str.ofString "gluepage.scan") 697) (by kernel_rfl) (fun _ => by kernel_rfl) (by kernel_rfl) (by kernel_rfl)
      i_signs := FnIs.of' "signs" (argsOf (stAt pwB 53)) (.none) (.none) (.str (Str.ofString "gluepage.scan") 697) (by kernel_rfl) (fun _ => by kernel_rfl) (by kernel_rfl) (by kernel_rfl)
      i_digit_of := FnIs.of' "digit_of" (argsOf (stAt pwB 55)) (.none) (.none) (.str (Str.ofString "gluepage.scan") 697) (by kernel_rfl) (fun _ => by kernel_rfl) (by kernel_rfl) (by kernel_rfl)
      i_written_number := FnIs.of' "written_number" (argsOf (stAt pwB 57)) (.none) (.none) (.str (Str.ofString "gluepage.scan") 697) (by kernel_rfl) (fun _ => by kernel_rfl) (by kernel_rfl) (by kernel_rfl)
      i_number_parts := FnIs.of' "number_parts" (argsOf (stAt pwB 58)) (.none) (.none) (.str (Str.ofString "gluepage.scan") 697) (by kernel_rfl) (fun _ => by kernel_rfl) (by kernel_rfl) (by kernel_rfl)
      i_decimals := FnIs.of' "decimals" (argsOf (stAt pwB 59)) (.none) (.none) (.str (Str.ofString "gluepage.scan") 697) (by kernel_rfl) (fun _ => by kernel_rfl) (by kernel_rfl) (by kernel_rfl)
      i_factor := FnIs.of' "factor" (argsOf (stAt pwB 60)) (.none) (.none) (.str (Str.ofString "gluepage.scan") 697) (by kernel_rfl) (fun _ => by kernel_rfl) (by kernel_rfl) (by kernel_rfl)
      i_attached := FnIs.of' "attached" (argsOf (stAt pwB 62)) (.none) (.none) (.str (Str.ofString "gluepage.scan") 697) (by kernel_rfl) (fun _ => by kernel_rfl) (by kernel_rfl) (by kernel_rfl)
      i_converted := FnIs.of' "converted" (argsOf (stAt pwB 63)) (.none) (.none) (.str (Str.ofString "gluepage.scan") 697) (by kernel_rfl) (fun _ => by kernel_rfl) (by kernel_rfl) (by kernel_rfl)
      i_measured := FnIs.of' "measured" (argsOf (stAt pwB 64)) (.none) (.none) (.str (Str.ofString "gluepage.scan") 697) (by kernel_rfl) (fun _ => by kernel_rfl) (by kernel_rfl) (by kernel_rfl)
      i_written_unit := FnIs.of' "written_unit" (argsOf (stAt pwB 65)) (.none) (.none) (.str (Str.ofString "gluepage.scan") 697) (by kernel_rfl) (fun _ => by kernel_rfl) (by kernel_rfl) (by kernel_rfl)
      i_with_unit := FnIs.of' "with_unit" (argsOf (stAt pwB 67)) (.none) (.none) (.str (Str.ofString "gluepage.scan") 697) (by kernel_rfl) (fun _ => by kernel_rfl) (by kernel_rfl) (by kernel_rfl)
      i_dimen := FnIs.of "dimen" (argsOf (stAt pwB 68)) (.ref 470) (.none) (.str (Str.ofString "gluepage.scan") 697) (by kernel_rfl) (fun s X Vs hl => vs1 hl fun v0 => BindsTo.ofK X rfl ⟨_, _, _, rfl⟩ rfl rfl) (by kernel_rfl) (by kernel_rfl) (fun _ => .cons (.bool _) (.cons (.bool _) .nil))
      i__law_rows := FnIs.of' "_law_rows" (argsOf (stAt pwB 72)) (.none) (.none) (.str (Str.ofString "law_sq0049_01") 1049) (by kernel_rfl) (fun _ => by kernel_rfl) (by kernel_rfl) (by kernel_rfl)
      i__law_units := FnIs.of' "_law_units" (argsOf (stAt pwB 73)) (.none) (.none) (.str (Str.ofString "law_sq0049_01") 1049) (by kernel_rfl) (fun _ => by kernel_rfl) (by kernel_rfl) (by kernel_rfl)
      i__law_pool := FnIs.of' "_law_pool" (argsOf (stAt pwB 74)) (.none) (.none) (.str (Str.ofString "law_sq0049_01") 1049) (by kernel_rfl) (fun _ => by kernel_rfl) (by kernel_rfl) (by kernel_rfl)
      i__law_take := FnIs.of' "_law_take" (argsOf (stAt pwB 75)) (.none) (.none) (.str (Str.ofString "law_sq0049_01") 1049) (by kernel_rfl) (fun _ => by kernel_rfl) (by kernel_rfl) (by kernel_rfl)
      i__law_great := FnIs.of' "_law_great" (argsOf (stAt pwB 76)) (.none) (.none) (.str (Str.ofString "law_sq0049_01") 1049) (by kernel_rfl) (fun _ => by kernel_rfl) (by kernel_rfl) (by kernel_rfl)
      i__law_read := FnIs.of' "_law_read" (argsOf (stAt pwB 77)) (.none) (.none) (.str (Str.ofString "law_sq0049_01") 1049) (by kernel_rfl) (fun _ => by kernel_rfl) (by kernel_rfl) (by kernel_rfl)
      i__law_multiples := FnIs.of' "_law_multiples" (argsOf (stAt pwB 78)) (.none) (.none) (.str (Str.ofString "law_sq0049_01") 1049) (by kernel_rfl) (fun _ => by kernel_rfl) (by kernel_rfl) (by kernel_rfl)
      i__law_decimal := FnIs.of' "_law_decimal" (argsOf (stAt pwB 79)) (.none) (.none) (.str (Str.ofString "law_sq0049_01") 1049) (by kernel_rfl) (fun _ => by kernel_rfl) (by kernel_rfl) (by kernel_rfl)
      i__law_order := FnIs.of' "_law_order" (argsOf (stAt pwB 80)) (.none) (.none) (.str (Str.ofString "law_sq0049_01") 1049) (by kernel_rfl) (fun _ => by kernel_rfl) (by kernel_rfl) (by kernel_rfl)
      i__law_sums := FnIsC.of "_law_sums" (argsOf (stAt pwB 81)) (.none) (.none) (.str (Str.ofString "law_sq0049_01") 1049) (by kernel_rfl) (fun s V => BindsTo.of_eq (by kernel_rfl)) (by kernel_rfl) (by kernel_rfl) (by kernel_rfl) (by kernel_rfl) (by decide +kernel) (by kernel_rfl) (by kernel_rfl) (fun _ => by kernel_rfl) (fun _ _ _ _ => by kernel_rfl)
      i__law_ways := FnIs.of' "_law_ways" (argsOf (stAt pwB 82)) (.none) (.none) (.str (Str.ofString "law_sq0049_01") 1049) (by kernel_rfl) (fun _ => by kernel_rfl) (by kernel_rfl) (by kernel_rfl)
      i__law_bounds := FnIs.of' "_law_bounds" (argsOf (stAt pwB 83)) (.none) (.none) (.str (Str.ofString "law_sq0049_01") 1049) (by kernel_rfl) (fun _ => by kernel_rfl) (by kernel_rfl) (by kernel_rfl)
      i__law_part := FnIs.of' "_law_part" (argsOf (stAt pwB 84)) (.none) (.none) (.str (Str.ofString "law_sq0049_01") 1049) (by kernel_rfl) (fun _ => by kernel_rfl) (by kernel_rfl) (by kernel_rfl)
      i__law_scaled := FnIs.of' "_law_scaled" (argsOf (stAt pwB 85)) (.none) (.none) (.str (Str.ofString "law_sq0049_01") 1049) (by kernel_rfl) (fun _ => by kernel_rfl) (by kernel_rfl) (by kernel_rfl)
      i_law := FnIs.of' "law" (argsOf (stAt pwB 86)) (.none) (.none) (.str (Str.ofString "law_sq0049_01") 1049) (by kernel_rfl) (fun _ => by kernel_rfl) (by kernel_rfl) (by kernel_rfl)
      g_BACK_QUOTE := ⟨.ref 323, by kernel_rfl, fun _ => .tup (vs := [.int 12 629, .int 96 725]) (n := 0) (.inr (by kernel_rfl)) (.cons (.int _ _) (.cons (.int _ _) (.nil)))⟩
      g_COMMA := ⟨.ref 318, by kernel_rfl, fun _ => .tup (vs := [.int 12 629, .int 44 719]) (n := 0) (.inr (by kernel_rfl)) (.cons (.int _ _) (.cons (.int _ _) (.nil)))⟩
      g_GREATEST_CODES := ⟨.ref 298, by kernel_rfl, fun _ => .tup (vs := [.int 1048575 673, .int 255 674, .int 255 675, .int 255 676, .int 255 677, .int 9 678, .int 255 679, .int 255 680, .int 255 681, .int 9 682, .int 255 683, .int 255 684, .int 255 685, .int 255 686, .int 255 687, .int 0 688]) (n := 0) (.inr (by kernel_rfl)) (.cons (.int _ _) (.cons (.int _ _) (.cons (.int _ _) (.cons (.int _ _) (.cons (.int _ _) (.cons (.int _ _) (.cons (.int _ _) (.cons (.int _ _) (.cons (.int _ _) (.cons (.int _ _) (.cons (.int _ _) (.cons (.int _ _) (.cons (.int _ _) (.cons (.int _ _) (.cons (.int _ _) (.cons (.int _ _) (.nil)))))))))))))))))⟩
      g_HEXADECIMAL_MARK := ⟨.ref 325, by kernel_rfl, fun _ => .tup (vs := [.int 12 629, .int 34 727]) (n := 0) (.inr (by kernel_rfl)) (.cons (.int _ _) (.cons (.int _ _) (.nil)))⟩
      g_LEAST_CODES := ⟨.ref 297, by kernel_rfl, fun _ => .tup (vs := [.int 0 655, .int 0 656, .int 0 657, .int 0 658, .int 0 659, .int 1 660, .int 0 661, .int 0 662, .int 0 663, .int 1 664, .int 0 665, .int 0 666, .int 0 667, .int 0 668, .int 0 669, .int 0 670]) (n := 0) (.inr (by kernel_rfl)) (.cons (.int _ _) (.cons (.int _ _) (.cons (.int _ _) (.cons (.int _ _) (.cons (.int _ _) (.cons (.int _ _) (.cons (.int _ _) (.cons (.int _ _) (.cons (.int _ _) (.cons (.int _ _) (.cons (.int _ _) (.cons (.int _ _) (.cons (.int _ _) (.cons (.int _ _) (.cons (.int _ _) (.cons (.int _ _) (.nil)))))))))))))))))⟩
      g_MINUS := ⟨.ref 315, by kernel_rfl, fun _ => .tup (vs := [.int 12 629, .int 45 716]) (n := 0) (.inr (by kernel_rfl)) (.cons (.int _ _) (.cons (.int _ _) (.nil)))⟩
      g_OCTAL_MARK := ⟨.ref 324, by kernel_rfl, fun _ => .tup (vs := [.int 12 629, .int 39 726]) (n := 0) (.inr (by kernel_rfl)) (.cons (.int _ _) (.cons (.int _ _) (.nil)))⟩
      g_PLUS := ⟨.ref 314, by kernel_rfl, fun _ => .tup (vs := [.int 12 629, .int 43 715]) (n := 0) (.inr (by kernel_rfl)) (.cons (.int _ _) (.cons (.int _ _) (.nil)))⟩
      g_POINT := ⟨.ref 317, by kernel_rfl, fun _ => .tup (vs := [.int 12 629, .int 46 718]) (n := 0) (.inr (by kernel_rfl)) (.cons (.int _ _) (.cons (.int _ _) (.nil)))⟩
      b_abs := ⟨by kernel_rfl, by kernel_rfl, by decide +kernel⟩
      b_bool := ⟨by kernel_rfl, by kernel_rfl, by decide +kernel⟩
      b_chr := ⟨by kernel_rfl, by kernel_rfl, by decide +kernel⟩
      b_divmod := ⟨by kernel_rfl, by kernel_rfl, by decide +kernel⟩
      b_int := ⟨by kernel_rfl, by kernel_rfl, by decide +kernel⟩
      b_isinstance := ⟨by kernel_rfl, by kernel_rfl, by decide +kernel⟩
      b_len := ⟨by kernel_rfl, by kernel_rfl, by decide +kernel⟩
      b_list := ⟨by kernel_rfl, by kernel_rfl, by decide +kernel⟩
      b_min := ⟨by kernel_rfl, by kernel_rfl, by decide +kernel⟩
      b_ord := ⟨by kernel_rfl, by kernel_rfl, by decide +kernel⟩
      b_range := ⟨by kernel_rfl, by kernel_rfl, by decide +kernel⟩
      b_str := ⟨by kernel_rfl, by kernel_rfl, by decide +kernel⟩
      b_tuple := ⟨by kernel_rfl, by kernel_rfl, by decide +kernel⟩
      v__law_read := by kernel_rfl
      v_Overflow := by kernel_rfl
      kts := by kernel_rfl
      a_rest := ⟨by kernel_rfl, by kernel_rfl, none, by kernel_rfl, by kernel_rfl⟩
      a_sizes := ⟨by kernel_rfl, by kernel_rfl, none, by kernel_rfl, by kernel_rfl⟩
      a_inner := ⟨by kernel_rfl, by kernel_rfl, none, by kernel_rfl, by kernel_rfl⟩
      p_rest := ⟨by kernel_rfl, by kernel_rfl, by kernel_rfl, by kernel_rfl⟩
      p_sizes := ⟨by kernel_rfl, by kernel_rfl, by kernel_rfl, by kernel_rfl⟩
      p_inner := ⟨by kernel_rfl, by kernel_rfl, by kernel_rfl, by kernel_rfl⟩
      p_names := ⟨by kernel_rfl, by kernel_rfl, by kernel_rfl, by kernel_rfl⟩
      p_balance := ⟨by kernel_rfl, by kernel_rfl, by kernel_rfl, by kernel_rfl⟩
      a_balance := ⟨by kernel_rfl, by kernel_rfl, none, by kernel_rfl, by kernel_rfl⟩
      m_read := ⟨by kernel_rfl, by kernel_rfl, by kernel_rfl, by kernel_rfl⟩
      m_read_expanded := ⟨by kernel_rfl, by kernel_rfl, by kernel_rfl, by kernel_rfl⟩
      m_back := ⟨by kernel_rfl, by kernel_rfl, by kernel_rfl, by kernel_rfl⟩
      m_left := ⟨by kernel_rfl, by kernel_rfl, by kernel_rfl, by kernel_rfl⟩
      m_quantity := ⟨by kernel_rfl, by kernel_rfl, by kernel_rfl, by kernel_rfl⟩
      m_font_size := ⟨by kernel_rfl, by kernel_rfl, by kernel_rfl, by kernel_rfl⟩
      overflow := ⟨by kernel_rfl, by kernel_rfl, by kernel_rfl, FnIs.of "__init__" (argsOf (stAt (bodyOf (stAt pwB 7)) 0)) (.ref 49) (.none) (.str (Str.ofString "gluepage.errors") 262) (by kernel_rfl) (fun s X Vs hl => vs2 hl fun v0 v1 => BindsTo.ofK X rfl ⟨_, _, _, rfl⟩ rfl rfl) (by kernel_rfl) (by kernel_rfl) (fun _ => .nil), by kernel_rfl, by kernel_rfl, ⟨_, 59, getD_some (d := { name := "", bases := [], mro := [], ns := 0, qualname := "" }) (by kernel_rfl), by kernel_rfl, by kernel_rfl⟩, by kernel_rfl, fun _ => by kernel_rfl, fun _ => by kernel_rfl, fun _ => by kernel_rfl⟩
      make := by kernel_rfl
      initf := by kernel_rfl
      fninit := by kernel_rfl
      scr := ⟨ob, vs.toArray, n, hl, hc, hd, by rw [List.size_toArray]; exact intsAre_len hi⟩
      scr2 := ⟨ob, vs, n, hl, hc, hd, fun W => ints_rvs hi, by rw [intsAre_len hi]; exact hn⟩
    }
  case he => exact PassesOwn.leaving
  case hq =>
    intro s' hk ho hg
    refine ⟨.inl ⟨.bool true, .bool true, [], rfl, fun _ => ?_, ?_, ?_, ?_⟩, hk, ho, hg.trans (by assumption)⟩
    · rfl
    · constructor
    · wrow_post
    · intro q
      exact ⟨List.nodup_nil, fun a h => nomatch h⟩
end Mine

theorem PySem.Challenge.cw_sq0049_01_holds : PySem.Challenge.rw_sq0049_01.Holds := by
  exact Mine.top
