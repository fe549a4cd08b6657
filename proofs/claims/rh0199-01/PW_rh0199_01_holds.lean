import PyProof.Rows.All
import Wide.All
import OpenK.AllK
import Wide.FinOn
import PySem.Challenge.RW_rh0199_01
set_option Elab.async false
-- part H0
section
open PySem PySem.W PyProof.Rows
namespace Mine
/-- the program less the four rows that name its modules -/
noncomputable def cl (i : Nat) : Stmt := (PySem.Challenge.pw_rh0199_01.main.body)[i]?.getD (.Pass ⟨0,0,0,0⟩)
noncomputable def vw : Program := { PySem.Challenge.pw_rh0199_01 with main := { PySem.Challenge.pw_rh0199_01.main with body := [cl 0, cl 2, cl 3, cl 5, cl 6, cl 8, cl 9, cl 10, cl 11, cl 12, cl 13, cl 14, cl 15, cl 16, cl 17, cl 19, cl 20, cl 21] } }
end Mine

end
-- part FW1
section
open PySem PySem.W PyProof.Rows PySem.Calls PySem.Spec
set_option maxRecDepth 20000
set_option linter.unusedVariables false
namespace Mine

abbrev Keeps (h h' : Heap) : Prop := ∀ b o, h.get? b = some o → h'.get? b = some o

theorem keeps_refl (h : Heap) : Keeps h h := fun _ _ e => e
theorem keeps_push (h : Heap) (o : Obj) : Keeps h (h.push o) := fun _ _ e => Heap.get?_push_of_some o e
theorem Keeps.trans {a b c : Heap} (x : Keeps a b) (y : Keeps b c) : Keeps a c := fun b o e => y b o (x b o e)

/-- what an evaluation may do to the heap: objects at addresses in Z may turn, none goes -/
structure Aft (Z : Addr → Prop) (h h' : Heap) : Prop where
  keep : ∀ b o, ¬ Z b → h.get? b = some o → h'.get? b = some o
  there : ∀ b, (∃ o, h.get? b = some o) → ∃ o, h'.get? b = some o

theorem Aft.of_keeps {Z : Addr → Prop} {h h' : Heap} (k : Keeps h h') : Aft Z h h' := ⟨fun b o _ e => k b o e, fun b ⟨o, e⟩ => ⟨o, k b o e⟩⟩
theorem Aft.refl {Z : Addr → Prop} (h : Heap) : Aft Z h h := .of_keeps (keeps_refl h)
theorem Aft.trans {Z : Addr → Prop} {a b c : Heap} (x : Aft Z a b) (y : Aft Z b c) : Aft Z a c := ⟨fun d o n e => y.keep d o n (x.keep d o n e), fun d e => y.there d (x.there d e)⟩
theorem Aft.keeps {Z : Addr → Prop} {h h' : Heap} (x : Aft Z h h') (z : ∀ a, ¬ Z a) : Keeps h h' := fun b o e => x.keep b o (z b) e

structure Wd where
  prog : Program
  w : World
  N : Nat
  mg : Str → Option Value
  mb : Str → Option Value
  defs : List DefItem
  consts : List (Str × PyData)
  objs : List (Str × (Obj → Prop))
  names : List Str
  base : Heap
  glob : Glob N mg mb defs consts objs names base

abbrev Wd.M (W : Wd) : Model := model W.prog W.w
abbrev Wd.ik (W : Wd) : KeyKind W.prog W.w Int := PySem.intKind W.prog W.w
abbrev Wd.tk (W : Wd) : HeapKind W.prog W.w (List Int) := tupleKind (PySem.intKind W.prog W.w)

inductive D where
  | none
  | bool (b : Bool)
  | int (i : Int)
  | str (x : Str)
  | tup (ds : List D)
  | lst (ds : List D)
  | idict (ks : List Int) (ds : List D)
  | tdict (ks : List (List Int)) (ds : List D)
  | ptr (a : Addr)
  | upto (b : Int)

mutual
inductive Rep (W : Wd) (X : Addr → Prop) (h : Heap) : Value → D → Prop
  | none : Rep W X h .none .none
  | bool (b : Bool) : Rep W X h (.bool b) (.bool b)
  | int (i : Int) (t : Tok) : Rep W X h (.int i t) (.int i)
  | str (x : Str) (t : Tok) : Rep W X h (.str x t) (.str x)
  | ptr (a : Addr) : Rep W X h (.ref a) (.ptr a)
  | upto {a : Addr} {b : Int} {t : Tok} : ¬ X a → h.IsSliceOf a .none (.int b t) .none → Rep W X h (.ref a) (.upto b)
  | tup {a : Addr} {vs : List Value} {ds : List D} : ¬ X a → IsTup h a vs.toArray → Reps W X h vs ds → Rep W X h (.ref a) (.tup ds)
  | lst {a : Addr} {vs : List Value} {ds : List D} : ¬ X a → h.PlainList a vs.toArray → Reps W X h vs ds → Rep W X h (.ref a) (.lst ds)
  | idict {a : Addr} {ks : List Int} {vs : List Value} {ds : List D} : ¬ X a → (a == sysModules) = false → h.DictOf W.ik a (ks.zip vs) → ks.length = vs.length → Reps W X h vs ds → Rep W X h (.ref a) (.idict ks ds)
  | tdict {a : Addr} {ks : List (List Int)} {as : List Addr} {vs : List Value} {ds : List D} : ¬ X a → (a == sysModules) = false → (∀ b ∈ as, ¬ X b) → h.DictOfH W.tk a (ks.zip (as.zip vs)) → ks.length = as.length → as.length = vs.length →
      Reps W X h vs ds → Rep W X h (.ref a) (.tdict ks ds)
inductive Reps (W : Wd) (X : Addr → Prop) (h : Heap) : List Value → List D → Prop
  | nil : Reps W X h [] []
  | cons {v : Value} {vs : List Value} {d : D} {ds : List D} : Rep W X h v d → Reps W X h vs ds → Reps W X h (v :: vs) (d :: ds)
end

section
variable {W : Wd} {X : Addr → Prop} {h : Heap}
/-- what a value must be, by its datum -/
def Inv (W : Wd) (X : Addr → Prop) (h : Heap) (v : Value) : D → Prop
  | .none => v = .none
  | .bool b => v = .bool b
  | .int i => ∃ t, v = .int i t
  | .str x => ∃ t, v = .str x t
  | .tup ds => ∃ a vs, v = .ref a ∧ ¬ X a ∧ IsTup h a (List.toArray vs) ∧ Reps W X h vs ds
  | .lst ds => ∃ a vs, v = .ref a ∧ ¬ X a ∧ h.PlainList a (List.toArray vs) ∧ Reps W X h vs ds
  | .idict ks ds => ∃ a vs, v = .ref a ∧ ¬ X a ∧ (a == sysModules) = false ∧ h.DictOf W.ik a (ks.zip vs) ∧ ks.length = vs.length ∧ Reps W X h vs ds
  | .tdict ks ds => ∃ (a : Addr) (as : List Addr) (vs : List Value), v = .ref a ∧ ¬ X a ∧ (a == sysModules) = false ∧ (∀ b ∈ as, ¬ X b) ∧ h.DictOfH W.tk a (ks.zip (as.zip vs)) ∧ ks.length = as.length ∧ as.length = vs.length ∧ Reps W X h vs ds
  | .ptr a => v = .ref a
  | .upto b => ∃ a t, v = .ref a ∧ ¬ X a ∧ h.IsSliceOf a .none (.int b t) .none
theorem Rep.inv {v : Value} {d : D} (q : Rep W X h v d) : Inv W X h v d := by
  cases q with
  | none => exact rfl
  | bool => exact rfl
  | int => exact ⟨_, rfl⟩
  | str => exact ⟨_, rfl⟩
  | ptr => exact rfl
  | upto n i => exact ⟨_, _, rfl, n, i⟩
  | tup n i r => exact ⟨_, _, rfl, n, i, r⟩
  | lst n i r => exact ⟨_, _, rfl, n, i, r⟩
  | idict n lo i l r => exact ⟨_, _, rfl, n, lo, i, l, r⟩
  | tdict n lo nb i l l2 r => exact ⟨_, _, _, rfl, n, lo, nb, i, l, l2, r⟩
def Invs (W : Wd) (X : Addr → Prop) (h : Heap) (vs : List Value) : List D → Prop
  | [] => vs = []
  | d :: ds => ∃ v us, vs = v :: us ∧ Rep W X h v d ∧ Reps W X h us ds
theorem Reps.inv {vs : List Value} {ds : List D} (q : Reps W X h vs ds) : Invs W X h vs ds := by
  cases q with
  | nil => exact rfl
  | cons a r => exact ⟨_, _, rfl, a, r⟩
theorem Rep.intC {i : Int} {motive : ∀ v, Rep W X h v (.int i) → Prop} (int : ∀ t, motive (.int i t) (.int i t)) {v : Value} (q : Rep W X h v (.int i)) : motive v q := by
  obtain ⟨t, rfl⟩ := q.inv; exact int t
theorem Rep.strC {x : Str} {motive : ∀ v, Rep W X h v (.str x) → Prop} (str : ∀ t, motive (.str x t) (.str x t)) {v : Value} (q : Rep W X h v (.str x)) : motive v q := by
  obtain ⟨t, rfl⟩ := q.inv; exact str t
theorem Rep.boolC {b : Bool} {motive : ∀ v, Rep W X h v (.bool b) → Prop} (bool : motive (.bool b) (.bool b)) {v : Value} (q : Rep W X h v (.bool b)) : motive v q := by
  have e : v = .bool b := q.inv; subst e; exact bool
theorem Rep.noneC {motive : ∀ v, Rep W X h v .none → Prop} (none : motive .none .none) {v : Value} (q : Rep W X h v .none) : motive v q := by
  have e : v = .none := q.inv; subst e; exact none
theorem Rep.ptrC {a : Addr} {motive : ∀ v, Rep W X h v (.ptr a) → Prop} (ptr : motive (.ref a) (.ptr a)) {v : Value} (q : Rep W X h v (.ptr a)) : motive v q := by
  have e : v = .ref a := q.inv; subst e; exact ptr
theorem Rep.uptoC {b : Int} {motive : ∀ v, Rep W X h v (.upto b) → Prop} (upto : ∀ {a : Addr} {t : Tok} (n : ¬ X a) (i : h.IsSliceOf a .none (.int b t) .none), motive (.ref a) (.upto n i)) {v : Value} (q : Rep W X h v (.upto b)) : motive v q := by
  obtain ⟨a, t, rfl, n, i⟩ := q.inv; exact upto n i
theorem Rep.tupC {ds : List D} {motive : ∀ v, Rep W X h v (.tup ds) → Prop} (tup : ∀ {a : Addr} {vs : List Value} (n : ¬ X a) (i : IsTup h a vs.toArray) (r : Reps W X h vs ds), motive (.ref a) (.tup n i r)) {v : Value} (q : Rep W X h v (.tup ds)) : motive v q := by
  obtain ⟨a, vs, rfl, n, i, r⟩ := q.inv; exact tup n i r
theorem Rep.lstC {ds : List D} {motive : ∀ v, Rep W X h v (.lst ds) → Prop} (lst : ∀ {a : Addr} {vs : List Value} (n : ¬ X a) (i : h.PlainList a vs.toArray) (r : Reps W X h vs ds), motive (.ref a) (.lst n i r)) {v : Value} (q : Rep W X h v (.lst ds)) : motive v q := by
  obtain ⟨a, vs, rfl, n, i, r⟩ := q.inv; exact lst n i r
theorem Rep.idictC {ks : List Int} {ds : List D} {motive : ∀ v, Rep W X h v (.idict ks ds) → Prop} (idict : ∀ {a : Addr} {vs : List Value} (n : ¬ X a) (lo : (a == sysModules) = false) (i : h.DictOf W.ik a (ks.zip vs)) (l : ks.length = vs.length) (r : Reps W X h vs ds), motive (.ref a) (.idict n lo i l r))
    {v : Value} (q : Rep W X h v (.idict ks ds)) : motive v q := by
  obtain ⟨a, vs, rfl, n, lo, i, l, r⟩ := q.inv; exact idict n lo i l r
theorem Rep.tdictC {ks : List (List Int)} {ds : List D} {motive : ∀ v, Rep W X h v (.tdict ks ds) → Prop} (tdict : ∀ {a : Addr} {as : List Addr} {vs : List Value} (n : ¬ X a) (lo : (a == sysModules) = false) (nb : ∀ b ∈ as, ¬ X b) (i : h.DictOfH W.tk a (ks.zip (as.zip vs)))
    (l : ks.length = as.length) (l2 : as.length = vs.length) (r : Reps W X h vs ds), motive (.ref a) (.tdict n lo nb i l l2 r)) {v : Value} (q : Rep W X h v (.tdict ks ds)) : motive v q := by
  obtain ⟨a, as, vs, rfl, n, lo, nb, i, l, l2, r⟩ := q.inv; exact tdict n lo nb i l l2 r
theorem Reps.nilC {motive : ∀ vs, Reps W X h vs [] → Prop} (nil : motive [] .nil) {vs : List Value} (q : Reps W X h vs []) : motive vs q := by
  have e : vs = [] := q.inv; subst e; exact nil
theorem Reps.consC {d : D} {ds : List D} {motive : ∀ vs, Reps W X h vs (d :: ds) → Prop} (cons : ∀ {v : Value} {vs : List Value} (a : Rep W X h v d) (r : Reps W X h vs ds), motive (v :: vs) (.cons a r)) {vs : List Value} (q : Reps W X h vs (d :: ds)) : motive vs q := by
  obtain ⟨v, us, rfl, a, r⟩ := q.inv; exact cons a r
end

section
variable {W : Wd} {X : Addr → Prop} {h h' : Heap}

theorem isTup_at {a : Addr} {its : Array Value} (t : IsTup h a its) (k : ∀ o, h.get? a = some o → h'.get? a = some o) : IsTup h' a its := let ⟨o, e, r⟩ := t; ⟨o, k o e, r⟩
theorem isList_at {a : Addr} {its : Array Value} (t : h.IsList a its) (k : ∀ o, h.get? a = some o → h'.get? a = some o) : h'.IsList a its := let ⟨o, e, r⟩ := t; ⟨o, k o e, r⟩
theorem dictOf_at {prog : Program} {w : World} {K : Type} [DecidableEq K] {knd : KeyKind prog w K} {a : Addr} {kvs : List (K × Value)} (t : h.DictOf knd a kvs) (k : ∀ o, h.get? a = some o → h'.get? a = some o) : h'.DictOf knd a kvs :=
  let ⟨o, es, ep, e, r⟩ := t; ⟨o, es, ep, k o e, r⟩
theorem tupKey_at {prog : Program} {w : World} {K : Type} [DecidableEq K] {knd : KeyKind prog w K} {ks : List K} {a : Addr} (t : IsTupleKey knd h ks a) (k : ∀ o, h.get? a = some o → h'.get? a = some o) : IsTupleKey knd h' ks a :=
  let ⟨o, i, n, e, r⟩ := t; ⟨o, i, n, k o e, r⟩
theorem mem_zip3 {α : Type} : ∀ {ks : List α} {as : List Addr} {vs : List Value} {x : α × Addr × Value}, x ∈ ks.zip (as.zip vs) → x.2.1 ∈ as
  | [], _, _, _, m => by simp at m
  | _ :: _, [], _, _, m => by simp at m
  | _ :: _, _ :: _, [], _, m => by simp at m
  | k :: ks, a :: as, v :: vs, x, m => by
    simp only [List.zip_cons_cons, List.mem_cons] at m
    rcases m with rfl | m
    · exact List.mem_cons_self
    · exact List.mem_cons_of_mem _ (mem_zip3 m)
theorem dictOfH_at {prog : Program} {w : World} {K : Type} [DecidableEq K] {knd : KeyKind prog w K} {a : Addr} {xs : List (List K × Addr × Value)} (t : h.DictOfH (tupleKind knd) a xs)
    (k : ∀ o, h.get? a = some o → h'.get? a = some o) (k2 : ∀ x ∈ xs, ∀ o, h.get? x.2.1 = some o → h'.get? x.2.1 = some o) : h'.DictOfH (tupleKind knd) a xs :=
  let ⟨o, es, ep, e, r1, r2, r3, r4, r5⟩ := t; ⟨o, es, ep, k o e, r1, r2, r3, fun x hx => tupKey_at (r4 x hx) (k2 x hx), r5⟩

theorem isSlice_at {a : Addr} {x y z : Value} (t : h.IsSliceOf a x y z) (k : ∀ o, h.get? a = some o → h'.get? a = some o) : h'.IsSliceOf a x y z := let ⟨o, e, r⟩ := t; ⟨o, k o e, r⟩
mutual
theorem Rep.up (k : ∀ b o, ¬ X b → h.get? b = some o → h'.get? b = some o) : ∀ {v : Value} {d : D}, Rep W X h v d → Rep W X h' v d
  | _, _, .none => .none
  | _, _, .bool b => .bool b
  | _, _, .int i t => .int i t
  | _, _, .str x t => .str x t
  | _, _, .ptr a => .ptr a
  | _, _, .upto n t => .upto n (isSlice_at t fun o e => k _ o n e)
  | _, _, .tup n t r => .tup n (isTup_at t fun o e => k _ o n e) (Reps.up k r)
  | _, _, .lst n t r => .lst n (t.at fun o e => k _ o n e) (Reps.up k r)
  | _, _, .idict n lo t l r => .idict n lo (dictOf_at t fun o e => k _ o n e) l (Reps.up k r)
  | _, _, .tdict n lo m t l1 l2 r => .tdict n lo m (dictOfH_at t (fun o e => k _ o n e) fun _ hx o e => k _ o (m _ (mem_zip3 hx)) e) l1 l2 (Reps.up k r)
theorem Reps.up (k : ∀ b o, ¬ X b → h.get? b = some o → h'.get? b = some o) : ∀ {vs : List Value} {ds : List D}, Reps W X h vs ds → Reps W X h' vs ds
  | _, _, .nil => .nil
  | _, _, .cons a r => .cons (Rep.up k a) (Reps.up k r)
end
mutual
theorem Rep.weak {Y : Addr → Prop} (k : ∀ b, Y b → (∃ o, h.get? b = some o) → X b) : ∀ {v : Value} {d : D}, Rep W X h v d → Rep W Y h v d
  | _, _, .none => .none
  | _, _, .bool b => .bool b
  | _, _, .int i t => .int i t
  | _, _, .str x t => .str x t
  | _, _, .ptr a => .ptr a
  | _, _, .upto n t => .upto (fun y => n (k _ y (let ⟨o, e, _⟩ := t; ⟨o, e⟩))) t
  | _, _, .tup n t r => .tup (fun y => n (k _ y (let ⟨o, e, _⟩ := t; ⟨o, e⟩))) t (Reps.weak k r)
  | _, _, .lst n t r => .lst (fun y => n (k _ y (let ⟨_, e⟩ := t; ⟨_, e⟩))) t (Reps.weak k r)
  | _, _, .idict n lo t l r => .idict (fun y => n (k _ y (let ⟨o, _, _, e, _⟩ := t; ⟨o, e⟩))) lo t l (Reps.weak k r)
  | _, _, .tdict (ks := ks) (as := as) (vs := vs) n lo m t l1 l2 r => .tdict (fun y => n (k _ y (let ⟨o, _, _, e, _⟩ := t; ⟨o, e⟩))) lo (fun b hb y => m b hb (k b y (by
      obtain ⟨_, _, _, _, _, _, _, his, _⟩ := t
      obtain ⟨i, hi, rfl⟩ := List.mem_iff_getElem.mp hb
      have hk : i < ks.length := by omega
      have hv : i < vs.length := by omega
      obtain ⟨o, _, _, e, _⟩ := his (ks[i], as[i], vs[i]) (List.mem_iff_getElem.mpr ⟨i, by simp; omega, by simp⟩)
      exact ⟨o, e⟩))) t l1 l2 (Reps.weak k r)
theorem Reps.weak {Y : Addr → Prop} (k : ∀ b, Y b → (∃ o, h.get? b = some o) → X b) : ∀ {vs : List Value} {ds : List D}, Reps W X h vs ds → Reps W Y h vs ds
  | _, _, .nil => .nil
  | _, _, .cons a r => .cons (Rep.weak k a) (Reps.weak k r)
end

theorem Reps.length {vs : List Value} {ds : List D} (r : Reps W X h vs ds) : vs.length = ds.length := by
  induction vs generalizing ds with
  | nil => cases r; rfl
  | cons v vs ih => cases r with | cons _ r => simp [ih r]
theorem Reps.get {vs : List Value} {ds : List D} (r : Reps W X h vs ds) {i : Nat} {d : D} (hd : ds[i]? = some d) : ∃ v, vs[i]? = some v ∧ Rep W X h v d := by
  induction vs generalizing ds i with
  | nil => cases r; simp at hd
  | cons v vs ih =>
    cases r with
    | cons a r =>
      cases i with
      | zero => simp at hd; subst hd; exact ⟨v, rfl, a⟩
      | succ i => simpa using ih r (by simpa using hd)
theorem Reps.append {vs us : List Value} {ds es : List D} (r : Reps W X h vs ds) (q : Reps W X h us es) : Reps W X h (vs ++ us) (ds ++ es) := by
  induction vs generalizing ds with
  | nil => cases r; exact q
  | cons v vs ih => cases r with | cons a r => exact .cons a (ih r)
theorem Reps.snoc {vs : List Value} {ds : List D} {v : Value} {d : D} (r : Reps W X h vs ds) (q : Rep W X h v d) : Reps W X h (vs ++ [v]) (ds ++ [d]) := r.append (.cons q .nil)
theorem Reps.take {vs : List Value} {ds : List D} (r : Reps W X h vs ds) (n : Nat) : Reps W X h (vs.take n) (ds.take n) := by
  induction vs generalizing ds n with
  | nil => cases r; simp; exact .nil
  | cons v vs ih =>
    cases r with
    | cons a r =>
      cases n with
      | zero => simp; exact .nil
      | succ n => simpa using .cons a (ih r n)
end

/-- the value of a name -/
def At (env : Env) (h : Heap) (x : Str) (v : Value) : Prop :=
  (env.kindOf x = some .local ∧ ∃ m, h.Ns env.locals m ∧ m x = some v) ∨ ((env.kindOf x = some .cell ∨ env.kindOf x = some .free) ∧ ∃ c, env.cells.lookup x = some c ∧ h.IsCell c (some v))

theorem isCell_at {h h' : Heap} {a : Addr} {v : Option Value} (t : h.IsCell a v) (k : ∀ o, h.get? a = some o → h'.get? a = some o) : h'.IsCell a v := let ⟨o, e, r⟩ := t; ⟨o, k o e, r⟩

/-- a predicate on heaps that bears whatever turns at addresses in V -/
structure HP (V : Addr → Prop) where
  P : Heap → Prop
  turns : ∀ h h', (∀ b o, ¬ V b → h.get? b = some o → h'.get? b = some o) → P h → P h'
def HP.tt {V : Addr → Prop} : HP V := ⟨fun _ => True, fun _ _ _ _ => trivial⟩
theorem HP.st {V : Addr → Prop} (T : HP V) (h h' : Heap) (k : Keeps h h') : T.P h → T.P h' := T.turns h h' fun b o _ e => k b o e

abbrev Env1 := List (Str × D)

structure Look (W : Wd) {V : Addr → Prop} (env : Env) (X Z : Addr → Prop) (T : HP V) (ρ : Env1) (h : Heap) : Prop where
  base : Keeps W.base h
  vars : ∀ x d, ρ.lookup x = some d → ∃ v, At env h x v ∧ Rep W X h v d
  own : T.P h
  zx : ∀ a, Z a → X a
  xb : ∀ a, X a → W.base.get? a = none
  xt : ∀ a, X a → ∃ o, h.get? a = some o
  zl : ¬ Z env.locals
  zc : ∀ x c, env.cells.lookup x = some c → ¬ Z c
  kind : env.scope.kind = .function
  gl : env.globals = mainGlobals
  bl : env.builtins = builtinsNs

section
variable {W : Wd} {env : Env} {X Z : Addr → Prop} {V : Addr → Prop} {T T' : HP V} {ρ : Env1} {h h' : Heap}

theorem Look.glob (L : Look W env X Z T ρ h) : Glob W.N W.mg W.mb W.defs W.consts W.objs W.names h := W.glob.keeps L.base
theorem Aft.up (a : Aft Z h h') (zx : ∀ a, Z a → X a) : ∀ b o, ¬ X b → h.get? b = some o → h'.get? b = some o := fun b o n e => a.keep b o (fun z => n (zx b z)) e
theorem At.up {x : Str} {v : Value} (a : Aft Z h h') (zl : ¬ Z env.locals) (zc : ∀ x c, env.cells.lookup x = some c → ¬ Z c) (t : At env h x v) : At env h' x v := by
  rcases t with ⟨k, m, n, e⟩ | ⟨k, c, e, i⟩
  · exact .inl ⟨k, m, n.at' fun o e => a.keep _ o zl e, e⟩
  · exact .inr ⟨k, c, e, isCell_at i fun o e' => a.keep _ o (zc x c e) e'⟩
theorem Look.next (L : Look W env X Z T ρ h) (a : Aft Z h h') (t : T'.P h') : Look W env X Z T' ρ h' where
  base := fun b o e => a.keep b o (fun z => by have := L.xb b (L.zx b z); rw [this] at e; cases e) (L.base b o e)
  vars := fun x d e => let ⟨v, q, r⟩ := L.vars x d e; ⟨v, q.up a L.zl L.zc, r.up (a.up L.zx)⟩
  own := t
  zx := L.zx
  xb := L.xb
  xt := fun b x => a.there b (L.xt b x)
  zl := L.zl
  zc := L.zc
  kind := L.kind
  gl := L.gl
  bl := L.bl
theorem Look.grown (L : Look W env X Z T ρ h) (k : Keeps h h') : Look W env X Z T ρ h' := L.next (.of_keeps k) (T.st _ _ k L.own)
theorem Look.new (L : Look W env X Z T ρ h) : ¬ X h.objs.size := fun x => let ⟨_, e⟩ := L.xt _ x; Nat.lt_irrefl _ (Heap.lt_size e)
end

def Room (n : Nat) (A : Around) : Prop := A.handled = none ∧ A.depth + n < recursionLimit ∧ A.units + 12 * n + 60 < cLine
theorem Room.le {n m : Nat} {A : Around} (r : Room n A) (h : m ≤ n) : Room m A := ⟨r.1, by have := r.2.1; omega, by have := r.2.2; omega⟩
theorem Room.deeper {n : Nat} {A : Around} (env : Env) (r : Room (n + 1) A) : Room n (A.deeper env) := ⟨r.1, by have := r.2.1; show A.depth + 1 + n < _; omega, by have := r.2.2; show A.units + 3 + 12 * n + 60 < _; omega⟩

structure Ev (W : Wd) (n : Nat) {V : Addr → Prop} (env : Env) (X Z : Addr → Prop) (T : HP V) (ρ : Env1) (e : Expr) (d : D) (T' : HP V) : Prop where
  run : ∀ (A : Around) (s : Shared) (Q : Value → Shared → Prop) (E : Value → Shared → Prop), Room n A → Look W env X Z T ρ s.heap →
    (∀ v h tk, Aft Z s.heap h → T'.P h → Rep W X h v d → Q v { s with heap := h, toks := tk }) → wpAny W.M A (eval e env) Q E s

structure Evs (W : Wd) (n : Nat) {V : Addr → Prop} (env : Env) (X Z : Addr → Prop) (T : HP V) (ρ : Env1) (es : List Expr) (ds : List D) (T' : HP V) : Prop where
  run : ∀ (A : Around) (s : Shared) (pos : Pos) (Q : List Value → Shared → Prop) (E : Value → Shared → Prop), Room n A → Look W env X Z T ρ s.heap →
    (∀ vs h tk, Aft Z s.heap h → T'.P h → Reps W X h vs ds → Q vs { s with heap := h, toks := tk }) → wpAny W.M A (spliced (backTo pos (starEach es env))) Q E s

structure Tv (W : Wd) (n : Nat) {V : Addr → Prop} (env : Env) (X Z : Addr → Prop) (T : HP V) (ρ : Env1) (e : Expr) (b : Bool) (T' : HP V) : Prop where
  run : ∀ (A : Around) (s : Shared) (Q : Bool → Shared → Prop) (E : Value → Shared → Prop), Room n A → Look W env X Z T ρ s.heap →
    (∀ h tk, Aft Z s.heap h → T'.P h → Q b { s with heap := h, toks := tk }) → wpAny W.M A (isTrue e env (eval e env)) Q E s

section
variable {W : Wd} {n : Nat} {env : Env} {X Z : Addr → Prop} {V : Addr → Prop} {T T' T1 T2 : HP V} {ρ : Env1}

theorem ev_int {i : Int} {k : Nat} {pos : Pos} : Ev W n env X Z T ρ (.Constant (.int i) k pos) (.int i) T :=
  .mk fun _ _ _ _ _ L h => wpAny_Constant_int (h _ _ _ (.refl _) L.own (.int i _))
theorem ev_str {x : Str} {k : Nat} {pos : Pos} : Ev W n env X Z T ρ (.Constant (.str x) k pos) (.str x) T :=
  .mk fun _ _ _ _ _ L h => Constant_str (h _ _ _ (.refl _) L.own (.str x _))
theorem ev_none {k : Nat} {pos : Pos} : Ev W n env X Z T ρ (.Constant .none k pos) .none T :=
  .mk fun _ s _ _ _ L h => wpAny_Constant_none (h _ s.heap s.toks (.refl _) L.own .none)
theorem ev_bool {b : Bool} {k : Nat} {pos : Pos} : Ev W n env X Z T ρ (.Constant (.bool b) k pos) (.bool b) T :=
  .mk fun _ s _ _ _ L h => wpAny_Constant_bool (h _ s.heap s.toks (.refl _) L.own (.bool b))

theorem wp_name {x : Str} {pos : Pos} {v : Value} {A : Around} {s : Shared} {Q : Value → Shared → Prop} {E : Value → Shared → Prop} (hk : env.scope.kind = .function) (t : At env s.heap x v) (h : Q v s)
    (hd : (x == ("__debug__" : Str)) = false) (hc : (x == ("__classdict__" : Str)) = false) : wpAny W.M A (eval (.Name x pos) env) Q E s := by
  refine wpAny_Name ?_ hd
  rcases t with ⟨k, m, n, e⟩ | ⟨k | k, c, e, i⟩
  · exact wpAny_loadName_local hk k n e h
  · exact wpAny_loadName_cell hk k e i h
  · exact wpAny_loadName_free hk k e i h hc
theorem ev_name {x : Str} {pos : Pos} {d : D} (e : ρ.lookup x = some d := by rfl) (hd : (x == ("__debug__" : Str)) = false := by decide) (hc : (x == ("__classdict__" : Str)) = false := by decide) : Ev W n env X Z T ρ (.Name x pos) d T :=
  .mk fun _ s _ _ _ L h => let ⟨_, t, r⟩ := L.vars x d e; wp_name L.kind t (h _ s.heap s.toks (.refl _) L.own r) hd hc
theorem ev_const {x : Str} {pos : Pos} {i : Int} (hx : env.kindOf x = some .globalImplicit := by rfl) (e : W.consts.lookup x = some (.int i) := by rfl) (hd : (x == ("__debug__" : Str)) = false := by decide) :
    Ev W n env X Z T ρ (.Name x pos) (.int i) T := .mk fun _ s _ _ _ L h => by
  obtain ⟨v, hv, hdat⟩ := L.glob.bound _ (PyProof.Rows.mem_of_lookup e)
  obtain ⟨t, rfl⟩ := hdat.int
  exact Name_function_global L.kind hx (loadGlobal_global (by rw [L.gl]; exact L.glob.g) hv (h _ s.heap s.toks (.refl _) L.own (.int i t))) hd

theorem evs_nil : Evs W n env X Z T ρ [] [] T := .mk fun _ s _ _ _ _ L h => args_nil (h [] s.heap s.toks (.refl _) L.own .nil)
theorem evs_cons {e : Expr} {es : List Expr} {d : D} {ds : List D} (x : Ev W n env X Z T ρ e d T1) (y : Evs W n env X Z T1 ρ es ds T2)
    (he : starEach (e :: es) env = (false, eval e env) :: starEach es env := by rfl) : Evs W n env X Z T ρ (e :: es) (d :: ds) T2 := .mk fun A s pos Q E r L h =>
  args_cons (x.run A s _ E r L fun v h1 tk a t q => y.run A _ pos _ E r (L.next a t) fun vs h2 tk2 a2 t2 q2 => h _ _ _ (a.trans a2) t2 (.cons (q.up (a2.up L.zx)) q2)) he

theorem ev_tup {es : List Expr} {ds : List D} {k : Nat} {pos : Pos} (y : Evs W n env X Z T ρ es ds T') (hl : ds.length ≤ 1000 := by first | decide | simp) : Ev W n env X Z T ρ (.Tuple es k pos) (.tup ds) T' := .mk fun A s Q E r L h =>
  Tuple_ (y.run A s pos _ E r L fun vs h1 tk a t q => wpAny_newObj_type (h _ _ _ (a.trans (.of_keeps (keeps_push _ _))) (T'.st _ _ (keeps_push _ _) t)
    (.tup (Look.new (L.next a t)) (IsTup.new _ _) (q.up fun b o _ e => Heap.get?_push_of_some _ e))) (by show vs.toArray.size ≤ sizeLine; rw [List.size_toArray, q.length, sizeLine_eq]; omega))
theorem isList_new (h : Heap) (items : Array Value) : (h.push { cls := .type "list", data := .seq items }).PlainList h.objs.size items := ⟨_, Heap.get?_push_size _ rfl⟩
theorem ev_lst {es : List Expr} {ds : List D} {pos : Pos} (y : Evs W n env X Z T ρ es ds T') (hl : ds.length ≤ 1000 := by first | decide | simp) : Ev W n env X Z T ρ (.List es pos) (.lst ds) T' := .mk fun A s Q E r L h =>
  List_ (y.run A s pos _ E r L fun vs h1 tk a t q => wpAny_newObj_type (h _ _ _ (a.trans (.of_keeps (keeps_push _ _))) (T'.st _ _ (keeps_push _ _) t)
    (.lst (Look.new (L.next a t)) (isList_new _ _) (q.up fun b o _ e => Heap.get?_push_of_some _ e))) (by show vs.toArray.size ≤ sizeLine; rw [List.size_toArray, q.length, sizeLine_eq]; omega))
end
end Mine

end
-- part FW2
section
open PySem PySem.W PyProof.Rows PySem.Calls PySem.Spec
set_option maxRecDepth 20000
set_option linter.unusedVariables false
namespace Mine

section
variable {W : Wd} {n : Nat} {env : Env} {X Z : Addr → Prop} {V : Addr → Prop} {T T' T1 T2 T3 : HP V} {ρ : Env1}

/-- a step on two data: op v1 v2 gives d, growing the heap at most -/
def Op2 (W : Wd) (n : Nat) {V : Addr → Prop} (X : Addr → Prop) (T : HP V) (t : Value → Value → Sem Value) (d1 d2 d : D) : Prop :=
  ∀ (A : Around) (s : Shared) (v1 v2 : Value) (Q : Value → Shared → Prop) (E : Value → Shared → Prop), Room n A → Keeps W.base s.heap → (∀ a, X a → ∃ o, s.heap.get? a = some o) → T.P s.heap →
    Rep W X s.heap v1 d1 → Rep W X s.heap v2 d2 → (∀ v h tk, Keeps s.heap h → Rep W X h v d → Q v { s with heap := h, toks := tk }) → wpAny W.M A (t v1 v2) Q E s

theorem ev_bin {op : Operator} {e1 e2 : Expr} {pos : Pos} {d1 d2 d : D} (x : Ev W n env X Z T ρ e1 d1 T1) (y : Ev W n env X Z T1 ρ e2 d2 T2) (o : Op2 W n X T2 (binaryOp op) d1 d2 d) :
    Ev W n env X Z T ρ (.BinOp e1 op e2 pos) d T2 := .mk fun A s Q E r L h =>
  wpAny_BinOp (x.run A s _ E r L fun v1 h1 tk1 a1 t1 q1 => y.run A _ _ E r (L.next a1 t1) fun v2 h2 tk2 a2 t2 q2 =>
    o A _ v1 v2 Q E r ((L.next a1 t1).next a2 t2).base ((L.next a1 t1).next a2 t2).xt t2 (q1.up (a2.up L.zx)) q2 fun v h3 tk3 k q => h v h3 tk3 (a1.trans (a2.trans (.of_keeps k))) (T2.st _ _ k t2) q)

theorem op_add {a b : Int} : Op2 W n X T (binaryOp .Add) (.int a) (.int b) (.int (a + b)) := fun A s v1 v2 Q E r _ _ _ q1 q2 h => by
  cases q1 using Rep.intC; cases q2 using Rep.intC; exact wpAny_add_int (h _ _ _ (keeps_refl _) (.int _ _))
theorem op_sub {a b : Int} : Op2 W n X T (binaryOp .Sub) (.int a) (.int b) (.int (a - b)) := fun A s v1 v2 Q E r _ _ _ q1 q2 h => by
  cases q1 using Rep.intC; cases q2 using Rep.intC; exact sub_int' (h _ _ _ (keeps_refl _) (.int _ _))
theorem op_mul {a b : Int} (hm : IntMulOk a b) : Op2 W n X T (binaryOp .Mult) (.int a) (.int b) (.int (a * b)) := fun A s v1 v2 Q E r _ _ _ q1 q2 h => by
  cases q1 using Rep.intC; cases q2 using Rep.intC; exact PyProof.Rows.mul_int (h _ _ _ (keeps_refl _) (.int _ _)) hm
theorem op_and {a b : Int} : Op2 W n X T (binaryOp .BitAnd) (.int a) (.int b) (.int (Builtin.bitAnd a b)) := fun A s v1 v2 Q E r _ _ _ q1 q2 h => by
  cases q1 using Rep.intC; cases q2 using Rep.intC; exact and_int (h _ _ _ (keeps_refl _) (.int _ _))
theorem op_shl {a b : Int} (h0 : 0 ≤ b) (h1 : b ≤ 1000000) (h2 : a.natAbs < 2 ^ 64) : Op2 W n X T (binaryOp .LShift) (.int a) (.int b) (.int (a * 2 ^ b.toNat)) := fun A s v1 v2 Q E r _ _ _ q1 q2 h => by
  cases q1 using Rep.intC; cases q2 using Rep.intC; exact lshift_int_small h0 h1 h2 (h _ _ _ (keeps_refl _) (.int _ _))
theorem op_mod {a b : Int} (hb : b ≠ 0) : Op2 W n X T (binaryOp .Mod) (.int a) (.int b) (.int (a.fmod b)) := fun A s v1 v2 Q E r _ _ _ q1 q2 h => by
  cases q1 using Rep.intC; cases q2 using Rep.intC; exact PyProof.Rows.mod_int hb (h _ _ _ (keeps_refl _) (.int _ _))
theorem op_div {a b : Int} (hb : b ≠ 0) (hp : Builtin.divisionGoesByPylong a b = false) : Op2 W n X T (binaryOp .FloorDiv) (.int a) (.int b) (.int (a.fdiv b)) := fun A s v1 v2 Q E r _ _ _ q1 q2 h => by
  cases q1 using Rep.intC; cases q2 using Rep.intC; exact PyProof.Rows.floordiv_int hb (h _ _ _ (keeps_refl _) (.int _ _)) (.inl hp)

theorem ev_neg {e : Expr} {pos : Pos} {a : Int} (x : Ev W n env X Z T ρ e (.int a) T1) : Ev W n env X Z T ρ (.UnaryOp .USub e pos) (.int (-a)) T1 := .mk fun A s Q E r L h =>
  UnaryOp_ (x.run A s _ E r L fun v h1 tk a t q => by cases q using Rep.intC; exact PyProof.Rows.neg_int (h _ _ _ a t (.int _ _)))

-- comparisons
theorem ev_cmp {op : CmpOp} {e1 e2 : Expr} {pos : Pos} {d1 d2 d : D} (x : Ev W n env X Z T ρ e1 d1 T1) (y : Ev W n env X Z T1 ρ e2 d2 T2) (o : Op2 W n X T2 (compareOp op) d1 d2 d)
    (hm : behindInMarks op e2 = false := by with_unfolding_all rfl) : Ev W n env X Z T ρ (.Compare e1 [op] [e2] pos) d T2 := .mk fun A s Q E r L h =>
  wpAny_Compare1 (x.run A s _ E r L fun v1 h1 tk1 a1 t1 q1 => y.run A _ _ E r (L.next a1 t1) fun v2 h2 tk2 a2 t2 q2 =>
    o A _ v1 v2 Q E r ((L.next a1 t1).next a2 t2).base ((L.next a1 t1).next a2 t2).xt t2 (q1.up (a2.up L.zx)) q2 fun v h3 tk3 k q => h v h3 tk3 (a1.trans (a2.trans (.of_keeps k))) (T2.st _ _ k t2) q) hm
theorem tv_cmp {op : CmpOp} {e1 e2 : Expr} {pos : Pos} {d1 d2 : D} {b : Bool} (x : Ev W n env X Z T ρ e1 d1 T1) (y : Ev W n env X Z T1 ρ e2 d2 T2) (o : Op2 W n X T2 (compareOp op) d1 d2 (.bool b))
    (hm : behindInMarks op e2 = false := by with_unfolding_all rfl) : Tv W n env X Z T ρ (.Compare e1 [op] [e2] pos) b T2 := .mk fun A s Q E r L h =>
  wpAny_isTrue_Compare1 (x.run A s _ E r L fun v1 h1 tk1 a1 t1 q1 => y.run A _ _ E r (L.next a1 t1) fun v2 h2 tk2 a2 t2 q2 =>
    o A _ v1 v2 _ E r ((L.next a1 t1).next a2 t2).base ((L.next a1 t1).next a2 t2).xt t2 (q1.up (a2.up L.zx)) q2 fun v h3 tk3 k q => by
      cases q using Rep.boolC; exact wpAny_truthy_bool (h h3 tk3 (a1.trans (a2.trans (.of_keeps k))) (T2.st _ _ k t2))) hm
theorem op_eq {a b : Int} : Op2 W n X T (compareOp .Eq) (.int a) (.int b) (.bool (a == b)) := fun A s v1 v2 Q E r _ _ _ q1 q2 h => by
  cases q1 using Rep.intC; cases q2 using Rep.intC; exact PyProof.Rows.eq_int (h _ s.heap s.toks (keeps_refl _) (.bool _))
theorem op_ne {a b : Int} : Op2 W n X T (compareOp .NotEq) (.int a) (.int b) (.bool (a != b)) := fun A s v1 v2 Q E r _ _ _ q1 q2 h => by
  cases q1 using Rep.intC; cases q2 using Rep.intC; exact PyProof.Rows.ne_int (h _ s.heap s.toks (keeps_refl _) (.bool _))
theorem op_lt {a b : Int} : Op2 W n X T (compareOp .Lt) (.int a) (.int b) (.bool (decide (a < b))) := fun A s v1 v2 Q E r _ _ _ q1 q2 h => by
  cases q1 using Rep.intC; cases q2 using Rep.intC; exact PyProof.Rows.lt_int (h _ s.heap s.toks (keeps_refl _) (.bool _))
theorem op_le {a b : Int} : Op2 W n X T (compareOp .LtE) (.int a) (.int b) (.bool (decide (a ≤ b))) := fun A s v1 v2 Q E r _ _ _ q1 q2 h => by
  cases q1 using Rep.intC; cases q2 using Rep.intC; exact PyProof.Rows.le_int (h _ s.heap s.toks (keeps_refl _) (.bool _))
theorem op_gt {a b : Int} : Op2 W n X T (compareOp .Gt) (.int a) (.int b) (.bool (decide (b < a))) := fun A s v1 v2 Q E r _ _ _ q1 q2 h => by
  cases q1 using Rep.intC; cases q2 using Rep.intC; exact PyProof.Rows.gt_int (h _ s.heap s.toks (keeps_refl _) (.bool _))
theorem op_ge {a b : Int} : Op2 W n X T (compareOp .GtE) (.int a) (.int b) (.bool (decide (b ≤ a))) := fun A s v1 v2 Q E r _ _ _ q1 q2 h => by
  cases q1 using Rep.intC; cases q2 using Rep.intC; exact PyProof.Rows.ge_int (h _ s.heap s.toks (keeps_refl _) (.bool _))
theorem op_eqs {a b : Str} : Op2 W n X T (compareOp .Eq) (.str a) (.str b) (.bool (a == b)) := fun A s v1 v2 Q E r _ _ _ q1 q2 h => by
  cases q1 using Rep.strC; cases q2 using Rep.strC; exact PyProof.Rows.eq_str (h _ s.heap s.toks (keeps_refl _) (.bool _))
/-- a datum that is not None -/
def D.some : D → Bool
  | .none => false
  | _ => true
theorem op_isNone {d : D} : Op2 W n X T (compareOp .Is) d .none (.bool (!d.some)) := fun A s v1 v2 Q E r _ _ _ q1 q2 h => by
  cases q2 using Rep.noneC
  refine is_none ?_
  have e : (v1 == Value.none) = !d.some := by cases q1 <;> rfl
  rw [e]; exact h _ s.heap s.toks (keeps_refl _) (.bool _)
theorem op_isNotNone {d : D} : Op2 W n X T (compareOp .IsNot) d .none (.bool d.some) := fun A s v1 v2 Q E r _ _ _ q1 q2 h => by
  cases q2 using Rep.noneC
  refine isNot_none ?_
  have e : (!(v1 == Value.none)) = d.some := by cases q1 <;> rfl
  rw [e]; exact h _ s.heap s.toks (keeps_refl _) (.bool _)

-- truth
theorem tv_bool {e : Expr} {b : Bool} (x : Ev W n env X Z T ρ e (.bool b) T1) (he : ∀ whole, isTrue e env whole = (do let v ← whole; standAt e.pos; holding [v] (truthy v)) := by intro _; rfl) : Tv W n env X Z T ρ e b T1 := .mk fun A s Q E r L h =>
  isTrue_plain (x.run A s _ E r L fun v h1 tk a t q => by cases q using Rep.boolC; exact wpAny_truthy_bool (h _ _ a t)) (he _)
theorem tv_and_nil {pos : Pos} : Tv W n env X Z T ρ (.BoolOp .And [] pos) true T := .mk fun A s Q E r L h => isTrue_and_nil (h s.heap s.toks (.refl _) L.own)
theorem tv_or_nil {pos : Pos} : Tv W n env X Z T ρ (.BoolOp .Or [] pos) false T := .mk fun A s Q E r L h => isTrue_or_nil (h s.heap s.toks (.refl _) L.own)
theorem isTrue_whole_and {es : List Expr} {pos : Pos} {w w' : Sem Value} : isTrue (.BoolOp .And es pos) env w = isTrue (.BoolOp .And es pos) env w' := rfl
theorem isTrue_whole_or {es : List Expr} {pos : Pos} {w w' : Sem Value} : isTrue (.BoolOp .Or es pos) env w = isTrue (.BoolOp .Or es pos) env w' := rfl
theorem tv_and_t {e : Expr} {es : List Expr} {pos : Pos} {b : Bool} (x : Tv W n env X Z T ρ e true T1) (y : Tv W n env X Z T1 ρ (.BoolOp .And es pos) b T2) : Tv W n env X Z T ρ (.BoolOp .And (e :: es) pos) b T2 := .mk fun A s Q E r L h =>
  isTrue_and (x.run A s _ E r L fun h1 tk a t => by
    simp only [if_true]; rw [isTrue_whole_and (w' := eval (.BoolOp .And es pos) env)]
    exact y.run A _ Q E r (L.next a t) fun h2 tk2 a2 t2 => h h2 tk2 (a.trans a2) t2)
theorem tv_and_f {e : Expr} {es : List Expr} {pos : Pos} (x : Tv W n env X Z T ρ e false T1) : Tv W n env X Z T ρ (.BoolOp .And (e :: es) pos) false T1 := .mk fun A s Q E r L h =>
  isTrue_and (x.run A s _ E r L fun h1 tk a t => by simpa using h h1 tk a t)
theorem tv_or_f {e : Expr} {es : List Expr} {pos : Pos} {b : Bool} (x : Tv W n env X Z T ρ e false T1) (y : Tv W n env X Z T1 ρ (.BoolOp .Or es pos) b T2) : Tv W n env X Z T ρ (.BoolOp .Or (e :: es) pos) b T2 := .mk fun A s Q E r L h =>
  isTrue_or (x.run A s _ E r L fun h1 tk a t => by
    simp only [Bool.false_eq_true, if_false]; rw [isTrue_whole_or (w' := eval (.BoolOp .Or es pos) env)]
    exact y.run A _ Q E r (L.next a t) fun h2 tk2 a2 t2 => h h2 tk2 (a.trans a2) t2)
theorem tv_or_t {e : Expr} {es : List Expr} {pos : Pos} (x : Tv W n env X Z T ρ e true T1) : Tv W n env X Z T ρ (.BoolOp .Or (e :: es) pos) true T1 := .mk fun A s Q E r L h =>
  isTrue_or (x.run A s _ E r L fun h1 tk a t => by simpa using h h1 tk a t)

theorem ev_if_t {e c f : Expr} {pos : Pos} {d : D} (x : Tv W n env X Z T ρ c true T1) (y : Ev W n env X Z T1 ρ e d T2) : Ev W n env X Z T ρ (.IfExp c e f pos) d T2 := .mk fun A s Q E r L h =>
  IfExp_ (x.run A s _ E r L fun h1 tk a t => y.run A _ Q E r (L.next a t) fun v h2 tk2 a2 t2 q => h v h2 tk2 (a.trans a2) t2 q)
theorem ev_if_f {e c f : Expr} {pos : Pos} {d : D} (x : Tv W n env X Z T ρ c false T1) (y : Ev W n env X Z T1 ρ f d T2) : Ev W n env X Z T ρ (.IfExp c e f pos) d T2 := .mk fun A s Q E r L h =>
  IfExp_ (x.run A s _ E r L fun h1 tk a t => y.run A _ Q E r (L.next a t) fun v h2 tk2 a2 t2 q => h v h2 tk2 (a.trans a2) t2 q)
theorem ev_if {e c f : Expr} {pos : Pos} {d d' : D} {b : Bool} (x : Tv W n env X Z T ρ c b T1) (y : b = true → Ev W n env X Z T1 ρ e d T2) (z : b = false → Ev W n env X Z T1 ρ f d' T2) :
    Ev W n env X Z T ρ (.IfExp c e f pos) (if b then d else d') T2 := by
  cases b with
  | true => exact ev_if_t x (y rfl)
  | false => exact ev_if_f x (z rfl)
-- `a and b` as a value of two bools
theorem ev_andb {e1 e2 : Expr} {pos : Pos} {b1 b2 : Bool} (x : Ev W n env X Z T ρ e1 (.bool b1) T) (y : Ev W n env X Z T ρ e2 (.bool b2) T) : Ev W n env X Z T ρ (.BoolOp .And [e1, e2] pos) (.bool (b1 && b2)) T := .mk fun A s Q E r L h =>
  BoolOp_and (x.run A s _ E r L fun v h1 tk a t q => by
    cases q using Rep.boolC
    refine wpAny_truthy_bool ?_
    cases b1 with
    | true => simp only [if_true]; exact BoolOp_one (y.run A _ Q E r (L.next a t) fun v h2 tk2 a2 t2 q => h v h2 tk2 (a.trans a2) t2 (by simpa using q))
    | false => simp only [Bool.false_eq_true, if_false]; exact h _ h1 tk a t (.bool _))

-- subscripts: the tail behind object and index
def Sub2 (W : Wd) (n : Nat) {V : Addr → Prop} (X : Addr → Prop) (T : HP V) (t : Value → Value → Sem Value) (d1 d2 d : D) : Prop := Op2 W n X T t d1 d2 d
theorem ev_sub {value slice : Expr} {pos : Pos} {d1 d2 d : D} (x : Ev W n env X Z T ρ value d1 T1) (y : Ev W n env X Z T1 ρ slice d2 T2) (o : Op2 W n X T2 (subscriptTail value slice) d1 d2 d) :
    Ev W n env X Z T ρ (.Subscript value slice pos) d T2 := .mk fun A s Q E r L h =>
  Subscript_ (x.run A s _ E r L fun v1 h1 tk1 a1 t1 q1 => y.run A _ _ E r (L.next a1 t1) fun v2 h2 tk2 a2 t2 q2 =>
    o A _ v1 v2 Q E r ((L.next a1 t1).next a2 t2).base ((L.next a1 t1).next a2 t2).xt t2 (q1.up (a2.up L.zx)) q2 fun v h3 tk3 k q => h v h3 tk3 (a1.trans (a2.trans (.of_keeps k))) (T2.st _ _ k t2) q)
theorem seqIndex_nat (i n : Nat) (h : i < n) : seqIndex? (i : Int) n = some i := by rw [seqIndex_of (by omega) (by omega)]; simp
theorem sb_tup {value slice : Expr} {ds : List D} {i : Nat} {d : D} (hd : ds[i]? = some d := by rfl) (hi : i < 1000 := by decide)
    (hs : ∀ a u, subscripted slice false (.ref a) (.int i u) = operate [.ref a, .int i u] (getItem (.ref a) (.int i u)) := by intro _ _; with_unfolding_all rfl) :
    Op2 W n X T (subscriptTail value slice) (.tup ds) (.int i) d := fun A s v1 v2 Q E r _ _ _ q1 q2 h => by
  cases q2 using Rep.intC
  cases q1 using Rep.tupC with
  | tup na ht rs =>
    obtain ⟨v, hv, q⟩ := rs.get hd
    have hlt := (List.getElem?_eq_some_iff.mp hv).1
    exact item_tupleT ht (by omega) (by omega) (seqIndex_nat i _ hlt) hv (h v s.heap s.toks (keeps_refl _) q) (hs _ _)
theorem sb_lst {value slice : Expr} {ds : List D} {i : Int} {d : D} (h0 : 0 ≤ i) (hi : i < 1000) (hd : ds[i.toNat]? = some d)
    (hs : ∀ a u, subscripted slice false (.ref a) (.int i u) = operate [.ref a, .int i u] (getItem (.ref a) (.int i u)) := by intro _ _; with_unfolding_all rfl) :
    Op2 W n X T (subscriptTail value slice) (.lst ds) (.int i) d := fun A s v1 v2 Q E r _ _ _ q1 q2 h => by
  cases q2 using Rep.intC
  cases q1 using Rep.lstC with
  | lst na hl rs =>
    have hl := hl.isList
    obtain ⟨v, hv, q⟩ := rs.get hd
    exact tail_any hl.typeIs slot_list_getitem.lookup (wpAny_getItem_list hl h0 (by omega) (by simpa using hv) (h v s.heap s.toks (keeps_refl _) q)) (hs _ _)
end
end Mine

end
-- part FW3
section
open PySem PySem.W PyProof.Rows PySem.Calls PySem.Spec
set_option maxRecDepth 20000
set_option linter.unusedVariables false
namespace Mine

def lexLt : List Int → List Int → Bool
  | [], [] => false
  | [], _ :: _ => true
  | _ :: _, [] => false
  | x :: xs, y :: ys => if x = y then lexLt xs ys else decide (x < y)

theorem reps_ints {W : Wd} {X : Addr → Prop} {h : Heap} : ∀ {vs : List Value} {ns : List Int}, Reps W X h vs (ns.map .int) → IntsAre vs ns
  | _, [], r => by cases r; exact .nil
  | _, n :: ns, r => by
    cases r with
    | cons a r => cases a using Rep.intC; exact .cons _ _ (reps_ints r)
theorem items_ints {prog : Program} {w : World} : ∀ {vs : List Value} {ns : List Int}, IntsAre vs ns → ItemsAre (PySem.intKind prog w) ns vs
  | _, _, .nil => .nil
  | _, _, .cons n t r => .cons (by simp [PySem.intKind, Value.isInt]) (items_ints r)
theorem key_of {W : Wd} {X : Addr → Prop} {h : Heap} {a : Addr} {vs : List Value} {ns : List Int} (t : IsTup h a vs.toArray) (r : Reps W X h vs (ns.map .int)) : IsTupleKey W.ik h ns a := by
  obtain ⟨o, ho, hc, n, hd⟩ := t
  exact ⟨o, vs.toArray, n, ho, hc, hd, by simpa using items_ints (reps_ints r)⟩

section
variable {prog : Program} {w : World} {A : Around} {E : Value → Shared → Prop} {s : Shared}
theorem tlt_tree {a b : Addr} {vx vy : List Value} {xs ys : List Int} {P : PySem.Fin → Shared → Prop} (ha : IsTup s.heap a vx.toArray) (hb : IsTup s.heap b vy.toArray) (ix : IntsAre vx xs) (iy : IntsAre vy ys)
    (h : P (.done (.ret (.bool (lexLt xs ys)))) s) : wpAny (model prog w) A (Builtin.«tuple.__lt__» ⟨[.ref a, .ref b], []⟩) P E s := by
  have hTb := hb.typeIs
  show wpAny _ _ (isInstance (.ref b) (.type "tuple") >>= _) _ _ s
  refine wpAny_bind (wpAny_isInstance hTb isSubtype_tuple_tuple ?_)
  simp only [Bool.not_true, Bool.false_eq_true, if_false]
  refine wpAny_bind (tupleItemsOf_ ha ?_)
  refine wpAny_bind (tupleItemsOf_ hb ?_)
  refine wpAny_bind ?_
  refine wpAny_forIn_list _
    (fun rest r s' => r.1 = none ∧ s' = s ∧ ∃ x' y' xs' ys', rest = List.zip xs' ys' ∧ IntsAre xs' x' ∧ IntsAre ys' y' ∧ lexLt x' y' = lexLt xs ys ∧ (decide (xs'.length < ys'.length)) = decide (vx.length < vy.length))
    _ ?_ ?_ _ _ ⟨rfl, rfl, xs, ys, vx, vy, by simp, ix, iy, rfl, rfl⟩
  · rintro ⟨u, v⟩ rest r s' ⟨hr, rfl, x', y', xs', ys', hz, hx', hy', hdec, hlen⟩
    cases hx' with
    | nil => simp at hz
    | @cons k1 t1 vs1 ns1 hx'' =>
      cases hy' with
      | nil => simp at hz
      | @cons k2 t2 vs2 ns2 hy'' =>
        simp only [List.zip_cons_cons, List.cons.injEq, Prod.mk.injEq] at hz
        obtain ⟨⟨rfl, rfl⟩, rfl⟩ := hz
        refine wpAny_bind (wpAny_eqBool_int ?_)
        by_cases hk : k1 = k2
        · subst hk
          rw [beq_self_eq_true]
          simp only [Bool.not_true, Bool.false_eq_true, if_false]
          exact wpAny_pure ⟨rfl, rfl, ns1, ns2, vs1, vs2, rfl, hx'', hy'', by rw [← hdec]; simp [lexLt], by rw [← hlen]; simp⟩
        · rw [beq_eq_false_iff_ne.mpr hk]
          simp only [Bool.not_false, if_true]
          have hf : decide (k1 < k2) = lexLt xs ys := by rw [← hdec]; simp [lexLt, hk]
          rw [← hf] at h
          refine wpAny_bind (wpAny_rule (wpAny_bind ?_))
          exact wpAny_lt_int (wpAny_pure (wpAny_pure h))
  · rintro ⟨r1, r2⟩ s' ⟨hr, rfl, x', y', xs', ys', hz, hx', hy', hdec, hlen⟩
    simp only at hr
    subst hr
    refine wpAny_pure ?_
    have hfin : decide (vx.length < vy.length) = lexLt xs ys := by
      rw [← hdec, ← hlen]
      cases hx' with
      | nil =>
        cases hy' with
        | nil => simp [lexLt]
        | cons _ _ _ => simp [lexLt]
      | cons _ _ _ =>
        cases hy' with
        | nil => simp [lexLt]
        | cons _ _ _ => simp at hz
    show P (.done (.ret (.bool (decide (vx.toArray.size < vy.toArray.size))))) s'
    rw [List.size_toArray, List.size_toArray, hfin]; exact h
end

section
variable {W : Wd} {n : Nat} {env : Env} {X Z : Addr → Prop} {V : Addr → Prop} {T T' T1 T2 T3 : HP V} {ρ : Env1}

theorem op_tlt {xs ys : List Int} : Op2 W n X T (compareOp .Lt) (.tup (xs.map .int)) (.tup (ys.map .int)) (.bool (lexLt xs ys)) := fun A s v1 v2 Q E r _ _ _ q1 q2 h => by
  cases q1 using Rep.tupC with
  | tup na ha ra =>
    cases q2 using Rep.tupC with
    | tup nb hb rb =>
      refine wpAny_richCompare_same_room (op := .Lt) ha.typeIs hb.typeIs F.slot_tuple_lt (wpAny_call_entry F.slot_tuple_lt ha.typeIs F.entry_tuple_lt (tlt_tree ha hb (reps_ints ra) (reps_ints rb) ⟨_, rfl, (fun e => nomatch e), ?_⟩) (F.args_tuple_lt_2 _ _)) (by have := r.2.2; omega)
      exact h _ s.heap s.toks (keeps_refl _) (.bool _)
theorem op_teq {xs ys : List Int} : Op2 W n X T (compareOp .Eq) (.tup (xs.map .int)) (.tup (ys.map .int)) (.bool (decide (xs = ys))) := fun A s v1 v2 Q E r _ _ _ q1 q2 h => by
  cases q1 using Rep.tupC with
  | tup na ha ra =>
    cases q2 using Rep.tupC with
    | tup nb hb rb =>
      refine wpAny_richCompare_same_room (op := .Eq) ha.typeIs hb.typeIs F.slot_tuple_eq (wpAny_call_entry F.slot_tuple_eq ha.typeIs F.entry_tuple_eq (tuple_eq_tree (key_of ha ra) (key_of hb rb) ⟨_, rfl, (fun e => nomatch e), ?_⟩) (F.args_tuple_eq_2 _ _)) (by have := r.2.2; omega)
      exact h _ s.heap s.toks (keeps_refl _) (.bool _)


theorem key_at {prog : Program} {w : World} {h : Heap} {a : Addr} {vs : List Value} {ns : List Int} (t : IsTup h a vs.toArray) (r : IntsAre vs ns) : IsTupleKey (PySem.intKind prog w) h ns a := by
  obtain ⟨o, ho, hc, n, hd⟩ := t
  exact ⟨o, vs.toArray, n, ho, hc, hd, by simpa using items_ints r⟩
theorem ints_inj {vs : List Value} : ∀ {a b : List Int}, IntsAre vs a → IntsAre vs b → a = b := by
  induction vs with
  | nil => intro a b x y; cases x; cases y; rfl
  | cons v vs ih => intro a b x y; cases x with | cons n t x => cases y with | cons _ _ y => rw [ih x y]
theorem tup_inj {h : Heap} {a : Addr} {us vs : Array Value} (x : IsTup h a us) (y : IsTup h a vs) : us = vs := by
  obtain ⟨o, ho, _, n, hd⟩ := x
  obtain ⟨o', ho', _, n', hd'⟩ := y
  rw [ho] at ho'; cases ho'; rw [hd] at hd'; cases hd'; rfl
theorem rep_ints_inj {h : Heap} {v : Value} {xs ys : List Int} (a : Rep W X h v (.tup (xs.map .int))) (b : Rep W X h v (.tup (ys.map .int))) : xs = ys := by
  cases a using Rep.tupC with
  | tup na ha ra =>
    cases b using Rep.tupC with
    | tup nb hb rb =>
      have := tup_inj ha hb
      have e : _ = _ := congrArg Array.toList this
      simp at e
      subst e
      exact ints_inj (reps_ints ra) (reps_ints rb)

open PySem.SeqAt in
/-- == of two tuples of ints -/
theorem eqAt_ints {A : Around} {s : Shared} {a b : Value} {xs ys : List Int} (hu : A.units < cLine) (ra : Rep W X s.heap a (.tup (xs.map .int))) (rb : Rep W X s.heap b (.tup (ys.map .int))) : EqAt A s a b (decide (xs = ys)) := fun prog w E Q q => by
  cases ra using Rep.tupC with
  | tup na ha ra =>
    cases rb using Rep.tupC with
    | tup nb hb rb => exact wpAny_eqBool_tuple (knd := PySem.intKind prog w) hu (key_at ha (reps_ints ra)) (key_at hb (reps_ints rb)) q

/-- a list of tuples of ints -/
abbrev tups (xss : List (List Int)) : List D := xss.map fun xs => .tup (xs.map .int)
theorem reps_mem {h : Heap} : ∀ {vs : List Value} {xss : List (List Int)}, Reps W X h vs (tups xss) → (∀ v ∈ vs, ∃ xs ∈ xss, Rep W X h v (.tup (xs.map .int))) ∧ ∀ xs ∈ xss, ∃ v ∈ vs, Rep W X h v (.tup (xs.map .int))
  | _, [], r => by cases r; simp
  | _, x :: xss, r => by
    cases r with
    | @cons v vs _ _ a r =>
      obtain ⟨p, q⟩ := reps_mem r
      refine ⟨fun u hu => ?_, fun y hy => ?_⟩
      · rcases List.mem_cons.mp hu with rfl | hu
        · exact ⟨x, List.mem_cons_self, a⟩
        · obtain ⟨z, hz, rz⟩ := p u hu; exact ⟨z, List.mem_cons_of_mem _ hz, rz⟩
      · rcases List.mem_cons.mp hy with rfl | hy
        · exact ⟨v, List.mem_cons_self, a⟩
        · obtain ⟨z, hz, rz⟩ := q y hy; exact ⟨z, List.mem_cons_of_mem _ hz, rz⟩
open Classical in
theorem op_notInT {t : List Int} {xss : List (List Int)} : Op2 W n X T (compareOp .NotIn) (.tup (t.map .int)) (.lst (tups xss)) (.bool (!decide (t ∈ xss))) := fun A s v1 v2 Q E r _ _ _ q1 q2 h => by
  cases q2 using Rep.lstC with
  | @lst a vs na hl rs =>
    have hl := hl.isList
    obtain ⟨p, q⟩ := reps_mem rs
    refine PySem.SeqAt.notIn_listAt (fun y => decide (Rep W X s.heap y (.tup (t.map .int)))) hl (fun y hy => ?_) ?_
    · obtain ⟨ys, hys, ry⟩ := p y (by simpa using hy)
      have e := eqAt_ints (W := W) (X := X) (A := A.in1) (s := s) (by show A.units + 1 < cLine; have := r.2.2; omega) ry q1
      by_cases he : ys = t
      · subst he; rw [decide_eq_true ry]; simpa using e
      · rw [decide_eq_false (fun r' => he (rep_ints_inj ry r'))]; simpa [he] using e
    · have e : (vs.toArray.any fun y => decide (Rep W X s.heap y (.tup (t.map .int)))) = decide (t ∈ xss) := by
        rw [List.any_toArray]
        by_cases ht : t ∈ xss
        · rw [decide_eq_true ht, List.any_eq_true]
          obtain ⟨v, hv, rv⟩ := q t ht
          exact ⟨v, hv, decide_eq_true rv⟩
        · rw [decide_eq_false ht, List.any_eq_false]
          intro v hv hd
          obtain ⟨ys, hys, ry⟩ := p v hv
          exact ht (rep_ints_inj (of_decide_eq_true hd) ry ▸ hys)
      rw [e]
      exact h _ s.heap s.toks (keeps_refl _) (.bool _)
theorem op_teqb {xs ys : List Int} {b : Bool} (e : decide (xs = ys) = b) : Op2 W n X T (compareOp .Eq) (.tup (xs.map .int)) (.tup (ys.map .int)) (.bool b) := e ▸ op_teq

-- slices of tuples and lists
end
end Mine

end
-- part FW4
section
open PySem PySem.W PyProof.Rows PySem.Calls PySem.Spec
set_option maxRecDepth 20000
set_option linter.unusedVariables false
namespace Mine

section
variable {W : Wd} {n : Nat} {env : Env} {X Z : Addr → Prop} {V : Addr → Prop} {T T' T1 T2 T3 : HP V} {ρ : Env1}

-- slices
theorem ev_slc {u : Expr} {pos : Pos} {i : Int} (x : Ev W n env X Z T ρ u (.int i) T1) : Ev W n env X Z T ρ (.Slice none (some u) none pos) (.upto i) T1 := .mk fun A s Q E r L h => by
  refine wpAny_Slice ?_
  rw [evalPart_none]
  refine wpAny_pure ?_
  rw [evalPart_some]
  refine x.run A s _ E r L fun v h1 tk a t q => ?_
  cases q using Rep.intC
  exact wpAny_pure (h _ _ tk (a.trans (.of_keeps (keeps_push _ _))) (T1.st _ _ (keeps_push _ _) t) (.upto (Look.new (L.next a t)) (Heap.IsSliceOf.new _ _ _ _)))

theorem adjust_to (b n : Nat) : Builtin.Slice.sliceAdjust none (some (b : Int)) 1 (n : Int) = (0, ((min b n : Nat) : Int)) := by
  unfold Builtin.Slice.sliceAdjust
  have h1 : ¬ ((1 : Int) < 0) := by omega
  have h2 : ¬ ((b : Int) < 0) := by omega
  simp only [h1, h2, if_false]
  congr 1
  omega
theorem places_to (k : Nat) : Builtin.Slice.slicePlaces 0 (k : Int) 1 = k := by
  unfold Builtin.Slice.slicePlaces
  have h1 : (1 : Int) > 0 := by omega
  simp only [h1, if_true, Int.ediv_one]
  split <;> omega
theorem pick_to (xs : Array Value) (k : Nat) (hk : k ≤ xs.size) : ((List.range k).filterMap fun (i : Nat) => xs[((0 : Int) + (i : Int) * 1).toNat]?).toArray = (xs.toList.take k).toArray := by
  have e : (fun (i : Nat) => xs[((0 : Int) + (i : Int) * 1).toNat]?) = (fun x => xs[x]?) ∘ fun x => 0 + x := by
    funext i
    have : ((0 : Int) + (i : Int) * 1).toNat = 0 + i := by omega
    rw [this]; rfl
  rw [e, ← List.filterMap_map, pick_run]
  simp

theorem sliceApplied_to {prog : Program} {w : World} {A : Around} {E : Value → Shared → Prop} {s : Shared} {sl : Addr} {b n : Nat} {u : Tok} {Q : Int × Int × Nat → Shared → Prop} (hs : s.heap.IsSliceOf sl .none (.int (b : Int) u) .none) (h : Q (0, 1, min b n) s) :
    wpAny (model prog w) A (Builtin.Slice.sliceApplied (.ref sl) (pure (n : Int))) Q E s := by
  obtain ⟨os, hos, hcs, hds⟩ := id hs
  unfold Builtin.Slice.sliceApplied Builtin.Slice.sliceFields
  refine wpAny_bind (wpAny_bind (wpAny_field hos hds (x := .none) rfl (wpAny_bind (wpAny_field hos hds (x := .int (b : Int) u) rfl (wpAny_bind (wpAny_field hos hds (x := .none) rfl (wpAny_pure ?_)))))))
  refine wpAny_bind (slicePart_none ?_)
  show wpAny _ _ (if ((1 : Int) == 0) = true then _ else _) _ _ s
  rw [if_neg (by decide)]
  refine wpAny_bind (slicePart_none (wpAny_bind (slicePart_int (wpAny_bind (wpAny_pure ?_)))))
  show wpAny _ _ (match Builtin.Slice.sliceAdjust none (some (b : Int)) 1 (n : Int) with | (lo, hi) => pure (lo, (1 : Int), Builtin.Slice.slicePlaces lo hi 1)) _ _ s
  rw [adjust_to b n]
  show wpAny _ _ (pure ((0 : Int), (1 : Int), Builtin.Slice.slicePlaces 0 ((min b n : Nat) : Int) 1)) _ _ s
  rw [places_to]
  exact wpAny_pure h

theorem getItem_tuple_to {prog : Program} {w : World} {A : Around} {E : Value → Shared → Prop} {s : Shared} {t sl : Addr} {items : Array Value} {b : Nat} {u : Tok} {Q : Value → Shared → Prop} (ht : IsTup s.heap t items) (hs : s.heap.IsSliceOf sl .none (.int (b : Int) u) .none)
    (h1 : items.size ≤ b → Q (.ref t) s) (h2 : b < items.size → Q (.ref s.heap.objs.size) { s with heap := s.heap.push { cls := .type "tuple", data := .seq (items.toList.take b).toArray } })
    (hsz : items.size ≤ sizeLine) : wpAny (model prog w) A (getItem (.ref t) (.ref sl)) Q E s := by
  obtain ⟨os, hos, hcs, hds⟩ := id hs
  have hTs : s.TypeIs (.ref sl) "slice" := ⟨os, hos, hcs⟩
  unfold getItem
  try with_reducible refine wpAny_holding ?_
  first | refine wpAny_bind (wpAny_pure ?_) | skip
  refine wpAny_bind (wpAny_sequenceKey ht.typeIs (by decide) ?_)
  refine wpAny_bind (wpAny_callSpecial?_slot (name := Str.ofString "__getitem__") ht.typeIs slot_tuple_getitem
    (wpAny_call_entry slot_tuple_getitem ht.typeIs entry_tuple_getitem ?_ (args_tuple_getitem _ _)))
  show wpAny _ _ (Builtin.Tuple.tupleItemsOf (.ref t) >>= _) _ _ s
  refine wpAny_bind (tupleItemsOf_ ht ?_)
  refine wpAny_bind (wpAny_typeOf hTs ?_)
  rw [if_pos (by decide)]
  refine wpAny_bind (sliceApplied_to hs ?_)
  show wpAny _ _ (if ((0 : Int) == 0 && (1 : Int) == 1 && (min b items.size) == items.size) = true then _ else _) _ _ s
  by_cases hb : items.size ≤ b
  · rw [if_pos (by simp; omega)]
    refine wpAny_bind (m := Builtin.Tuple.tupleIsExact (.ref t)) ?_
    unfold Builtin.Tuple.tupleIsExact
    refine wpAny_bind (wpAny_typeOf ht.typeIs (wpAny_pure ?_))
    rw [if_pos (by decide)]
    exact wpAny_bind (wpAny_rule (wpAny_bind (wpAny_pure (wpAny_pure ⟨_, rfl, wpAny_pure (h1 hb)⟩))))
  · have hlt : b < items.size := by omega
    have hno : ¬ (((0 : Int) == 0 && (1 : Int) == 1 && (min b items.size) == items.size) = true) := by
      have : ((min b items.size) == items.size) = false := by rw [beq_eq_false_iff_ne]; omega
      rw [this]; simp
    rw [if_neg hno, pick_to items _ (Nat.min_le_right _ _)]
    have hdrop : sizeOk (.seq (items.toList.take (min b items.size)).toArray) := by
      show (items.toList.take (min b items.size)).toArray.size ≤ sizeLine
      rw [List.size_toArray, List.length_take, Array.length_toList]
      omega
    have e : min b items.size = b := by omega
    rw [e] at hdrop ⊢
    first
      | exact wpAny_bind (m := Builtin.Tuple.tupleExact _) (wpAny_newObj_type (wpAny_pure ⟨_, rfl, wpAny_pure (h2 hlt)⟩) hdrop)
      | exact wpAny_bind (m := Builtin.Tuple.tupleExact _) (wpAny_newObj_type (wpAny_bind (wpAny_pure (wpAny_pure ⟨_, rfl, wpAny_pure (h2 hlt)⟩))) hdrop)
      | exact wpAny_bind (wpAny_bind (m := Builtin.Tuple.tupleExact _) (wpAny_newObj_type (wpAny_pure (wpAny_pure ⟨_, rfl, wpAny_pure (h2 hlt)⟩)) hdrop))
      | exact wpAny_bind (wpAny_bind (m := Builtin.Tuple.tupleExact _) (wpAny_newObj_type (wpAny_pure ⟨_, rfl, wpAny_pure (h2 hlt)⟩) hdrop))

theorem fresh_not {h : Heap} (xt : ∀ a, X a → ∃ o, h.get? a = some o) : ¬ X h.objs.size := fun x => let ⟨_, e⟩ := xt _ x; Nat.lt_irrefl _ (Heap.lt_size e)

theorem sb_tupTo {value slice : Expr} {ds : List D} {b : Nat} (hl : ds.length ≤ 1000 := by decide)
    (hs : ∀ a i, subscripted slice false (.ref a) (.ref i) = operate [.ref i, .ref a] (getItem (.ref a) (.ref i)) := by intro _ _; with_unfolding_all rfl) :
    Op2 W n X T (subscriptTail value slice) (.tup ds) (.upto b) (.tup (ds.take b)) := fun A s v1 v2 Q E r _ xt _ q1 q2 h => by
  cases q2 using Rep.uptoC with
  | upto nb hb =>
    cases q1 using Rep.tupC with
    | @tup a vs na ht rs =>
      have e := rs.length
      refine tail_any ht.typeIs slot_tuple_getitem.lookup (getItem_tuple_to ht hb (fun hle => ?_) (fun hlt => ?_) (by rw [List.size_toArray, e, sizeLine_eq]; omega)) (hs _ _)
      · have hd : ds.take b = ds := List.take_of_length_le (by rw [List.size_toArray] at hle; omega)
        exact h _ s.heap s.toks (keeps_refl _) (hd.symm ▸ .tup na ht rs)
      · refine h _ _ s.toks (keeps_push _ _) (.tup (fresh_not xt) (IsTup.new _ _) ?_)
        exact (rs.take b).up fun b o _ e => Heap.get?_push_of_some _ e
theorem sb_lstTo {value slice : Expr} {ds : List D} {b : Nat} (hl : ds.length ≤ 1000)
    (hs : ∀ a i, subscripted slice false (.ref a) (.ref i) = operate [.ref i, .ref a] (getItem (.ref a) (.ref i)) := by intro _ _; with_unfolding_all rfl) :
    Op2 W n X T (subscriptTail value slice) (.lst ds) (.upto b) (.lst (ds.take b)) := fun A s v1 v2 Q E r _ xt _ q1 q2 h => by
  cases q2 using Rep.uptoC with
  | upto nb hb =>
    cases q1 using Rep.lstC with
    | @lst a vs na hl' rs =>
      have hl' := hl'.isList
      have e := rs.length
      refine tail_any hl'.typeIs list_getitem_lookup (wpAny_getItem_list_slice hl' hb .none (.int _ _) .none (by simp) ?_ (by rw [List.size_toArray, e, sizeLine_eq]; omega)) (hs _ _)
      rw [slicePick_upto']
      exact h _ _ s.toks (keeps_push _ _) (.lst (fresh_not xt) (isList_new _ _) ((rs.take b).up fun b o _ e => Heap.get?_push_of_some _ e))

-- list + list
theorem op_cat {ds es : List D} (hl : ds.length + es.length ≤ 1000) : Op2 W n X T (binaryOp .Add) (.lst ds) (.lst es) (.lst (ds ++ es)) := fun A s v1 v2 Q E r _ xt _ q1 q2 h => by
  cases q1 using Rep.lstC with
  | @lst a vs na hl1 rs =>
    have hl1 := hl1.isList
    cases q2 using Rep.lstC with
    | @lst b us nb hl2 ss =>
      have hl2 := hl2.isList
      obtain ⟨⟨cls, dd, data, sl⟩, ho, hc, c, hd⟩ := id hl1
      obtain ⟨⟨cls2, dd2, data2, sl2⟩, ho2, hc2, c2, hd2⟩ := id hl2
      simp only at hc hd hc2 hd2
      subst hc hd hc2 hd2
      have e1 := rs.length
      have e2 := ss.length
      refine concat_meets ⟨_, ho, rfl⟩ ⟨_, ho2, rfl⟩ noFill_list_add seq_list_add PySem.F.slot_list_add PySem.F.entry_list_add (PySem.F.args_list_add_2 _ _)
        (list_addW a b vs.toArray us.toArray c c2 dd dd2 sl sl2 (by rw [List.size_toArray, List.size_toArray, e1, e2, sizeLine_eq]; omega)) ⟨ho, ho2, ?_⟩
      have e : vs.toArray ++ us.toArray = (vs ++ us).toArray := by simp
      rw [e]
      exact h _ _ s.toks (keeps_push _ _) (.lst (fresh_not xt) (isList_new _ _) ((rs.append ss).up fun b o _ e => Heap.get?_push_of_some _ e))

-- calls of built-ins
def OpN (W : Wd) (n : Nat) {V : Addr → Prop} (X : Addr → Prop) (T : HP V) (t : List Value → Sem Value) (ds : List D) (d : D) : Prop :=
  ∀ (A : Around) (s : Shared) (vs : List Value) (Q : Value → Shared → Prop) (E : Value → Shared → Prop), Room n A → Keeps W.base s.heap → (∀ a, X a → ∃ o, s.heap.get? a = some o) → T.P s.heap →
    Reps W X s.heap vs ds → (∀ v h tk, Keeps s.heap h → Rep W X h v d → Q v { s with heap := h, toks := tk }) → wpAny W.M A (t vs) Q E s

theorem wp_builtin {x : Str} {pos : Pos} {v : Value} {A : Around} {s : Shared} {Q : Value → Shared → Prop} {E : Value → Shared → Prop} (L : Look W env X Z T ρ s.heap) (h : Q v s)
    (hf : x ∉ W.names) (hx : env.kindOf x = some .globalImplicit) (hv : bootBuiltins x = some v) (hb : x ∉ bootMainNames) (hn : x ≠ "__name__") (hd : (x == ("__debug__" : Str)) = false) : wpAny W.M A (eval (.Name x pos) env) Q E s :=
  Name_function_global L.kind hx (loadGlobal_builtin (by rw [L.gl]; exact L.glob.g) (L.glob.free x hf hb) (by rw [L.bl]; exact L.glob.b) ((L.glob.builtins x hn).trans hv) h) hd
theorem ev_callB {x : Str} {npos pos : Pos} {id : String} {e : Expr} {es : List Expr} {ds : List D} {d : D} (y : Evs W n env X Z T ρ (e :: es) ds T1) (o : OpN W n X T1 (fun vs => call (.builtin id) vs) ds d)
    (hf : x ∉ W.names) (hv : bootBuiltins x = some (.builtin id)) (hx : env.kindOf x = some .globalImplicit := by rfl) (hb : x ∉ bootMainNames := by decide) (hn : x ≠ "__name__" := by decide) (hd : (x == ("__debug__" : Str)) = false := by decide)
    (he : starEach (e :: es) env = (false, eval e env) :: starEach es env := by rfl) (hp : (backTo pos (starEach es env)).any (·.1) = false := by rfl)
    (hc : eval (.Call (.Name x npos) (e :: es) [] pos) env = (do callWith pos (← eval (.Name x npos) env) [] (backTo pos (starEach (e :: es) env)) (backToKw pos (keywordEach [] env))) := by rfl) :
    Ev W n env X Z T ρ (.Call (.Name x npos) (e :: es) [] pos) d T1 := .mk fun A s Q E r L h =>
  Call_ (wp_builtin L (callWith_builtin1 (y.run A s pos _ E r L fun vs h1 tk a t q => o A _ vs Q E r (L.next a t).base (L.next a t).xt t q fun v h2 tk2 k q2 => h v h2 tk2 (a.trans (.of_keeps k)) (T1.st _ _ k t) q2) he hp) hf hx hv hb hn hd) hc
theorem ev_callT {x : Str} {npos pos : Pos} {id : String} {e : Expr} {es : List Expr} {ds : List D} {d : D} (y : Evs W n env X Z T ρ (e :: es) ds T1) (o : OpN W n X T1 (fun vs => call (.type id) vs) ds d)
    (hf : x ∉ W.names) (hv : bootBuiltins x = some (.type id)) (hx : env.kindOf x = some .globalImplicit := by rfl) (hb : x ∉ bootMainNames := by decide) (hn : x ≠ "__name__" := by decide) (hd : (x == ("__debug__" : Str)) = false := by decide)
    (he : starEach (e :: es) env = (false, eval e env) :: starEach es env := by rfl) (hp : (backTo pos (starEach es env)).any (·.1) = false := by rfl)
    (hc : eval (.Call (.Name x npos) (e :: es) [] pos) env = (do callWith pos (← eval (.Name x npos) env) [] (backTo pos (starEach (e :: es) env)) (backToKw pos (keywordEach [] env))) := by rfl) :
    Ev W n env X Z T ρ (.Call (.Name x npos) (e :: es) [] pos) d T1 := .mk fun A s Q E r L h =>
  Call_ (wp_builtin L (by
    have y' := y.run A s pos (fun vs s₁ => wpAny W.M A (call (.type id) vs) Q E s₁) E r L fun vs h1 tk a t q => o A _ vs Q E r (L.next a t).base (L.next a t).xt t q fun v h2 tk2 k q2 => h v h2 tk2 (a.trans (.of_keeps k)) (T1.st _ _ k t) q2
    rw [he] at y' ⊢
    exact PySem.callWith_type (by show (false || (backTo pos (starEach es env)).any (·.1)) = false; rw [hp]; rfl) (evalArgs_plain y')) hf hx hv hb hn hd) hc

theorem on_len_lst {ds : List D} (hl : ds.length ≤ 1000) : OpN W n X T (fun vs => call (.builtin "len") vs) [.lst ds] (.int ds.length) := fun A s vs Q E r _ _ _ q h => by
  cases q using Reps.consC with
  | cons a r' =>
    cases r' using Reps.nilC
    cases a using Rep.lstC with
    | lst na hl' rs =>
      have hl' := hl'.isList
      have e := rs.length
      exact PyProof.Rows.len_list hl' (by rw [List.size_toArray, e]; omega) (by rw [List.size_toArray, e]; exact h _ s.heap _ (keeps_refl _) (.int _ _))
theorem on_len_tup {ds : List D} (hl : ds.length ≤ 1000) : OpN W n X T (fun vs => call (.builtin "len") vs) [.tup ds] (.int ds.length) := fun A s vs Q E r _ _ _ q h => by
  cases q using Reps.consC with
  | cons a r' =>
    cases r' using Reps.nilC
    cases a using Rep.tupC with
    | tup na hl' rs =>
      have e := rs.length
      exact PyProof.Rows.len_tuple hl' (by rw [List.size_toArray, e]; omega) (by rw [List.size_toArray, e]; exact h _ s.heap _ (keeps_refl _) (.int _ _))
theorem on_abs {a : Int} : OpN W n X T (fun vs => call (.builtin "abs") vs) [.int a] (.int (if a < 0 then -a else a)) := fun A s vs Q E r _ _ _ q h => by
  cases q using Reps.consC with
  | cons a r' =>
    cases r' using Reps.nilC
    cases a using Rep.intC
    exact call_abs_int fun u tk => h _ s.heap tk (keeps_refl _) (.int _ _)
theorem on_list_lst {ds : List D} (hl : ds.length ≤ 1000) : OpN W n X T (fun vs => call (.type "list") vs) [.lst ds] (.lst ds) := fun A s vs Q E r _ xt _ q h => by
  cases q using Reps.consC with
  | cons a r' =>
    cases r' using Reps.nilC
    cases a using Rep.lstC with
    | lst na hl' rs =>
      have hl' := hl'.isList
      have e := rs.length
      obtain ⟨o, ho, hc, c, hd⟩ := hl'
      exact call_list_seq (hsz := by rw [List.size_toArray, e, sizeLine_eq]; omega) _ (.inl rfl) ho hc hd fun h' c' k hD => h _ h' s.toks k (.lst (fresh_not xt) ⟨_, hD⟩ (rs.up fun b o _ e => k b o e))
theorem on_list_tup {ds : List D} (hl : ds.length ≤ 1000) : OpN W n X T (fun vs => call (.type "list") vs) [.tup ds] (.lst ds) := fun A s vs Q E r _ xt _ q h => by
  cases q using Reps.consC with
  | cons a r' =>
    cases r' using Reps.nilC
    cases a using Rep.tupC with
    | tup na hl' rs =>
      have e := rs.length
      obtain ⟨o, ho, hc, c, hd⟩ := hl'
      exact call_list_seq (hsz := by rw [List.size_toArray, e, sizeLine_eq]; omega) _ (.inr rfl) ho hc hd fun h' c' k hD => h _ h' s.toks k (.lst (fresh_not xt) ⟨_, hD⟩ (rs.up fun b o _ e => k b o e))
theorem on_tuple_lst {ds : List D} (hl : ds.length ≤ 1000) : OpN W n X T (fun vs => call (.type "tuple") vs) [.lst ds] (.tup ds) := fun A s vs Q E r _ xt _ q h => by
  cases q using Reps.consC with
  | cons a r' =>
    cases r' using Reps.nilC
    cases a using Rep.lstC with
    | lst na hl' rs =>
      have hl' := hl'.isList
      have e := rs.length
      refine call_tuple_list (hsz := by rw [List.size_toArray, e, sizeLine_eq]; omega) hl' fun h' k => ?_
      have k2 : ∀ o₂, Keeps s.heap (h'.push o₂) := fun _ b o e => Heap.get?_push_of_some _ (k b o e)
      refine h _ _ s.toks (k2 _) (.tup (fun x => ?_) (IsTup.new _ _) (rs.up fun b o _ e => k2 _ b o e))
      obtain ⟨o, e⟩ := xt _ x
      exact Nat.lt_irrefl _ (Heap.lt_size (k _ _ e))
end
end Mine

end
-- part FW5
section
open PySem PySem.W PyProof.Rows PySem.Calls PySem.Spec
set_option maxRecDepth 20000
set_option linter.unusedVariables false
namespace Mine

/-- the addresses of a frame: its namespace, its cells -/
def Vof (env : Env) (a : Addr) : Prop := a = env.locals ∨ ∃ x, env.cells.lookup x = some a

/-- M: what the activation may turn; X: what no datum may lie in -/
structure Sp where
  M : Addr → Prop
  X : Addr → Prop

structure TT (V : Addr → Prop) where
  P : Sp → Heap → Prop
  turns : ∀ S h h', (∀ b o, ¬ V b → (S.M b ∨ ¬ S.X b) → h.get? b = some o → h'.get? b = some o) → P S h → P S h'
  grow : ∀ S X' h, (∀ a, S.M a → X' a) → (∀ a, V a → X' a) → (∀ a, X' a → (∃ o, h.get? a = some o) → S.X a) → P S h → P ⟨S.M, X'⟩ h
abbrev TT.at {V : Addr → Prop} (T : TT V) (S : Sp) : HP V := ⟨T.P S, fun h h' k => T.turns S h h' fun b o n _ e => k b o n e⟩
def TT.tt {V : Addr → Prop} : TT V := ⟨fun _ _ => True, fun _ _ _ _ _ => trivial, fun _ _ _ _ _ _ _ => trivial⟩

structure Fm (W : Wd) (env : Env) (hb : Heap) (Y Z : Addr → Prop) (S : Sp) (T : TT (Vof env)) (ρ : Env1) (h : Heap) : Prop where
  look : Look W env S.X Z (T.at S) ρ h
  keep : Keeps hb h
  ns : ∃ m, h.Ns env.locals m
  cells : ∃ cm, Cl env.locals env.cells h cm
  cin : ∀ x, env.kindOf x = some .cell → (env.cells.lookup x).isSome = true
  vm : ∀ a, Vof env a → S.M a
  mx : ∀ a, S.M a → S.X a
  zm : ∀ a, Z a → S.M a
  yx : ∀ a, Y a → S.X a
  yh : ∀ a, Y a → hb.get? a ≠ none
  mb : ∀ a, S.M a → hb.get? a = none
  above : hb.objs.size ≤ env.locals

/-- what a statement may do: turn things of M, make things -/
structure AftS (S S' : Sp) (h h' : Heap) : Prop where
  keep : ∀ b o, ¬ S.M b → h.get? b = some o → h'.get? b = some o
  there : ∀ b, (∃ o, h.get? b = some o) → ∃ o, h'.get? b = some o
  xs : ∀ a, S.X a → S'.X a
  xf : ∀ a, S'.X a → S.X a ∨ h.get? a = none
  ms : ∀ a, S.M a → S'.M a
  mf : ∀ a, S'.M a → S.M a ∨ h.get? a = none
theorem AftS.refl (S : Sp) (h : Heap) : AftS S S h h := ⟨fun _ _ _ e => e, fun _ e => e, fun _ e => e, fun _ e => .inl e, fun _ e => e, fun _ e => .inl e⟩
theorem AftS.trans {S S' S'' : Sp} {h h' h'' : Heap} (x : AftS S S' h h') (y : AftS S' S'' h' h'') : AftS S S'' h h'' where
  keep := fun b o n e => y.keep b o (fun m => (x.mf b m).elim n fun q => by rw [q] at e; cases e) (x.keep b o n e)
  there := fun b e => y.there b (x.there b e)
  xs := fun a e => y.xs a (x.xs a e)
  xf := fun a e => (y.xf a e).elim (x.xf a) fun q => by
    cases hq : h.get? a with
    | none => exact .inr rfl
    | some o => obtain ⟨o', e'⟩ := x.there a ⟨o, hq⟩; rw [q] at e'; cases e'
  ms := fun a e => y.ms a (x.ms a e)
  mf := fun a e => (y.mf a e).elim (x.mf a) fun q => by
    cases hq : h.get? a with
    | none => exact .inr rfl
    | some o => obtain ⟨o', e'⟩ := x.there a ⟨o, hq⟩; rw [q] at e'; cases e'

inductive Oc where
  | next (ρ : Env1)
  | cont (ρ : Env1)
  | ret (d : D)

def After (W : Wd) (env : Env) (hb : Heap) (Y Z : Addr → Prop) (S : Sp) (T' : TT (Vof env)) (s : Shared) (Q : Flow → Shared → Prop) : Oc → Prop
  | .next ρ' => ∀ S' h tk, AftS S S' s.heap h → Fm W env hb Y Z S' T' ρ' h → Q .next { s with heap := h, toks := tk }
  | .cont ρ' => ∀ S' h tk, AftS S S' s.heap h → Fm W env hb Y Z S' T' ρ' h → Q .cont { s with heap := h, toks := tk }
  | .ret d => ∀ S' h tk v, Fm W env hb Y Z S' T' [] h → Rep W S'.X h v d → Q (.ret v) { s with heap := h, toks := tk }

/-- statements -/
structure Ex (W : Wd) (n : Nat) (env : Env) (Z : Addr → Prop) (T : TT (Vof env)) (ρ : Env1) (ss : List Stmt) (o : Oc) (T' : TT (Vof env)) : Prop where
  run : ∀ (A : Around) (hb : Heap) (Y : Addr → Prop) (S : Sp) (s : Shared) (Q : Flow → Shared → Prop) (E : Value → Shared → Prop), Room n A → Fm W env hb Y Z S T ρ s.heap → After W env hb Y Z S T' s Q o → wpAny W.M A (execs ss env) Q E s
/-- one statement -/
structure Ex1 (W : Wd) (n : Nat) (env : Env) (Z : Addr → Prop) (T : TT (Vof env)) (ρ : Env1) (st : Stmt) (o : Oc) (T' : TT (Vof env)) : Prop where
  run : ∀ (A : Around) (hb : Heap) (Y : Addr → Prop) (S : Sp) (s : Shared) (Q : Flow → Shared → Prop) (E : Value → Shared → Prop), Room n A → Fm W env hb Y Z S T ρ s.heap → After W env hb Y Z S T' s Q o → wpAny W.M A (exec st env) Q E s

section
variable {W : Wd} {n : Nat} {env : Env} {Z : Addr → Prop} {T T' T1 T2 T3 : TT (Vof env)} {ρ ρ' ρ1 : Env1}

theorem After.trans {hb : Heap} {Y : Addr → Prop} {S S' : Sp} {s : Shared} {h : Heap} {tk : Nat} {Q : Flow → Shared → Prop} {o : Oc} (a : AftS S S' s.heap h) (x : After W env hb Y Z S T' s Q o) : After W env hb Y Z S' T' { s with heap := h, toks := tk } Q o := by
  cases o with
  | next ρ' => exact fun S2 h2 tk2 a2 f2 => x S2 h2 tk2 (a.trans a2) f2
  | cont ρ' => exact fun S2 h2 tk2 a2 f2 => x S2 h2 tk2 (a.trans a2) f2
  | ret d => exact fun S2 h2 tk2 v f2 r => x S2 h2 tk2 v f2 r

theorem ex_nil : Ex W n env Z T ρ [] (.next ρ) T := .mk fun A hb Y S s Q E r f x => wpAny_execs_nil (x S s.heap s.toks (.refl _ _) f)
theorem ex_cons {st : Stmt} {rest : List Stmt} {o : Oc} (x : Ex1 W n env Z T ρ st (.next ρ1) T1) (y : Ex W n env Z T1 ρ1 rest o T2) : Ex W n env Z T ρ (st :: rest) o T2 := .mk fun A hb Y S s Q E r f k =>
  wpAny_execs_cons (x.run A hb Y S s _ E r f fun S1 h1 tk1 a1 f1 => y.run A hb Y S1 _ Q E r f1 (k.trans a1))
theorem ex_ret {st : Stmt} {rest : List Stmt} {d : D} (x : Ex1 W n env Z T ρ st (.ret d) T1) : Ex W n env Z T ρ (st :: rest) (.ret d) T1 := .mk fun A hb Y S s Q E r f k =>
  wpAny_execs_cons (x.run A hb Y S s _ E r f fun S1 h1 tk1 v f1 q => k S1 h1 tk1 v f1 q)
theorem ex_cont {st : Stmt} {rest : List Stmt} (x : Ex1 W n env Z T ρ st (.cont ρ') T1) : Ex W n env Z T ρ (st :: rest) (.cont ρ') T1 := .mk fun A hb Y S s Q E r f k =>
  wpAny_execs_cons (x.run A hb Y S s _ E r f fun S1 h1 tk1 a1 f1 => k S1 h1 tk1 a1 f1)

/-- after an evaluation -/
theorem Fm.next {hb h h' : Heap} {Y : Addr → Prop} {S : Sp} (f : Fm W env hb Y Z S T ρ h) (a : Aft Z h h') (t : (T'.at S).P h') : Fm W env hb Y Z S T' ρ h' where
  look := f.look.next a t
  keep := fun b o e => a.keep b o (fun z => by have := f.mb b (f.zm b z); rw [this] at e; cases e) (f.keep b o e)
  ns := let ⟨m, e⟩ := f.ns; ⟨m, e.at' fun o q => a.keep _ o f.look.zl q⟩
  cells := let ⟨cm, c⟩ := f.cells; ⟨cm, fun x b e => isCell_at (c.cell x b e) fun o q => a.keep _ o (f.look.zc x b e) q, c.apart, c.above⟩
  cin := f.cin
  vm := f.vm
  mx := f.mx
  zm := f.zm
  yx := f.yx
  yh := f.yh
  mb := f.mb
  above := f.above
theorem Fm.aft {hb h h' : Heap} {Y : Addr → Prop} {S : Sp} (f : Fm W env hb Y Z S T ρ h) (a : Aft Z h h') : AftS S S h h' :=
  ⟨fun b o n e => a.keep b o (fun z => n (f.zm b z)) e, a.there, fun _ e => e, fun _ e => .inl e, fun _ e => e, fun _ e => .inl e⟩
theorem Fm.less {hb h : Heap} {Y : Addr → Prop} {S : Sp} (f : Fm W env hb Y Z S T ρ h) (hr : ∀ x d, ρ'.lookup x = some d → ρ.lookup x = some d) : Fm W env hb Y Z S T ρ' h :=
  { f with look := { f.look with vars := fun x d e => f.look.vars x d (hr x d e) } }
theorem Fm.empty {hb h : Heap} {Y : Addr → Prop} {S : Sp} (f : Fm W env hb Y Z S T ρ h) : Fm W env hb Y Z S T [] h := f.less fun x d e => by cases e

/-- a name is stored -/
theorem wp_store {x : Str} {v : Value} {d : D} {A : Around} {hb : Heap} {Y : Addr → Prop} {S : Sp} {s : Shared} {Q : Unit → Shared → Prop} {E : Value → Shared → Prop} (f : Fm W env hb Y Z S T ρ s.heap) (q : Rep W S.X s.heap v d)
    (hx : env.kindOf x = some .local ∨ env.kindOf x = some .cell) (h : ∀ h' tk, AftS S S s.heap h' → Fm W env hb Y Z S T ((x, d) :: ρ) h' → Q () { s with heap := h', toks := tk }) : wpAny W.M A (storeName env x v) Q E s := by
  obtain ⟨m, hm⟩ := f.ns
  obtain ⟨cm, c⟩ := f.cells
  have vl : Vof env env.locals := .inl rfl
  have key : ∀ (a : Addr) (h' : Heap), Vof env a → Heap.SameBut a s.heap h' → (∃ m, h'.Ns env.locals m) → (∃ cm, Cl env.locals env.cells h' cm) →
      (∀ y d', ((x, d) :: ρ).lookup y = some d' → ∃ v', At env h' y v' ∧ Rep W S.X h' v' d') → AftS S S s.heap h' ∧ Fm W env hb Y Z S T ((x, d) :: ρ) h' := by
    intro a h' va hs hns hcl hvars
    have hM := f.vm a va
    have hX := f.mx a hM
    have th : ∀ b, (∃ o, s.heap.get? b = some o) → ∃ o, h'.get? b = some o := fun b ⟨o, e⟩ => by
      by_cases hb : b = a
      · subst hb
        rcases va with rfl | ⟨y, e2⟩
        · obtain ⟨m', o', _, _, e', _⟩ := hns; exact ⟨o', e'⟩
        · obtain ⟨cm', c'⟩ := hcl; obtain ⟨o', e', _⟩ := c'.cell y b e2; exact ⟨o', e'⟩
      · exact ⟨o, (hs.2 b hb).trans e⟩
    have kp : ∀ b o, b ≠ a → s.heap.get? b = some o → h'.get? b = some o := fun b o n e => (hs.2 b n).trans e
    refine ⟨⟨fun b o n e => kp b o (fun e' => n (e' ▸ hM)) e, th, fun _ e => e, fun _ e => .inl e, fun _ e => e, fun _ e => .inl e⟩, ?_⟩
    exact {
      look := {
        base := fun b o e => kp b o (fun e' => by have := f.look.xb a hX; rw [← e', e] at this; cases this) (f.look.base b o e)
        vars := hvars
        own := T.turns S _ _ (fun b o n _ e => kp b o (fun e' => n (e' ▸ va)) e) f.look.own
        zx := f.look.zx
        xb := f.look.xb
        xt := fun b e => th b (f.look.xt b e)
        zl := f.look.zl
        zc := f.look.zc
        kind := f.look.kind
        gl := f.look.gl
        bl := f.look.bl }
      keep := fun b o e => kp b o (fun e' => by have := f.mb a hM; rw [← e', e] at this; cases this) (f.keep b o e)
      ns := hns
      cells := hcl
      cin := f.cin
      vm := f.vm
      mx := f.mx
      zm := f.zm
      yx := f.yx
      yh := f.yh
      mb := f.mb
      above := f.above }
  rcases hx with hx | hx
  · refine wpAny_storeName_local hx hm (fun h' hn hs => ?_) (by rw [f.look.kind]; rfl)
    have hX := f.mx _ (f.vm _ vl)
    obtain ⟨a1, f1⟩ := key env.locals h' vl hs ⟨_, hn⟩ ⟨cm, c.sameBut hs (Nat.le_refl _)⟩ (fun y d' e => by
      by_cases hy : y = x
      · subst hy
        simp only [List.lookup_cons, beq_self_eq_true] at e
        cases e
        exact ⟨v, .inl ⟨hx, _, hn, by simp⟩, q.up fun b o n e => (hs.2 b (fun e' => n (e' ▸ hX))).trans e⟩
      · rw [List.lookup_cons, beq_eq_false_iff_ne.mpr hy] at e
        obtain ⟨v', t, r⟩ := f.look.vars y d' e
        refine ⟨v', ?_, r.up fun b o n e => (hs.2 b (fun e' => n (e' ▸ hX))).trans e⟩
        rcases t with ⟨k, m', n', e'⟩ | ⟨k, c', e1, e2⟩
        · exact .inl ⟨k, _, hn, by rw [if_neg hy, hm.agree n' y]; exact e'⟩
        · exact .inr ⟨k, c', e1, e2.sameBut hs (Nat.ne_of_gt (c.above _ _ (PySem.mem_of_lookup e1)))⟩)
    exact h h' _ a1 f1
  · obtain ⟨a, ha⟩ := Option.isSome_iff_exists.mp (f.cin x hx)
    have va : Vof env a := .inr ⟨x, ha⟩
    have hX := f.mx _ (f.vm _ va)
    have hL : env.locals ≠ a := Nat.ne_of_lt (c.above _ _ (PySem.mem_of_lookup ha))
    refine wpAny_storeName_cell f.look.kind hx ha (c.cell x a ha) fun h' hc hs => ?_
    have hcl : Cl env.locals env.cells h' (fun y => if y = x then some v else cm y) := ⟨fun y b e => by
      by_cases hy : y = x
      · subst hy; rw [ha] at e; cases e; simpa using hc
      · rw [if_neg hy]
        exact (c.cell y b e).sameBut hs fun e' => hy (name_of_addr c.apart (PySem.mem_of_lookup e) (e' ▸ PySem.mem_of_lookup ha)), c.apart, c.above⟩
    obtain ⟨a1, f1⟩ := key a h' va hs ⟨m, hm.sameBut hs hL⟩ ⟨_, hcl⟩ (fun y d' e => by
      by_cases hy : y = x
      · subst hy
        simp only [List.lookup_cons, beq_self_eq_true] at e
        cases e
        exact ⟨v, .inr ⟨.inl hx, a, ha, hc⟩, q.up fun b o n e => (hs.2 b (fun e' => n (e' ▸ hX))).trans e⟩
      · rw [List.lookup_cons, beq_eq_false_iff_ne.mpr hy] at e
        obtain ⟨v', t, r⟩ := f.look.vars y d' e
        refine ⟨v', ?_, r.up fun b o n e => (hs.2 b (fun e' => n (e' ▸ hX))).trans e⟩
        rcases t with ⟨k, m', n', e'⟩ | ⟨k, c', e1, e2⟩
        · exact .inl ⟨k, m', n'.sameBut hs hL, e'⟩
        · exact .inr ⟨k, c', e1, e2.sameBut hs fun e' => hy (name_of_addr c.apart (PySem.mem_of_lookup e1) (e' ▸ PySem.mem_of_lookup ha))⟩)
    exact h h' s.toks a1 f1

abbrev EvS (W : Wd) (n : Nat) (env : Env) (Z : Addr → Prop) (T : TT (Vof env)) (ρ : Env1) (e : Expr) (d : D) (T' : TT (Vof env)) : Prop := ∀ S : Sp, Ev W n env S.X Z (T.at S) ρ e d (T'.at S)
abbrev TvS (W : Wd) (n : Nat) (env : Env) (Z : Addr → Prop) (T : TT (Vof env)) (ρ : Env1) (e : Expr) (b : Bool) (T' : TT (Vof env)) : Prop := ∀ S : Sp, Tv W n env S.X Z (T.at S) ρ e b (T'.at S)

theorem ex1_assign {x : Str} {npos pos : Pos} {e : Expr} {d : D} (y : EvS W n env Z T ρ e d T1) (hx : env.kindOf x = some .local ∨ env.kindOf x = some .cell := by first | exact .inl rfl | exact .inr rfl)
    (hs : swapsWith e (some (.Name x npos)) pos.line env = pure false := by rfl) : Ex1 W n env Z T ρ (.Assign [.Name x npos] e pos) (.next ((x, d) :: ρ)) T1 := .mk fun A hb Y S s Q E r f k =>
  wpAny_Assign_Name ((y S).run A s _ E r f.look fun v h1 tk1 a1 t1 q1 => wp_store (f.next a1 t1) q1 hx fun h2 tk2 a2 f2 => k S h2 tk2 ((f.aft a1).trans a2) f2) hs
theorem ex1_return {e : Expr} {pos : Pos} {d : D} (y : EvS W n env Z T ρ e d T1) : Ex1 W n env Z T ρ (.Return (some e) pos) (.ret d) T1 := .mk fun A hb Y S s Q E r f k =>
  wpAny_Return_some ((y S).run A s _ E r f.look fun v h1 tk1 a1 t1 q1 => k S h1 tk1 v (f.next a1 t1).empty q1)
theorem ex1_continue {pos : Pos} : Ex1 W n env Z T ρ (.Continue pos) (.cont ρ) T := .mk fun A hb Y S s Q E r f k => wpAny_Continue (k S s.heap s.toks (.refl _ _) f)
theorem ex1_if_t {c : Expr} {b1 b2 : List Stmt} {pos : Pos} {o : Oc} (x : TvS W n env Z T ρ c true T1) (y : Ex W n env Z T1 ρ b1 o T2) : Ex1 W n env Z T ρ (.If c b1 b2 pos) o T2 := .mk fun A hb Y S s Q E r f k =>
  wpAny_If ((x S).run A s _ E r f.look fun h1 tk1 a1 t1 => by simp only [if_true]; exact y.run A hb Y S _ Q E r (f.next a1 t1) (k.trans (f.aft a1)))
theorem ex1_if_f {c : Expr} {b1 b2 : List Stmt} {pos : Pos} {o : Oc} (x : TvS W n env Z T ρ c false T1) (y : Ex W n env Z T1 ρ b2 o T2) : Ex1 W n env Z T ρ (.If c b1 b2 pos) o T2 := .mk fun A hb Y S s Q E r f k =>
  wpAny_If ((x S).run A s _ E r f.look fun h1 tk1 a1 t1 => by simp only [Bool.false_eq_true, if_false]; exact y.run A hb Y S _ Q E r (f.next a1 t1) (k.trans (f.aft a1)))
theorem ex_less {ss : List Stmt} {o : Oc} (hr : ∀ x d, ρ'.lookup x = some d → ρ.lookup x = some d) (x : Ex W n env Z T ρ' ss o T1) : Ex W n env Z T ρ ss o T1 := .mk fun A hb Y S s Q E r f k => x.run A hb Y S s Q E r (f.less hr) k
theorem ex_out {ss : List Stmt} (hr : ∀ x d, ρ'.lookup x = some d → ρ1.lookup x = some d) (x : Ex W n env Z T ρ ss (.next ρ1) T1) : Ex W n env Z T ρ ss (.next ρ') T1 := .mk fun A hb Y S s Q E r f k =>
  x.run A hb Y S s Q E r f fun S' h tk a f' => k S' h tk a (f'.less hr)

-- a tuple is unpacked into names
def zipIn : List Str → List D → Env1 → Env1
  | x :: xs, d :: ds, ρ => zipIn xs ds ((x, d) :: ρ)
  | _, _, ρ => ρ
inductive Tgts (env : Env) : List Expr → List Str → Prop
  | nil : Tgts env [] []
  | cons {e : Expr} {x : Str} {p : Pos} {es : List Expr} {xs : List Str} : e = .Name x p → (env.kindOf x = some .local ∨ env.kindOf x = some .cell) → Tgts env es xs → Tgts env (e :: es) (x :: xs)
theorem wp_inOrder {A : Around} {hb : Heap} {Y : Addr → Prop} {S : Sp} {E : Value → Shared → Prop} {es : List Expr} {xs : List Str} (hf : Tgts env es xs) : ∀ {vs : List Value} {ds : List D} {ρ : Env1} {s : Shared} {Q : Unit → Shared → Prop},
    es.length = ds.length → Fm W env hb Y Z S T ρ s.heap → Reps W S.X s.heap vs ds →
    (∀ h' tk, AftS S S s.heap h' → Fm W env hb Y Z S T (zipIn xs ds ρ) h' → Q () { s with heap := h', toks := tk }) → wpAny W.M A (assignInOrder ((assignEach es env).map (·.2)) vs) Q E s := by
  induction hf with
  | nil =>
    intro vs ds ρ s Q hl f r h
    cases ds with
    | nil => cases r using Reps.nilC; exact assignInOrder_nil (h s.heap s.toks (.refl _ _) f)
    | cons _ _ => simp at hl
  | @cons e x p es xs he hx hf ih =>
    intro vs ds ρ s Q hl f r h
    subst he
    cases r with
    | nil => simp at hl
    | cons a r =>
      refine assignInOrder_cons (wpAny_assign_Name (wp_store f a hx fun h1 tk1 a1 f1 => ?_))
      exact ih (by simpa using hl) f1 (r.up fun b o n e => a1.keep b o (fun m => n (f.mx b m)) e) fun h2 tk2 a2 f2 => h h2 tk2 (a1.trans a2) f2
theorem wp_unpack {A : Around} {hb : Heap} {Y : Addr → Prop} {S : Sp} {E : Value → Shared → Prop} {es : List Expr} {k : Nat} {pos : Pos} {xs : List Str} {v : Value} {ds : List D} {s : Shared} {Q : Unit → Shared → Prop} (hh : A.handled = none)
    (hf : Tgts env es xs) (hl : (assignEach es env).length = ds.length) (hl2 : es.length = ds.length) (hst : (assignEach es env).findIdx? (·.1) = none) (f : Fm W env hb Y Z S T ρ s.heap) (r : Rep W S.X s.heap v (.tup ds))
    (h : ∀ h' tk, AftS S S s.heap h' → Fm W env hb Y Z S T (zipIn xs ds ρ) h' → Q () { s with heap := h', toks := tk }) : wpAny W.M A (assign (.Tuple es k pos) env v) Q E s := by
  cases r using Rep.tupC with
  | @tup a vs na ht rs =>
    refine assign_Tuple_tuple hh ht (by rw [hl, List.size_toArray, rs.length]) hst fun h1 he => ?_
    have k : Keeps s.heap h1 := fun b o e => he b o (Nat.ne_of_lt (Heap.lt_size e)) e
    have f1 : Fm W env hb Y Z S T ρ h1 := f.next (.of_keeps k) (T.turns S _ _ (fun b o _ _ e => k b o e) f.look.own)
    refine wp_inOrder (s := { s with heap := h1 }) hf hl2 f1 (rs.up fun b o _ e => k b o e) fun h2 tk2 a2 f2 => h h2 tk2 ((f.aft (.of_keeps k)).trans a2) f2
theorem ex1_unpack {es : List Expr} {kk : Nat} {tpos pos : Pos} {e : Expr} {ds : List D} (xs : List Str) (y : EvS W n env Z T ρ e (.tup ds) T1)
    (hf : Tgts env es xs) (hl : (assignEach es env).length = ds.length := by rfl) (hl2 : es.length = ds.length := by rfl) (hst : (assignEach es env).findIdx? (·.1) = none := by rfl)
    (hs : swapsWithSole [.Tuple es kk tpos] e pos.line env = pure false := by rfl) (hw : swappedStores [.Tuple es kk tpos] e env = pure none := by rfl) :
    Ex1 W n env Z T ρ (.Assign [.Tuple es kk tpos] e pos) (.next (zipIn xs ds ρ)) T1 := .mk fun A hb Y S s Q E r f k =>
  Assign_Tuple ((y S).run A s _ E r f.look fun v h1 tk1 a1 t1 q1 => wp_unpack r.1 hf hl hl2 hst (f.next a1 t1) q1 fun h2 tk2 a2 f2 => k S h2 tk2 ((f.aft a1).trans a2) f2) hs hw
end

-- a def's contract, and its call
structure Fn (W : Wd) (n : Nat) (f : Str) (ds : List D) (d : D) : Prop where
  run : ∀ (A : Around) (s : Shared) (Y : Addr → Prop) (a : Addr) (vs : List Value) (Q : Value → Shared → Prop) (E : Value → Shared → Prop), Room n A → W.mg f = some (.ref a) → Keeps W.base s.heap → (∀ a, Y a → ∃ o, s.heap.get? a = some o) → (∀ a, Y a → W.base.get? a = none) →
    Reps W Y s.heap vs ds → (∀ v h tk, Keeps s.heap h → Rep W Y h v d → Q v { s with heap := h, toks := tk }) → wpAny W.M A (call (.ref a) vs) Q E s

theorem bindL_other {k : Str → Option NameKind} {x : Str} : ∀ {b : List (Str × Value)} {m : Str → Option Value}, x ∉ b.map (·.1) → bindL k b m x = m x
  | [], m, _ => rfl
  | (y, v) :: b, m, h => by
    simp only [List.map_cons, List.mem_cons, not_or] at h
    unfold bindL
    rw [bindL_other h.2]
    split
    · exact if_neg h.1
    · rfl
theorem bindC_other {k : Str → Option NameKind} {x : Str} : ∀ {b : List (Str × Value)} {m : Str → Option Value}, x ∉ b.map (·.1) → bindC k b m x = m x
  | [], m, _ => rfl
  | (y, v) :: b, m, h => by
    simp only [List.map_cons, List.mem_cons, not_or] at h
    unfold bindC
    rw [bindC_other h.2]
    split
    · rfl
    · exact if_neg h.1
theorem bindL_at {k : Str → Option NameKind} {x : Str} {v : Value} (hk : k x = some .local) : ∀ {b : List (Str × Value)} {m : Str → Option Value}, (b.map (·.1)).Nodup → b.lookup x = some v → bindL k b m x = some v
  | [], m, _, h => by cases h
  | (y, u) :: b, m, hn, h => by
    simp only [List.map_cons, List.nodup_cons] at hn
    unfold bindL
    by_cases e : x = y
    · subst e
      simp only [List.lookup_cons, beq_self_eq_true] at h
      cases h
      rw [bindL_other hn.1, if_pos hk]; exact if_pos rfl
    · rw [List.lookup_cons, beq_eq_false_iff_ne.mpr e] at h
      exact bindL_at hk hn.2 h
theorem bindC_at {k : Str → Option NameKind} {x : Str} {v : Value} (hk : k x ≠ some .local) : ∀ {b : List (Str × Value)} {m : Str → Option Value}, (b.map (·.1)).Nodup → b.lookup x = some v → bindC k b m x = some v
  | [], m, _, h => by cases h
  | (y, u) :: b, m, hn, h => by
    simp only [List.map_cons, List.nodup_cons] at hn
    unfold bindC
    by_cases e : x = y
    · subst e
      simp only [List.lookup_cons, beq_self_eq_true] at h
      cases h
      rw [bindC_other hn.1, if_neg hk]; exact if_pos rfl
    · rw [List.lookup_cons, beq_eq_false_iff_ne.mpr e] at h
      exact bindC_at hk hn.2 h
theorem zip_look {W : Wd} {X : Addr → Prop} {h : Heap} {x : Str} {d : D} : ∀ {ps : List Str} {vs : List Value} {ds : List D}, Reps W X h vs ds → (ps.zip ds).lookup x = some d → ∃ v, (ps.zip vs).lookup x = some v ∧ Rep W X h v d
  | [], _, _, _, e => by simp at e
  | p :: ps, _, [], _, e => by simp at e
  | p :: ps, _, d' :: ds, r, e => by
    cases r using Reps.consC with
    | @cons v vs a r =>
      rw [List.zip_cons_cons, List.lookup_cons] at e ⊢
      by_cases hx : x = p
      · subst hx; simp at e ⊢; subst e; exact a
      · rw [beq_eq_false_iff_ne.mpr hx] at e ⊢; exact zip_look r e

theorem fn_of {W : Wd} {n : Nat} {di : DefItem} {ds : List D} {d : D} (ps : List Str) (hd : di ∈ W.defs) (hnd : di.params.defaults = []) (hlen : ps.length = ds.length)
    (hb : ∀ pm cd doc (vs : List Value), vs.length = ps.length → bindArgs (docDef di.name di.params di.body di.scope pm cd doc) ⟨vs, []⟩ = pure (ps.zip vs)) (hnp : ps.Nodup)
    (hk : ∀ x ∈ ps, di.scope.names.lookup x = some .local ∨ di.scope.names.lookup x = some .cell)
    (hco : di.scope.isCoroutine = false) (hgen : di.scope.isGenerator = false) (hkd : di.scope.kind = .function)
    (body : ∀ L a cd, Ex W n (envOfC di.name di.scope L a cd) (fun _ => False) TT.tt (ps.zip ds) di.body (.ret d) TT.tt) : Fn W (n + 1) di.name ds d := by
  refine .mk fun A s Y a vs Q E r hmg hbase yt yb rs h => ?_
  have hcells : ∀ x L, di.scope.names.lookup x = some .cell → ((cellsFrom L di.scope.names []).lookup x).isSome = true := fun x L q => cellsFrom_some _ _ _ (.inl q)
  obtain ⟨a', c', o, pm, doc, _, _, h1, ho, hdat, hcd⟩ := (W.glob.made di hd).plain hnd
  rw [hmg] at h1
  cases h1
  have G := W.glob.keeps hbase
  have hvl : vs.length = ps.length := by rw [rs.length, hlen]
  have hmap : (ps.zip vs).map (·.1) = ps := List.map_fst_zip (by omega)
  refine wpAny_call (call_cells_ret (by have := r.2.1; omega) (hbase _ _ ho) hdat G.nolimit (hcd.keeps hbase) (hb _ _ _ vs hvl) ?_ (fun h₁ tk F C => ?_) hco hgen hkd)
  · intro x hx
    have hxp : x.1 ∈ ps := hmap ▸ List.mem_map.mpr ⟨x, hx, rfl⟩
    rcases hk _ hxp with q | q
    · exact .inl q
    · exact .inr ⟨q, hcells _ _ q⟩
  · refine wpAny_mono (Q := fun f s' => ∃ v h tk, f = .ret v ∧ s' = { s with heap := h, toks := tk } ∧ Keeps s.heap h ∧ Rep W Y h v d) (E := fun _ _ => False) ?_ (fun f s' q => ?_) (fun _ _ q => q)
    · refine (body s.heap.objs.size a (.ref c')).run _ s.heap Y ⟨Vof (envOfC di.name di.scope s.heap.objs.size a (.ref c')), fun b => Y b ∨ Vof (envOfC di.name di.scope s.heap.objs.size a (.ref c')) b⟩ _ _ _ (r.deeper _) ?_ ?_
      · have vge : ∀ b, Vof (envOfC di.name di.scope s.heap.objs.size a (.ref c')) b → s.heap.objs.size ≤ b := fun b q => by
          rcases q with rfl | ⟨x, e⟩
          · exact Nat.le_refl _
          · exact Nat.le_of_lt (C.above _ _ (PySem.mem_of_lookup e))
        have vnone : ∀ b, Vof (envOfC di.name di.scope s.heap.objs.size a (.ref c')) b → s.heap.get? b = none := fun b q => Heap.get?_none_of_le (vge b q)
        have vbase : ∀ b, Vof (envOfC di.name di.scope s.heap.objs.size a (.ref c')) b → W.base.get? b = none := fun b q => by
          cases e : W.base.get? b with
          | none => rfl
          | some o' => have := hbase b o' e; rw [vnone b q] at this; cases this
        have rs' : Reps W (fun b => Y b ∨ Vof (envOfC di.name di.scope s.heap.objs.size a (.ref c')) b) h₁ vs ds :=
          (rs.weak (fun b q ⟨o', e⟩ => q.elim id fun q => by rw [vnone b q] at e; cases e)).up fun b o' _ e => F.keep b o' e
        exact {
          look := {
            base := fun b o' e => F.keep b o' (hbase b o' e)
            vars := fun x d' e => by
              obtain ⟨v, e', q⟩ := zip_look rs' e
              have hxp : x ∈ ps := by have := PySem.mem_of_lookup e'; exact hmap ▸ List.mem_map.mpr ⟨_, this, rfl⟩
              refine ⟨v, ?_, q⟩
              rcases hk _ hxp with k | k
              · exact .inl ⟨k, _, F.ns, bindL_at k (hmap.symm ▸ hnp) e'⟩
              · obtain ⟨c, hc⟩ := Option.isSome_iff_exists.mp (hcells x (s.heap.objs.size + 1) k)
                have hb := C.cell x c hc
                rw [bindC_at (by show di.scope.names.lookup x ≠ _; rw [k]; decide) (hmap.symm ▸ hnp) e'] at hb
                exact .inr ⟨.inl k, c, hc, hb⟩
            own := trivial
            zx := fun _ q => q.elim
            xb := fun b q => q.elim (yb b) (vbase b)
            xt := fun b q => by
              rcases q with q | (rfl | ⟨x, e⟩)
              · obtain ⟨o', e⟩ := yt b q; exact ⟨o', F.keep b o' e⟩
              · obtain ⟨o', _, _, e, _⟩ := F.ns; exact ⟨o', e⟩
              · obtain ⟨o', e', _⟩ := C.cell x b e; exact ⟨o', e'⟩
            zl := fun q => q
            zc := fun _ _ _ q => q
            kind := hkd
            gl := rfl
            bl := rfl }
          keep := F.keep
          ns := ⟨_, F.ns⟩
          cells := ⟨_, C⟩
          cin := fun x q => hcells x _ q
          vm := fun _ q => q
          mx := fun _ q => .inr q
          zm := fun _ q => q.elim
          yx := fun _ q => .inl q
          yh := fun a q e => by obtain ⟨o, e'⟩ := yt a q; rw [e] at e'; cases e'
          mb := vnone
          above := Nat.le_refl _ }
      · exact fun S' h tk v f q => ⟨v, h, tk, rfl, rfl, f.keep, q.weak fun b y _ => f.yx b y⟩
    · obtain ⟨v, h', tk', rfl, rfl, k, q⟩ := q
      exact h v h' tk' k q

section
variable {W : Wd} {n : Nat} {env : Env} {X Z : Addr → Prop} {V : Addr → Prop} {T T' T1 T2 T3 : HP V} {ρ : Env1}
theorem ev_callF {di : DefItem} {npos pos : Pos} {e : Expr} {es : List Expr} {ds : List D} {d : D} (hd : di ∈ W.defs) (hnd : di.params.defaults = []) (y : Evs W n env X Z T ρ (e :: es) ds T1) (fn : Fn W n di.name ds d)
    (hx : env.kindOf di.name = some .globalImplicit := by rfl) (hdb : (di.name == ("__debug__" : Str)) = false := by decide)
    (he : starEach (e :: es) env = (false, eval e env) :: starEach es env := by rfl)
    (hc : eval (.Call (.Name di.name npos) (e :: es) [] pos) env = (do callWith pos (← eval (.Name di.name npos) env) [] (backTo pos (starEach (e :: es) env)) (backToKw pos (keywordEach [] env))) := by rfl) :
    Ev W n env X Z T ρ (.Call (.Name di.name npos) (e :: es) [] pos) d T1 := .mk fun A s Q E r L h => by
  obtain ⟨a', c', o, pm, doc, _, _, h1, ho, hdat, hcd⟩ := (W.glob.made di hd).plain hnd
  refine Call_ (Name_function_global L.kind hx (loadGlobal_global (by rw [L.gl]; exact L.glob.g) h1 ?_) hdb) hc
  refine callWith_def hdat (y.run A s pos _ E r L fun vs h2 tk2 a2 t2 q2 => ⟨(L.next a2 t2).base _ _ ho, ?_⟩) he
  exact fn.run A _ X a' vs Q E r h1 (L.next a2 t2).base (L.next a2 t2).xt L.xb q2 fun v h3 tk3 k q => h v h3 tk3 (a2.trans (.of_keeps k)) (T1.st _ _ k t2) q
end
end Mine

end
-- part FW6
section
open PySem PySem.W PyProof.Rows PySem.Calls PySem.Spec
set_option maxRecDepth 20000
set_option linter.unusedVariables false
namespace Mine

abbrev KeepsBut (J : Addr → Prop) (h h' : Heap) : Prop := ∀ b o, ¬ J b → h.get? b = some o → h'.get? b = some o

/-- an iterator at I: J are the addresses that it turns -/
structure It (W : Wd) (target : Expr) (I : Addr) (J : Addr → Prop) (St : (Addr → Prop) → List D → Heap → Prop) : Prop where
  frame : ∀ X ds h h', (∀ b o, (J b ∨ ¬ X b) → h.get? b = some o → h'.get? b = some o) → St X ds h → St X ds h'
  grow : ∀ X X' ds h, (∀ a, X' a → (∃ o, h.get? a = some o) → X a ∨ J a) → (∀ a, J a → X' a) → St X ds h → St X' ds h
  live : ∀ X ds h, St X ds h → ∀ b, J b → ∃ o, h.get? b = some o
  item : ∀ (A : Around) X d ds (s : Shared) (Q : Option Value → Shared → Prop) (E : Value → Shared → Prop), A.handled = none → (∀ a, X a → ∃ o, s.heap.get? a = some o) → St X (d :: ds) s.heap →
    (∀ v h tk, (∀ (Q' : Unit → Shared → Prop) (E' : Value → Shared → Prop), (∀ h2, KeepsBut J s.heap h2 → Rep W X h2 v d → St X ds h2 → Q' () { s with heap := h2, toks := tk }) →
      wpAny W.M A (letOwnedTupleGo target (.ref I) v) Q' E' { s with heap := h, toks := tk }) → Q (some v) { s with heap := h, toks := tk }) → wpAny W.M A (pyNext (.ref I)) Q E s
  done : ∀ (A : Around) X (s : Shared) (Q : Option Value → Shared → Prop) (E : Value → Shared → Prop), A.handled = none → St X [] s.heap →
    (∀ h tk, KeepsBut J s.heap h → Q none { s with heap := h, toks := tk }) → wpAny W.M A (pyNext (.ref I)) Q E s
  self : ∀ (A : Around) X ds (s : Shared) (Q : Value → Shared → Prop) (E : Value → Shared → Prop), St X ds s.heap → Q (.ref I) s → wpAny W.M A (pyIter (.ref I)) Q E s

theorem Reps.drop {W : Wd} {X : Addr → Prop} {h : Heap} {vs : List Value} {ds : List D} (r : Reps W X h vs ds) : ∀ i, Reps W X h (vs.drop i) (ds.drop i) := by
  induction vs generalizing ds with
  | nil => intro i; cases r; simp; exact .nil
  | cons v vs ih =>
    intro i
    cases r with
    | cons a r =>
      cases i with
      | zero => exact .cons a r
      | succ i => simpa using ih r i

def StList (W : Wd) (I : Addr) (X : Addr → Prop) (ds : List D) (h : Heap) : Prop :=
  X I ∧ ∃ l vs i, ¬ X l ∧ h.IsListIter I l i ∧ h.IsList l (List.toArray vs) ∧ Reps W X h (vs.drop i) ds
theorem it_list (W : Wd) (target : Expr) (I : Addr) : It W target I (· = I) (StList W I) where
  frame := fun X ds h h' k ⟨xi, l, vs, i, nl, hit, hl, r⟩ => ⟨xi, l, vs, i, nl, hit.at fun o e => k I o (.inl rfl) e, hl.at fun o e => k l o (.inr nl) e, r.up fun b o n e => k b o (.inr n) e⟩
  grow := fun X X' ds h hx hj ⟨xi, l, vs, i, nl, hit, hl, r⟩ => by
    refine ⟨hj _ rfl, l, vs, i, fun q => ?_, hit, hl, r.weak fun b q e => (hx b q e).elim id fun q => q ▸ xi⟩
    obtain ⟨o, e, _⟩ := hl
    exact (hx l q ⟨o, e⟩).elim nl fun q => nl (q ▸ xi)
  live := fun X ds h ⟨xi, l, vs, i, nl, ⟨o, e, _⟩, hl, r⟩ b hb => ⟨o, hb ▸ e⟩
  item := fun A X d ds s Q E hh xt ⟨xi, l, vs, i, nl, hit, hl, r⟩ h => by
    have ne : l ≠ I := fun e => nl (e ▸ xi)
    cases hd : vs.drop i with
    | nil => rw [hd] at r; cases r using Reps.consC
    | cons v rest =>
      rw [hd] at r
      cases r using Reps.consC with
      | cons a r =>
        have hv : vs[i]? = some v := by have := congrArg (·[0]?) hd; simpa using this
        have hr : vs.drop (i + 1) = rest := by have := congrArg List.tail hd; simpa using this
        refine wpAny_pyNext_list_item hit hl (x := v) (by simpa using hv) fun h' hit' hs' => ?_
        have k : ∀ b o, b ≠ I → s.heap.get? b = some o → h'.get? b = some o := fun b o n e => (hs'.2 b n).trans e
        refine h v h' s.toks fun Q' E' q => letGo_listiter hit' (q h' k (a.up fun b o n e => k b o (fun e' => n (e' ▸ xi)) e) ⟨xi, l, vs, i + 1, nl, hit', hl.at fun o e => k l o ne e, ?_⟩)
        rw [hr]; exact r.up fun b o n e => k b o (fun e' => n (e' ▸ xi)) e
  done := fun A X s Q E hh ⟨xi, l, vs, i, nl, hit, hl, r⟩ h => by
    have hd : vs.drop i = [] := by cases hd : vs.drop i with | nil => rfl | cons _ _ => rw [hd] at r; cases r using Reps.nilC
    refine wpAny_pyNext_list_end hh hit hl (by simpa using List.drop_eq_nil_iff.mp hd) fun h' he' => h h' s.toks fun b o n e => he' b o n e
  self := fun A X ds s Q E ⟨xi, l, vs, i, nl, hit, hl, r⟩ h => wpAny_pyIter_listiter hit h

theorem isTup_isTuple {h : Heap} {a : Addr} {items : Array Value} (t : IsTup h a items) : h.IsTuple a items := t

def StTup (W : Wd) (I : Addr) (X : Addr → Prop) (ds : List D) (h : Heap) : Prop :=
  X I ∧ ∃ l vs i, ¬ X l ∧ h.IsTupleIter I l i ∧ h.IsTuple l (List.toArray vs) ∧ Reps W X h (vs.drop i) ds
theorem it_tup (W : Wd) (target : Expr) (I : Addr) : It W target I (· = I) (StTup W I) where
  frame := fun X ds h h' k ⟨xi, l, vs, i, nl, hit, hl, r⟩ => ⟨xi, l, vs, i, nl, hit.at fun o e => k I o (.inl rfl) e, hl.at fun o e => k l o (.inr nl) e, r.up fun b o n e => k b o (.inr n) e⟩
  grow := fun X X' ds h hx hj ⟨xi, l, vs, i, nl, hit, hl, r⟩ => by
    refine ⟨hj _ rfl, l, vs, i, fun q => ?_, hit, hl, r.weak fun b q e => (hx b q e).elim id fun q => q ▸ xi⟩
    obtain ⟨o, e, _⟩ := hl
    exact (hx l q ⟨o, e⟩).elim nl fun q => nl (q ▸ xi)
  live := fun X ds h ⟨xi, l, vs, i, nl, ⟨o, e, _⟩, hl, r⟩ b hb => ⟨o, hb ▸ e⟩
  item := fun A X d ds s Q E hh xt ⟨xi, l, vs, i, nl, hit, hl, r⟩ h => by
    have ne : l ≠ I := fun e => nl (e ▸ xi)
    cases hd : vs.drop i with
    | nil => rw [hd] at r; cases r using Reps.consC
    | cons v rest =>
      rw [hd] at r
      cases r using Reps.consC with
      | cons a r =>
        have hv : vs[i]? = some v := by have := congrArg (·[0]?) hd; simpa using this
        have hr : vs.drop (i + 1) = rest := by have := congrArg List.tail hd; simpa using this
        refine wpAny_pyNext_tuple_item hit hl (x := v) (by simpa using hv) fun h' hit' hs' => ?_
        have k : ∀ b o, b ≠ I → s.heap.get? b = some o → h'.get? b = some o := fun b o n e => (hs'.2 b n).trans e
        refine h v h' s.toks fun Q' E' q => letGo_tupleiter hit' (q h' k (a.up fun b o n e => k b o (fun e' => n (e' ▸ xi)) e) ⟨xi, l, vs, i + 1, nl, hit', hl.at fun o e => k l o ne e, ?_⟩)
        rw [hr]; exact r.up fun b o n e => k b o (fun e' => n (e' ▸ xi)) e
  done := fun A X s Q E hh ⟨xi, l, vs, i, nl, hit, hl, r⟩ h => by
    have hd : vs.drop i = [] := by cases hd : vs.drop i with | nil => rfl | cons _ _ => rw [hd] at r; cases r using Reps.nilC
    refine wpAny_pyNext_tuple_end hh hit hl (by simpa using List.drop_eq_nil_iff.mp hd) fun h' he' => h h' s.toks fun b o n e => he' b o n e
  self := fun A X ds s Q E ⟨xi, l, vs, i, nl, hit, hl, r⟩ h => wpAny_pyIter_tupleiter hit h

def runs (a c : Int) : Nat → List D
  | 0 => []
  | n + 1 => .int a :: runs (a + c) c n
def StRng (c : Int) (I : Addr) (X : Addr → Prop) (ds : List D) (h : Heap) : Prop := X I ∧ ∃ (a : Int) (n : Nat), ds = runs a c n ∧ IsRangeIter h I a (n : Int) c
theorem letGo_rangeiter {prog : Program} {w : World} {A : Around} {E : Value → Shared → Prop} {target : Expr} {I : Addr} {a b c : Int} {v : Value} {Q' : Unit → Shared → Prop} {s' : Shared} (hit : IsRangeIter s'.heap I a b c) (h : Q' () s') :
    wpAny (model prog w) A (letOwnedTupleGo target (.ref I) v) Q' E s' := by
  unfold letOwnedTupleGo
  cases target <;> first
    | exact wpAny_pure h
    | (cases v <;> first
        | exact wpAny_pure h
        | (refine wpAny_bind (wpAny_load hit ?_)
           exact wpAny_pure h))
theorem it_rng (W : Wd) (target : Expr) (I : Addr) (c : Int) : It W target I (· = I) (StRng c I) where
  frame := fun X ds h h' k ⟨xi, a, n, e, hit⟩ => ⟨xi, a, n, e, k I _ (.inl rfl) hit⟩
  grow := fun X X' ds h hx hj ⟨xi, a, n, e, hit⟩ => ⟨hj _ rfl, a, n, e, hit⟩
  live := fun X ds h ⟨xi, a, n, e, hit⟩ b hb => ⟨_, hb ▸ hit⟩
  item := fun A X d ds s Q E hh xt ⟨xi, a, n, e, hit⟩ h => by
    cases n with
    | zero => cases e
    | succ n =>
      cases e
      refine wpAny_pyNext_range_item hit (by omega) fun h' hit' hs' => ?_
      have e2 : ((n + 1 : Nat) : Int) - 1 = (n : Int) := by omega
      rw [e2] at hit'
      exact h _ h' _ fun Q' E' q => letGo_rangeiter hit' (q h' (fun b o n e => (hs'.2 b n).trans e) (.int _ _) ⟨xi, a + c, n, rfl, hit'⟩)
  done := fun A X s Q E hh ⟨xi, a, n, e, hit⟩ h => by
    cases n with
    | succ n => cases e
    | zero => exact wpAny_pyNext_range_end hh hit (by simp) fun h' he' => h h' s.toks fun b o n e => he' b o n e
  self := fun A X ds s Q E ⟨xi, a, n, e, hit⟩ h => wpAny_pyIter_rangeiter hit h

def enums : Nat → List D → List D
  | _, [] => []
  | i, d :: ds => .tup [.int i, d] :: enums (i + 1) ds
def StEnum (W : Wd) (I i0 : Addr) (X : Addr → Prop) (ds : List D) (h : Heap) : Prop :=
  X I ∧ X i0 ∧ I ≠ i0 ∧ ∃ l vs i ds' old, ds = enums i ds' ∧ ¬ X l ∧ IsEnum h I i0 ((i : Nat) : Int) old ∧ h.IsListIter i0 l i ∧ h.IsList l (List.toArray vs) ∧ Reps W X h (vs.drop i) ds'
theorem it_enum (W : Wd) (es : List Expr) (k : Nat) (pos : Pos) (I i0 : Addr) : It W (.Tuple es k pos) I (fun b => b = I ∨ b = i0) (StEnum W I i0) where
  frame := fun X ds h h' k ⟨xi, x0, ne, l, vs, i, ds', old, e, nl, he, hit, hl, r⟩ => ⟨xi, x0, ne, l, vs, i, ds', old, e, nl, k I _ (.inl (.inl rfl)) he, hit.at fun o e => k i0 o (.inl (.inr rfl)) e, hl.at fun o e => k l o (.inr nl) e, r.up fun b o n e => k b o (.inr n) e⟩
  grow := fun X X' ds h hx hj ⟨xi, x0, ne, l, vs, i, ds', old, e, nl, he, hit, hl, r⟩ => by
    have hx' : ∀ b, X' b → (∃ o, h.get? b = some o) → X b := fun b q e => (hx b q e).elim id fun q => by rcases q with rfl | rfl <;> assumption
    refine ⟨hj _ (.inl rfl), hj _ (.inr rfl), ne, l, vs, i, ds', old, e, fun q => ?_, he, hit, hl, r.weak hx'⟩
    obtain ⟨o, e, _⟩ := hl
    exact nl (hx' l q ⟨o, e⟩)
  live := fun X ds h ⟨xi, x0, ne, l, vs, i, ds', old, e, nl, he, ⟨o, hit, _⟩, hl, r⟩ b hb => by
    rcases hb with rfl | rfl
    · exact ⟨_, he⟩
    · exact ⟨_, hit⟩
  item := fun A X d ds s Q E hh xt ⟨xi, x0, ne, l, vs, i, ds', old, e, nl, he, hit, hl, r⟩ h => by
    cases ds' with
    | nil => cases e
    | cons d' ds' =>
      cases e
      cases hd : vs.drop i with
      | nil => rw [hd] at r; cases r using Reps.consC
      | cons v rest =>
        rw [hd] at r
        cases r using Reps.consC with
        | cons a r =>
          have hv : vs[i]? = some v := by have := congrArg (·[0]?) hd; simpa using this
          have hr : vs.drop (i + 1) = rest := by have := congrArg List.tail hd; simpa using this
          refine wpAny_pyNext_enum_item he hit hl (x := v) (by simpa using hv) ne fun h1 ho hit1 hT hsz k1 => ?_
          refine h _ h1 _ fun Q' E' q => wpAny_letOwnedTupleGo_enum ho fun h2 he2 hs2 => ?_
          have k : KeepsBut (fun b => b = I ∨ b = i0) s.heap h2 := fun b o n e => (hs2.2 b fun e' => n (.inl e')).trans (k1 b o (fun e' => n (.inl e')) (fun e' => n (.inr e')) e)
          have kx : ∀ b o, ¬ X b → s.heap.get? b = some o → h2.get? b = some o := fun b o n e => k b o (by rintro (rfl | rfl) <;> exact n (by assumption)) e
          have xs : ¬ X s.heap.objs.size := fun x => let ⟨_, e⟩ := xt _ x; Nat.lt_irrefl _ (Heap.lt_size e)
          have hT2 : h2.get? s.heap.objs.size = some { cls := .type "tuple", data := .seq #[.int i s.toks, v] } := (hs2.2 _ fun e' => Nat.lt_irrefl _ (Heap.lt_size (e' ▸ he))).trans hT
          refine q h2 k (.tup (vs := [.int i s.toks, v]) xs ⟨_, hT2, rfl, _, rfl⟩ (.cons (.int _ _) (.cons (a.up kx) .nil))) ⟨xi, x0, ne, l, vs, i + 1, ds', v, rfl, nl, ?_, hit1.at fun o e => (hs2.2 i0 ne.symm).trans e, hl.at fun o e => kx l o nl e, ?_⟩
          · have e3 : ((i + 1 : Nat) : Int) = (i : Int) + 1 := by omega
            rw [e3]; exact he2
          · rw [hr]; exact r.up kx
  done := fun A X s Q E hh ⟨xi, x0, ne, l, vs, i, ds', old, e, nl, he, hit, hl, r⟩ h => by
    cases ds' with
    | cons _ _ => cases e
    | nil =>
      have hd : vs.drop i = [] := by cases hd : vs.drop i with | nil => rfl | cons _ _ => rw [hd] at r; cases r using Reps.nilC
      exact wpAny_pyNext_enum_end hh he hit hl (by simpa using List.drop_eq_nil_iff.mp hd) fun h' he' => h h' s.toks fun b o n e => he' b o (fun e' => n (.inr e')) e
  self := fun A X ds s Q E ⟨xi, x0, ne, l, vs, i, ds', old, e, nl, he, hit, hl, r⟩ h => wpAny_pyIter_enum he h

/-- an expression is evaluated and iterated over -/
structure EvIt (W : Wd) (n : Nat) {V : Addr → Prop} (env : Env) (X Z : Addr → Prop) (T : HP V) (ρ : Env1) (target e : Expr) (ds : List D) (T' : HP V) : Prop where
  run : ∀ (A : Around) (s : Shared) (Q : Value → Shared → Prop) (E : Value → Shared → Prop), Room n A → Look W env X Z T ρ s.heap →
    (∀ I J St h1 h tk, It W target I J St → Aft Z s.heap h1 → T'.P h1 → Keeps h1 h → (∀ b, J b → h1.get? b = none) → St (fun b => X b ∨ J b) ds h → Q (.ref I) { s with heap := h, toks := tk }) →
    wpAny W.M A (eval e env) (fun x s₁ => wpAny W.M A (pyIter x) Q E s₁) E s

section
variable {W : Wd} {n : Nat} {env : Env} {X Z : Addr → Prop} {V : Addr → Prop} {T T' T1 T2 T3 : HP V} {ρ : Env1} {target : Expr}
theorem Aft.none {h h' : Heap} (a : Aft Z h h') {b : Addr} (e : h'.get? b = none) : h.get? b = none := by
  cases q : h.get? b with
  | none => rfl
  | some o => obtain ⟨o', e'⟩ := a.there b ⟨o, q⟩; rw [e] at e'; cases e'
theorem size_none (h : Heap) : h.get? h.objs.size = none := by
  cases q : h.get? h.objs.size with
  | none => rfl
  | some o => exact absurd (Heap.lt_size q) (Nat.lt_irrefl _)
theorem evit_lst {e : Expr} {ds : List D} (x : Ev W n env X Z T ρ e (.lst ds) T1) : EvIt W n env X Z T ρ target e ds T1 := .mk fun A s Q E r L h =>
  x.run A s _ E r L fun v h1 tk a t q => by
    cases q using Rep.lstC with
    | @lst l vs nl hl rs =>
      have hl := hl.isList
      refine wpAny_pyIter_list hl ?_
      have k := keeps_push h1 { cls := .type "list_iterator", data := .fields #[.ref l, .int 0 0] }
      refine h _ _ _ h1 _ tk (it_list W target h1.objs.size) a t k (fun b hb => hb ▸ size_none h1) ⟨.inr rfl, l, vs, 0, ?_, ⟨_, Heap.get?_push_size _ rfl, rfl, rfl⟩, hl.at fun o e => k l o e, ?_⟩
      · rintro (q | rfl)
        · exact nl q
        · obtain ⟨o, e, _⟩ := hl; exact Nat.lt_irrefl _ (Heap.lt_size e)
      · exact (rs.weak (Y := fun b => X b ∨ b = h1.objs.size) fun b q ⟨o, e⟩ => q.elim id fun q => absurd (Heap.lt_size e) (by rw [q]; exact Nat.lt_irrefl _)).up fun b o _ e => k b o e
theorem evit_tup {e : Expr} {ds : List D} (x : Ev W n env X Z T ρ e (.tup ds) T1) : EvIt W n env X Z T ρ target e ds T1 := .mk fun A s Q E r L h =>
  x.run A s _ E r L fun v h1 tk a t q => by
    cases q using Rep.tupC with
    | @tup l vs nl hl rs =>
      refine wpAny_pyIter_tuple hl ?_
      have k := keeps_push h1 { cls := .type "tuple_iterator", data := .fields #[.ref l, .int 0 0] }
      refine h _ _ _ h1 _ tk (it_tup W target h1.objs.size) a t k (fun b hb => hb ▸ size_none h1) ⟨.inr rfl, l, vs, 0, ?_, ⟨_, Heap.get?_push_size _ rfl, rfl, rfl⟩, isTup_at hl fun o e => k l o e, ?_⟩
      · rintro (q | rfl)
        · exact nl q
        · obtain ⟨o, e, _⟩ := hl; exact Nat.lt_irrefl _ (Heap.lt_size e)
      · exact (rs.weak (Y := fun b => X b ∨ b = h1.objs.size) fun b q ⟨o, e⟩ => q.elim id fun q => absurd (Heap.lt_size e) (by rw [q]; exact Nat.lt_irrefl _)).up fun b o _ e => k b o e
end
end Mine

end
-- part FW7
section
open PySem PySem.W PyProof.Rows PySem.Calls PySem.Spec
set_option maxRecDepth 20000
set_option linter.unusedVariables false
namespace Mine

section
variable {W : Wd} {n : Nat} {env : Env} {X Z : Addr → Prop} {V : Addr → Prop} {T T' T1 T2 T3 : HP V} {ρ : Env1} {target : Expr}
theorem wp_callT {x : Str} {npos pos : Pos} {id : String} {e : Expr} {es : List Expr} {ds : List D} (y : Evs W n env X Z T ρ (e :: es) ds T1) (hf : x ∉ W.names) (hv : bootBuiltins x = some (.type id))
    {A : Around} {s : Shared} {Q : Value → Shared → Prop} {E : Value → Shared → Prop} (r : Room n A) (L : Look W env X Z T ρ s.heap)
    (o : ∀ vs h tk, Aft Z s.heap h → T1.P h → Reps W X h vs ds → wpAny W.M A (call (.type id) vs) Q E { s with heap := h, toks := tk })
    (hx : env.kindOf x = some .globalImplicit := by rfl) (hb : x ∉ bootMainNames := by decide) (hn : x ≠ "__name__" := by decide) (hd : (x == ("__debug__" : Str)) = false := by decide)
    (he : starEach (e :: es) env = (false, eval e env) :: starEach es env := by rfl) (hp : (backTo pos (starEach es env)).any (·.1) = false := by rfl)
    (hc : eval (.Call (.Name x npos) (e :: es) [] pos) env = (do callWith pos (← eval (.Name x npos) env) [] (backTo pos (starEach (e :: es) env)) (backToKw pos (keywordEach [] env))) := by rfl) :
    wpAny W.M A (eval (.Call (.Name x npos) (e :: es) [] pos) env) Q E s :=
  Call_ (wp_builtin L (by
    have y' := y.run A s pos (fun vs s₁ => wpAny W.M A (call (.type id) vs) Q E s₁) E r L fun vs h1 tk a t q => o vs h1 tk a t q
    rw [he] at y' ⊢
    exact PySem.callWith_type (by show (false || (backTo pos (starEach es env)).any (·.1)) = false; rw [hp]; rfl) (evalArgs_plain y')) hf hx hv hb hn hd) hc

theorem rangeSize_nat (n : Nat) : Builtin.Range.rangeSize 0 (n : Int) 1 = (n : Int) := by rw [rangeSize_one]; split <;> omega
theorem evit_range {npos pos : Pos} {e : Expr} {m : Nat} (y : Evs W n env X Z T ρ [e] [.int m] T1) (hf : ("range" : Str) ∉ W.names) (hm : m < 1000)
    (hx : env.kindOf "range" = some .globalImplicit := by rfl) (he : starEach [e] env = (false, eval e env) :: starEach [] env := by rfl)
    (hc : eval (.Call (.Name "range" npos) [e] [] pos) env = (do callWith pos (← eval (.Name "range" npos) env) [] (backTo pos (starEach [e] env)) (backToKw pos (keywordEach [] env))) := by rfl) :
    EvIt W n env X Z T ρ target (.Call (.Name "range" npos) [e] [] pos) (runs 0 1 m) T1 := .mk fun A s Q E r L h =>
  wp_callT (id := "range") y hf rfl r L (he := he) (hc := hc) (hx := hx) fun vs h1 tk a t q => by
    cases q using Reps.consC with
    | cons q q' =>
      cases q' using Reps.nilC
      cases q using Rep.intC with
      | int u =>
        refine call_range_1 ?_
        refine wpAny_pyIter_range (IsRange.new ..) (small_one (by omega) (by omega) (by omega) (by omega)) ?_
        rw [rangeSize_nat]
        have k : Keeps h1 ((h1.push { cls := .type "range", data := .fields #[.int 0 tk, .int m u, .int 1 (tk + 1)] }).push { cls := .type "range_iterator", data := .fields #[rawInt 0, rawInt (m : Int), rawInt 1] }) := (keeps_push _ _).trans (keeps_push _ _)
        refine h _ _ _ h1 _ _ (it_rng W target _ 1) a t k (fun b hb => ?_) ⟨.inr rfl, 0, m, rfl, ?_⟩
        · subst hb
          refine Heap.get?_none_of_le ?_
          show h1.objs.size ≤ (h1.push _).objs.size
          rw [Heap.size_push]; omega
        · exact Heap.get?_push_size _ rfl
theorem evit_down {npos pos : Pos} {e1 e2 e3 : Expr} {m : Nat} (y : Evs W n env X Z T ρ [e1, e2, e3] [.int m, .int (-1), .int (-1)] T1) (hf : ("range" : Str) ∉ W.names) (hm : m < 1000)
    (hx : env.kindOf "range" = some .globalImplicit := by rfl) (he : starEach [e1, e2, e3] env = (false, eval e1 env) :: starEach [e2, e3] env := by rfl) (hp : (backTo pos (starEach [e2, e3] env)).any (·.1) = false := by rfl)
    (hc : eval (.Call (.Name "range" npos) [e1, e2, e3] [] pos) env = (do callWith pos (← eval (.Name "range" npos) env) [] (backTo pos (starEach [e1, e2, e3] env)) (backToKw pos (keywordEach [] env))) := by rfl) :
    EvIt W n env X Z T ρ target (.Call (.Name "range" npos) [e1, e2, e3] [] pos) (runs m (-1) (m + 1)) T1 := .mk fun A s Q E r L h =>
  wp_callT (id := "range") y hf rfl r L (he := he) (hp := hp) (hc := hc) (hx := hx) fun vs h1 tk a t q => by
    cases q using Reps.consC with
    | cons q q' =>
      cases q' using Reps.consC with
      | cons q2 q' =>
        cases q' using Reps.consC with
        | cons q3 q' =>
          cases q' using Reps.nilC
          cases q using Rep.intC with
          | int u =>
            cases q2 using Rep.intC with
            | int u2 =>
              cases q3 using Rep.intC with
              | int u3 =>
                refine call_range_3 (by decide) ?_
                have e0 : Builtin.Range.rangeSize (m : Int) (-1) (-1) = ((m + 1 : Nat) : Int) := by
                  unfold Builtin.Range.rangeSize
                  have h1 : ¬ ((-1 : Int) > 0) := by omega
                  simp only [h1, if_false]
                  split
                  · have : ((m : Int) - (-1) - 1) / (-(-1)) = (m : Int) := by rw [show (-(-1) : Int) = 1 from rfl, Int.ediv_one]; omega
                    omega
                  · omega
                refine wpAny_pyIter_range (IsRange.new ..) (by
                  unfold Builtin.Range.small
                  rw [e0]
                  simp only [Builtin.Range.rangeFitsLong, Bool.and_eq_true, Bool.or_eq_true, decide_eq_true_eq, beq_iff_eq, show ¬ ((-1 : Int) > 0) by decide, if_false]
                  omega) ?_
                rw [e0]
                have k : Keeps h1 ((h1.push { cls := .type "range", data := .fields #[.int m u, .int (-1) u2, .int (-1) u3] }).push { cls := .type "range_iterator", data := .fields #[rawInt m, rawInt ((m + 1 : Nat) : Int), rawInt (-1)] }) := (keeps_push _ _).trans (keeps_push _ _)
                refine h _ _ _ h1 _ _ (it_rng W target _ (-1)) a t k (fun b hb => ?_) ⟨.inr rfl, m, m + 1, rfl, ?_⟩
                · subst hb
                  refine Heap.get?_none_of_le ?_
                  show h1.objs.size ≤ (h1.push _).objs.size
                  rw [Heap.size_push]; omega
                · exact Heap.get?_push_size _ rfl
theorem evit_enum {npos pos : Pos} {es : List Expr} {kk : Nat} {tpos : Pos} {e : Expr} {ds : List D} (y : Evs W n env X Z T ρ [e] [.lst ds] T1) (hf : ("enumerate" : Str) ∉ W.names)
    (hx : env.kindOf "enumerate" = some .globalImplicit := by rfl) (he : starEach [e] env = (false, eval e env) :: starEach [] env := by rfl)
    (hc : eval (.Call (.Name "enumerate" npos) [e] [] pos) env = (do callWith pos (← eval (.Name "enumerate" npos) env) [] (backTo pos (starEach [e] env)) (backToKw pos (keywordEach [] env))) := by rfl) :
    EvIt W n env X Z T ρ (.Tuple es kk tpos) (.Call (.Name "enumerate" npos) [e] [] pos) (enums 0 ds) T1 := .mk fun A s Q E r L h =>
  wp_callT (id := "enumerate") y hf rfl r L (he := he) (hc := hc) (hx := hx) fun vs h1 tk a t q => by
    cases q using Reps.consC with
    | cons q q' =>
      cases q' using Reps.nilC
      cases q using Rep.lstC with
      | @lst l vs nl hl rs =>
        have hl := hl.isList
        refine call_enumerate_list hl fun h2 he2 hit2 hsz k => wpAny_pyIter_enum he2 ?_
        have n0 : ∀ b, b = h1.objs.size + 1 ∨ b = h1.objs.size → h1.get? b = none := fun b q => Heap.get?_none_of_le (by rcases q with rfl | rfl <;> omega)
        refine h _ _ _ h1 _ _ (it_enum W es kk tpos (h1.objs.size + 1) h1.objs.size) a t k n0 ⟨.inr (.inl rfl), .inr (.inr rfl), Nat.succ_ne_self _, l, vs, 0, ds, _, rfl, ?_, he2, hit2, hl.at fun o e => k l o e, ?_⟩
        · rintro (q | q)
          · exact nl q
          · obtain ⟨o, e, _⟩ := hl; rw [n0 _ q] at e; cases e
        · exact (rs.weak (Y := fun b => X b ∨ (b = h1.objs.size + 1 ∨ b = h1.objs.size)) fun b q ⟨o, e⟩ => q.elim id fun q => by rw [n0 b q] at e; cases e).up fun b o _ e => k b o e
end

-- targets
inductive Binds (env : Env) : Expr → D → Env1 → Env1 → Prop
  | name {x : Str} {p : Pos} {d : D} {ρ : Env1} : (env.kindOf x = some .local ∨ env.kindOf x = some .cell) → Binds env (.Name x p) d ρ ((x, d) :: ρ)
  | tup {es : List Expr} {k : Nat} {p : Pos} {xs : List Str} {ds : List D} {ρ : Env1} : Tgts env es xs → (assignEach es env).length = ds.length → es.length = ds.length → (assignEach es env).findIdx? (·.1) = none → Binds env (.Tuple es k p) (.tup ds) ρ (zipIn xs ds ρ)

section
variable {W : Wd} {n : Nat} {env : Env} {Z : Addr → Prop} {T T' T1 T2 T3 : TT (Vof env)} {ρ ρ' ρ1 : Env1}
theorem wp_assign {A : Around} {hb : Heap} {Y : Addr → Prop} {S : Sp} {E : Value → Shared → Prop} {target : Expr} {v : Value} {d : D} {s : Shared} {Q : Unit → Shared → Prop} (hh : A.handled = none) (b : Binds env target d ρ ρ1) (f : Fm W env hb Y Z S T ρ s.heap) (r : Rep W S.X s.heap v d)
    (h : ∀ h' tk, AftS S S s.heap h' → Fm W env hb Y Z S T ρ1 h' → Q () { s with heap := h', toks := tk }) : wpAny W.M A (assign target env v) Q E s := by
  cases b with
  | name hx => exact wpAny_assign_Name (wp_store f r hx h)
  | tup ht hl hl2 hst => exact wp_unpack hh ht hl hl2 hst f r h

abbrev EvItS (W : Wd) (n : Nat) (env : Env) (Z : Addr → Prop) (T : TT (Vof env)) (ρ : Env1) (target e : Expr) (ds : List D) (T' : TT (Vof env)) : Prop := ∀ S : Sp, EvIt W n env S.X Z (T.at S) ρ target e ds (T'.at S)

/-- the turns of a for loop over the data that are left -/
inductive Turns (W : Wd) (n : Nat) (env : Env) (Z : Addr → Prop) (target : Expr) (body : List Stmt) : TT (Vof env) → Env1 → List D → Oc → TT (Vof env) → Prop
  | nil {T : TT (Vof env)} {ρ : Env1} : Turns W n env Z target body T ρ [] (.next ρ) T
  | next {T T1 T2 : TT (Vof env)} {ρ ρ0 ρ1 : Env1} {d : D} {ds : List D} {o : Oc} : Binds env target d ρ ρ0 → Ex W n env Z T ρ0 body (.next ρ1) T1 → Turns W n env Z target body T1 ρ1 ds o T2 → Turns W n env Z target body T ρ (d :: ds) o T2
  | cont {T T1 T2 : TT (Vof env)} {ρ ρ0 ρ1 : Env1} {d : D} {ds : List D} {o : Oc} : Binds env target d ρ ρ0 → Ex W n env Z T ρ0 body (.cont ρ1) T1 → Turns W n env Z target body T1 ρ1 ds o T2 → Turns W n env Z target body T ρ (d :: ds) o T2
  | ret {T T1 : TT (Vof env)} {ρ ρ0 : Env1} {d x : D} {ds : List D} : Binds env target d ρ ρ0 → Ex W n env Z T ρ0 body (.ret x) T1 → Turns W n env Z target body T ρ (d :: ds) (.ret x) T1

theorem Look.rex {V : Addr → Prop} {W : Wd} {env : Env} {X X' Z : Addr → Prop} {T T' : HP V} {ρ : Env1} {h : Heap} (L : Look W env X Z T ρ h) (t : T'.P h) (zx : ∀ a, Z a → X' a) (hx : ∀ a, X' a → (∃ o, h.get? a = some o) → X a) (xt : ∀ a, X' a → ∃ o, h.get? a = some o) : Look W env X' Z T' ρ h :=
  { L with
    vars := fun x d e => let ⟨v, a, r⟩ := L.vars x d e; ⟨v, a, r.weak hx⟩
    own := t
    zx := zx
    xb := fun a x => L.xb a (hx a x (xt a x))
    xt := xt }

/-- the same frame with other addresses barred -/
theorem Fm.rex {hb h : Heap} {Y : Addr → Prop} {S : Sp} {X' : Addr → Prop} (f : Fm W env hb Y Z S T ρ h) (mx : ∀ a, S.M a → X' a) (yx : ∀ a, Y a → X' a) (hx : ∀ a, X' a → (∃ o, h.get? a = some o) → S.X a) (xt : ∀ a, X' a → ∃ o, h.get? a = some o) :
    Fm W env hb Y Z ⟨S.M, X'⟩ T ρ h :=
  { f with
    look := f.look.rex (T.grow S X' h mx (fun a v => mx a (f.vm a v)) hx f.look.own) (fun a z => mx a (f.zm a z)) hx xt
    mx := mx
    yx := yx }
theorem Fm.turnJ {hb h h' : Heap} {Y J : Addr → Prop} {S : Sp} {X' : Addr → Prop} (f : Fm W env hb Y Z S T ρ h) (k : KeepsBut J h h') (jx : ∀ b, J b → S.X b ∧ ¬ S.M b) (jb : ∀ b, J b → hb.get? b = none)
    (hX : ∀ a, X' a → S.X a) (mx : ∀ a, S.M a → X' a) (yx : ∀ a, Y a → X' a) (xt : ∀ a, X' a → ∃ o, h'.get? a = some o) : Fm W env hb Y Z ⟨S.M, X'⟩ T ρ h' := by
  have jl : ¬ J env.locals := fun j => (jx _ j).2 (f.vm _ (.inl rfl))
  have jc : ∀ x c, env.cells.lookup x = some c → ¬ J c := fun x c e j => (jx _ j).2 (f.vm _ (.inr ⟨x, e⟩))
  have ku : ∀ b o, ¬ S.X b → h.get? b = some o → h'.get? b = some o := fun b o n e => k b o (fun j => n (jx b j).1) e
  exact {
    look := {
      base := fun b o e => k b o (fun j => by have := f.look.xb b (jx b j).1; rw [this] at e; cases e) (f.look.base b o e)
      vars := fun x d e => by
        obtain ⟨v, t, r⟩ := f.look.vars x d e
        refine ⟨v, ?_, (r.up ku).weak fun b q _ => hX b q⟩
        rcases t with ⟨k1, m, n, e⟩ | ⟨k1, c, e, i⟩
        · exact .inl ⟨k1, m, n.at' fun o e => k _ o jl e, e⟩
        · exact .inr ⟨k1, c, e, isCell_at i fun o e' => k _ o (jc x c e) e'⟩
      own := T.grow S X' h' mx (fun a v => mx a (f.vm a v)) (fun a q _ => hX a q) (T.turns S h h' (fun b o _ n e => k b o (fun j => n.elim (jx b j).2 fun n => n (jx b j).1) e) f.look.own)
      zx := fun a z => mx a (f.zm a z)
      xb := fun a q => f.look.xb a (hX a q)
      xt := xt
      zl := f.look.zl
      zc := f.look.zc
      kind := f.look.kind
      gl := f.look.gl
      bl := f.look.bl }
    keep := fun b o e => k b o (fun j => by have := jb b j; rw [this] at e; cases e) (f.keep b o e)
    ns := let ⟨m, e⟩ := f.ns; ⟨m, e.at' fun o q => k _ o jl q⟩
    cells := let ⟨cm, c⟩ := f.cells; ⟨cm, fun x b e => isCell_at (c.cell x b e) fun o q => k _ o (jc x b e) q, c.apart, c.above⟩
    cin := f.cin
    vm := f.vm
    mx := mx
    zm := f.zm
    yx := yx
    yh := f.yh
    mb := f.mb
    above := f.above }

theorem ex1_for {target iter : Expr} {body : List Stmt} {pos : Pos} {ds : List D} {o : Oc} (it : EvItS W n env Z T ρ target iter ds T1) (tn : Turns W n env Z target body T1 ρ ds o T2) (hs : ∀ x, foldedSetIterable iter env x = pure x := by intro _; rfl) :
    Ex1 W n env Z T ρ (.For target iter body [] pos) o T2 := .mk fun A hb Y S s Q E r f k => by
  refine wpAny_For ((it S).run A s _ E r f.look fun I J St h1 h0 tk0 IT a1 t1 k0 j1 st0 => ?_) hs
  have a0 : Aft Z s.heap h0 := a1.trans (.of_keeps k0)
  have j0 : ∀ b, J b → s.heap.get? b = none := fun b j => a1.none (j1 b j)
  have f0 : Fm W env hb Y Z S T1 ρ h0 := f.next a0 ((T1.at S).st _ _ k0 t1)
  have jn : ∀ b, J b → ¬ S.X b := fun b j x => by obtain ⟨o, e⟩ := f.look.xt b x; rw [j0 b j] at e; cases e
  have jm : ∀ b, J b → ¬ S.M b := fun b j m => jn b j (f.mx b m)
  have jb : ∀ b, J b → hb.get? b = none := fun b j => by
    cases e : hb.get? b with
    | none => rfl
    | some o => have := f.keep b o e; rw [j0 b j] at this; cases this
  have jbase : ∀ b, J b → W.base.get? b = none := fun b j => by
    cases e : W.base.get? b with
    | none => rfl
    | some o => have := f.look.base b o e; rw [j0 b j] at this; cases this
  have f1 : Fm W env hb Y Z ⟨S.M, fun b => S.X b ∨ J b⟩ T1 ρ h0 := {
    f0 with
    look := { f0.look with
      vars := fun x d e => by
        obtain ⟨v, t, r⟩ := f.look.vars x d e
        exact ⟨v, t.up a0 f.look.zl f.look.zc, (r.weak (Y := fun b => S.X b ∨ J b) fun b q ⟨o, e⟩ => q.elim id fun j => by rw [j0 b j] at e; cases e).up fun b o n e => a0.keep b o (fun z => n (.inl (f.look.zx b z))) e⟩
      own := (T1.at ⟨S.M, fun b => S.X b ∨ J b⟩).st _ _ k0 (T1.grow S _ h1 (fun a m => .inl (f.mx a m)) (fun a v => .inl (f.mx a (f.vm a v))) (fun a q ⟨o, e⟩ => q.elim id fun j => by rw [j1 a j] at e; cases e) t1)
      zx := fun a z => .inl (f.look.zx a z)
      xb := fun a q => q.elim (f.look.xb a) (jbase a)
      xt := fun a q => q.elim (f0.look.xt a) (IT.live _ _ _ st0 a) }
    mx := fun a m => .inl (f.mx a m)
    yx := fun a y => .inl (f.yx a y) }
  have b1 : AftS S ⟨S.M, fun b => S.X b ∨ J b⟩ s.heap h0 := ⟨fun b o n e => a0.keep b o (fun z => n (f.zm b z)) e, a0.there, fun _ q => .inl q, fun a q => q.elim .inl fun j => .inr (j0 a j), fun _ e => e, fun _ e => .inl e⟩
  obtain ⟨Q0, hQ⟩ : ∃ Q0 : Nat → Shared → Prop, ∀ k s', Q0 k s' ↔ ∃ S' h tk T' ρ' ds', s' = { s with heap := h, toks := tk } ∧ AftS S S' s.heap h ∧ Fm W env hb Y Z S' T' ρ' h ∧ St S'.X ds' h ∧ (∀ b, J b → S'.X b ∧ ¬ S'.M b) ∧ Turns W n env Z target body T' ρ' ds' o T2 ∧ k = ds'.length := ⟨_, fun _ _ => Iff.rfl⟩
  refine codeAny_forLoop_any Q0 ?_ ds.length ((hQ _ _).mpr ⟨_, h0, tk0, T1, ρ, ds, rfl, b1, f1, st0, fun b j => ⟨.inr j, jm b j⟩, tn, rfl⟩)
  intro kk s' hkk
  obtain ⟨S', h, tk, T', ρ', ds', rfl, b', f', st', jx, tn', rfl⟩ := (hQ _ _).mp hkk
  cases ds' with
  | nil =>
    cases tn' with
    | nil =>
      refine IT.done A _ _ _ _ r.1 st' fun h2 tk2 kb => wpAny_execs_nil ?_
      have xt' : ∀ a, (S'.X a ∧ ¬ J a) → ∃ o, h2.get? a = some o := fun a ⟨x, nj⟩ => let ⟨o, e⟩ := f'.look.xt a x; ⟨o, kb a o nj e⟩
      have f2 := f'.turnJ (X' := fun a => S'.X a ∧ ¬ J a) kb jx jb (fun a q => q.1) (fun a m => ⟨f'.mx a m, fun j => (jx a j).2 m⟩) (fun a y => ⟨f'.yx a y, fun j => jn a j (f.yx a y)⟩) xt'
      refine k ⟨S'.M, fun a => S'.X a ∧ ¬ J a⟩ h2 tk2 ⟨fun b o nm e => kb b o (fun j => by rw [j0 b j] at e; cases e) (b'.keep b o nm e), fun b e => ?_, fun a x => ⟨b'.xs a x, fun j => jn a j x⟩, fun a q => b'.xf a q.1, b'.ms, b'.mf⟩ f2
      obtain ⟨o, e'⟩ := b'.there b e
      obtain ⟨o2, e2⟩ := e
      exact ⟨o, kb b o (fun j => by rw [j0 b j] at e2; cases e2) e'⟩
  | cons d ds' =>
    refine IT.item A _ d ds' _ _ _ r.1 f'.look.xt st' fun v h1 tk1 q => ?_
    refine q _ _ fun h2 kb rv st2 => ?_
    have there2 : ∀ b, (∃ o, h.get? b = some o) → ∃ o, h2.get? b = some o := fun b ⟨o, e⟩ => by
      by_cases j : J b
      · exact IT.live _ _ _ st2 b j
      · exact ⟨o, kb b o j e⟩
    have f2 : Fm W env hb Y Z S' T' ρ' h2 := f'.turnJ (X' := S'.X) kb jx jb (fun _ q => q) f'.mx f'.yx (fun a x => there2 a (f'.look.xt a x))
    have b2 : AftS S S' s.heap h2 := ⟨fun b o nm e => kb b o (fun j => by rw [j0 b j] at e; cases e) (b'.keep b o nm e), fun b e => there2 b (b'.there b e), b'.xs, b'.xf, b'.ms, b'.mf⟩
    have stk : ∀ {S3 : Sp} {h3 : Heap}, AftS S' S3 h2 h3 → St S3.X ds' h3 := fun {S3 h3} a3 =>
      IT.frame _ _ _ _ (fun b o nb e => a3.keep b o (fun m => nb.elim (fun j => (jx b j).2 m) fun n => n (a3.xs b (f'.mx b m))) e)
        (IT.grow _ _ _ _ (fun a x ⟨o, e⟩ => (a3.xf a x).elim .inl fun q => by rw [q] at e; cases e) (fun a j => a3.xs a (jx a j).1) st2)
    have jx3 : ∀ {S3 : Sp} {h3 : Heap}, AftS S' S3 h2 h3 → ∀ b, J b → S3.X b ∧ ¬ S3.M b := fun {S3 h3} a3 b j => ⟨a3.xs b (jx b j).1, fun m => (a3.mf b m).elim (jx b j).2 fun q => by obtain ⟨o, e⟩ := IT.live _ _ _ st2 b j; rw [q] at e; cases e⟩
    cases tn' with
    | next bd ex tn2 =>
      refine wp_assign r.1 bd f2 rv fun h3 tk3 a3 f3 => ?_
      refine ex.run A hb Y S' _ _ _ r f3 fun S4 h4 tk4 a4 f4 => ?_
      have a34 := a3.trans a4
      exact ⟨_, Nat.lt_succ_self _, (hQ _ _).mpr ⟨S4, h4, tk4, _, _, ds', rfl, b2.trans a34, f4, stk a34, jx3 a34, tn2, rfl⟩⟩
    | cont bd ex tn2 =>
      refine wp_assign r.1 bd f2 rv fun h3 tk3 a3 f3 => ?_
      refine ex.run A hb Y S' _ _ _ r f3 fun S4 h4 tk4 a4 f4 => ?_
      have a34 := a3.trans a4
      exact ⟨_, Nat.lt_succ_self _, (hQ _ _).mpr ⟨S4, h4, tk4, _, _, ds', rfl, b2.trans a34, f4, stk a34, jx3 a34, tn2, rfl⟩⟩
    | ret bd ex =>
      refine wp_assign r.1 bd f2 rv fun h3 tk3 a3 f3 => ?_
      refine ex.run A hb Y S' _ _ _ r f3 fun S4 h4 tk4 v4 f4 q4 => ?_
      exact k S4 h4 tk4 v4 f4 q4
end
end Mine

end
-- part FW8
section
open PySem PySem.W PyProof.Rows PySem.Calls PySem.Spec
set_option maxRecDepth 20000
set_option linter.unusedVariables false
namespace Mine

/-- the state of a list comprehension: its own variables at cenv.locals, its list at acc; all that it turns is no address of g0 -/
structure Cs (W : Wd) (cenv : Env) (g0 : Heap) (Z F X : Addr → Prop) (U : HP (fun b => ¬ F b)) (ρ0 ρ : Env1) (acc : Addr) (es : List D) (h : Heap) : Prop where
  look : Look W cenv X Z U ρ h
  free : ∀ x d, ρ0.lookup x = some d → ∃ v c, (cenv.kindOf x = some .cell ∨ cenv.kindOf x = some .free) ∧ cenv.cells.lookup x = some c ∧ h.IsCell c (some v) ∧ Rep W X h v d
  ns : ∃ m, h.Ns cenv.locals m
  list : ∃ vs, h.PlainList acc (List.toArray vs) ∧ Reps W X h vs es
  gC : g0.get? cenv.locals = none
  gA : g0.get? acc = none
  ne : cenv.locals ≠ acc
  xC : X cenv.locals
  xA : X acc
  bg : Keeps W.base g0
  zg : ∀ a, Z a → g0.get? a ≠ none
  fg : ∀ a, F a → g0.get? a ≠ none
  cg : ∀ x c, cenv.cells.lookup x = some c → g0.get? c ≠ none

section
variable {W : Wd} {n : Nat} {cenv : Env} {g0 : Heap} {Z F X X' : Addr → Prop} {U U' U1 U2 U3 : HP (fun b => ¬ F b)} {ρ0 ρ ρ' ρ1 : Env1} {acc : Addr} {es es' : List D} {h h' : Heap}

theorem Cs.upd {K : Addr → Prop} (c : Cs W cenv g0 Z F X U ρ0 ρ acc es h) (k : KeepsBut K h h') (kx : ∀ b, K b → X b) (kg : ∀ b, K b → g0.get? b = none) (hX : ∀ a, X' a → X a) (zx : ∀ a, Z a → X' a)
    (xC : X' cenv.locals) (xA : X' acc) (xt : ∀ a, X' a → ∃ o, h'.get? a = some o) (ns : ∃ m, h'.Ns cenv.locals m) (vars : ∀ x d, ρ'.lookup x = some d → ∃ v, At cenv h' x v ∧ Rep W X' h' v d)
    (list : ∃ vs, h'.PlainList acc (List.toArray vs) ∧ Reps W X' h' vs es') : Cs W cenv g0 Z F X' U ρ0 ρ' acc es' h' where
  look := {
    base := fun b o e => k b o (fun q => by have := c.bg b o e; rw [kg b q] at this; cases this) (c.look.base b o e)
    vars := vars
    own := U.turns h h' (fun b o n e => k b o (fun q => n fun f => c.fg b f (kg b q)) e) c.look.own
    zx := zx
    xb := fun a x => c.look.xb a (hX a x)
    xt := xt
    zl := c.look.zl
    zc := c.look.zc
    kind := c.look.kind
    gl := c.look.gl
    bl := c.look.bl }
  free := fun x d e => let ⟨v, a, h1, h2, h3, h4⟩ := c.free x d e; ⟨v, a, h1, h2, isCell_at h3 fun o e => k a o (fun q => c.cg x a h2 (kg a q)) e, (h4.up fun b o n e => k b o (fun q => n (kx b q)) e).weak fun b q _ => hX b q⟩
  ns := ns
  list := list
  gC := c.gC
  gA := c.gA
  ne := c.ne
  xC := xC
  xA := xA
  bg := c.bg
  zg := c.zg
  fg := c.fg
  cg := c.cg

theorem Cs.vars0 (c : Cs W cenv g0 Z F X U ρ0 ρ acc es h) : ∀ x d, ρ0.lookup x = some d → ∃ v, At cenv h x v ∧ Rep W X h v d := fun x d e =>
  let ⟨v, a, h1, h2, h3, h4⟩ := c.free x d e; ⟨v, .inr ⟨h1, a, h2, h3⟩, h4⟩
theorem Cs.reset (c : Cs W cenv g0 Z F X U ρ0 ρ acc es h) : Cs W cenv g0 Z F X U ρ0 ρ0 acc es h := { c with look := { c.look with vars := c.vars0 } }
theorem Cs.next (c : Cs W cenv g0 Z F X U ρ0 ρ acc es h) (a : Aft Z h h') (t : U'.P h') : Cs W cenv g0 Z F X U' ρ0 ρ acc es h' where
  look := c.look.next a t
  free := fun x d e => let ⟨v, b, h1, h2, h3, h4⟩ := c.free x d e; ⟨v, b, h1, h2, isCell_at h3 fun o e => a.keep b o (c.look.zc x b h2) e, h4.up (a.up c.look.zx)⟩
  ns := let ⟨m, e⟩ := c.ns; ⟨m, e.at' fun o e => a.keep _ o c.look.zl e⟩
  list := let ⟨vs, l, r⟩ := c.list; ⟨vs, l.at fun o e => a.keep _ o (fun z => c.zg _ z c.gA) e, r.up (a.up c.look.zx)⟩
  gC := c.gC
  gA := c.gA
  ne := c.ne
  xC := c.xC
  xA := c.xA
  bg := c.bg
  zg := c.zg
  fg := c.fg
  cg := c.cg
/-- an iterator's own things turn, or are let go -/
theorem Cs.turnJ {J : Addr → Prop} (c : Cs W cenv g0 Z F X U ρ0 ρ acc es h) (k : KeepsBut J h h') (jx : ∀ b, J b → X b) (jg : ∀ b, J b → g0.get? b = none) (jC : ¬ J cenv.locals) (jA : ¬ J acc) (hX : ∀ a, X' a → X a) (zx : ∀ a, Z a → X' a)
    (xC : X' cenv.locals) (xA : X' acc) (xt : ∀ a, X' a → ∃ o, h'.get? a = some o) : Cs W cenv g0 Z F X' U ρ0 ρ acc es h' := by
  have ku : ∀ b o, ¬ X b → h.get? b = some o → h'.get? b = some o := fun b o n e => k b o (fun q => n (jx b q)) e
  refine c.upd k jx jg hX zx xC xA xt (let ⟨m, e⟩ := c.ns; ⟨m, e.at' fun o e => k _ o jC e⟩) (fun x d e => ?_) (let ⟨vs, l, r⟩ := c.list; ⟨vs, l.at fun o e => k _ o jA e, (r.up ku).weak fun b q _ => hX b q⟩)
  obtain ⟨v, t, r⟩ := c.look.vars x d e
  refine ⟨v, ?_, (r.up ku).weak fun b q _ => hX b q⟩
  rcases t with ⟨k1, m, n, e⟩ | ⟨k1, c', e, i⟩
  · exact .inl ⟨k1, m, n.at' fun o e => k _ o jC e, e⟩
  · exact .inr ⟨k1, c', e, isCell_at i fun o e' => k _ o (fun j => c.cg x c' e (jg c' j)) e'⟩

inductive TgtsL (env : Env) : List Expr → List Str → Prop
  | nil : TgtsL env [] []
  | cons {e : Expr} {x : Str} {p : Pos} {es : List Expr} {xs : List Str} : e = .Name x p → env.kindOf x = some .local → TgtsL env es xs → TgtsL env (e :: es) (x :: xs)
inductive BindL (env : Env) : Expr → D → Env1 → Env1 → Prop
  | name {x : Str} {p : Pos} {d : D} {ρ : Env1} : env.kindOf x = some .local → BindL env (.Name x p) d ρ ((x, d) :: ρ)
  | tup {es : List Expr} {k : Nat} {p : Pos} {xs : List Str} {ds : List D} {ρ : Env1} : TgtsL env es xs → (assignEach es env).length = ds.length → es.length = ds.length → (assignEach es env).findIdx? (·.1) = none → BindL env (.Tuple es k p) (.tup ds) ρ (zipIn xs ds ρ)

theorem wp_storeC {x : Str} {v : Value} {d : D} {A : Around} {s : Shared} {Q : Unit → Shared → Prop} {E : Value → Shared → Prop} (c : Cs W cenv g0 Z F X U ρ0 ρ acc es s.heap) (q : Rep W X s.heap v d)
    (hx : cenv.kindOf x = some .local) (h : ∀ h' tk, KeepsBut (· = cenv.locals) s.heap h' → Cs W cenv g0 Z F X U ρ0 ((x, d) :: ρ) acc es h' → Q () { s with heap := h', toks := tk }) : wpAny W.M A (storeName cenv x v) Q E s := by
  obtain ⟨m, hm⟩ := c.ns
  refine wpAny_storeName_local hx hm (fun h' hn hs => ?_) (by rw [c.look.kind]; rfl)
  have k : KeepsBut (· = cenv.locals) s.heap h' := fun b o n e => (hs.2 b n).trans e
  have ku : ∀ b o, ¬ X b → s.heap.get? b = some o → h'.get? b = some o := fun b o n e => k b o (fun e' => n (e' ▸ c.xC)) e
  refine h h' _ k (c.upd k (fun b e => e ▸ c.xC) (fun b e => e ▸ c.gC) (fun _ q => q) c.look.zx c.xC c.xA (fun a xa => ?_) ⟨_, hn⟩ (fun y d' e => ?_) (let ⟨vs, l, r⟩ := c.list; ⟨vs, l.at fun o e => k _ o c.ne.symm e, r.up ku⟩))
  · by_cases e : a = cenv.locals
    · obtain ⟨o', _, _, e', _⟩ := hn; exact ⟨o', e ▸ e'⟩
    · obtain ⟨o, e'⟩ := c.look.xt a xa; exact ⟨o, k a o e e'⟩
  · by_cases hy : y = x
    · subst hy
      simp only [List.lookup_cons, beq_self_eq_true] at e
      cases e
      exact ⟨v, .inl ⟨hx, _, hn, by simp⟩, q.up ku⟩
    · rw [List.lookup_cons, beq_eq_false_iff_ne.mpr hy] at e
      obtain ⟨v', t, r⟩ := c.look.vars y d' e
      refine ⟨v', ?_, r.up ku⟩
      rcases t with ⟨k1, m', n', e'⟩ | ⟨k1, c', e1, e2⟩
      · exact .inl ⟨k1, _, hn, by rw [if_neg hy, hm.agree n' y]; exact e'⟩
      · exact .inr ⟨k1, c', e1, isCell_at e2 fun o e => k c' o (fun q => c.cg y c' e1 (q ▸ c.gC)) e⟩
theorem KeepsBut.trans {K : Addr → Prop} {a b c : Heap} (x : KeepsBut K a b) (y : KeepsBut K b c) : KeepsBut K a c := fun d o n e => y d o n (x d o n e)

theorem wp_inOrderC {A : Around} {E : Value → Shared → Prop} {xes : List Expr} {xs : List Str} (hf : TgtsL cenv xes xs) : ∀ {vs : List Value} {ds : List D} {ρ : Env1} {s : Shared} {Q : Unit → Shared → Prop},
    xes.length = ds.length → Cs W cenv g0 Z F X U ρ0 ρ acc es s.heap → Reps W X s.heap vs ds →
    (∀ h' tk, KeepsBut (· = cenv.locals) s.heap h' → Cs W cenv g0 Z F X U ρ0 (zipIn xs ds ρ) acc es h' → Q () { s with heap := h', toks := tk }) → wpAny W.M A (assignInOrder ((assignEach xes cenv).map (·.2)) vs) Q E s := by
  induction hf with
  | nil =>
    intro vs ds ρ s Q hl f r h
    cases ds with
    | nil => cases r using Reps.nilC; exact assignInOrder_nil (h s.heap s.toks (fun _ _ _ e => e) f)
    | cons _ _ => simp at hl
  | @cons e x p xes xs he hx hf ih =>
    intro vs ds ρ s Q hl f r h
    subst he
    cases r with
    | nil => simp at hl
    | cons a r =>
      refine assignInOrder_cons (wpAny_assign_Name (wp_storeC f a hx fun h1 tk1 a1 f1 => ?_))
      exact ih (by simpa using hl) f1 (r.up fun b o n e => a1 b o (fun m => n (m ▸ f.xC)) e) fun h2 tk2 a2 f2 => h h2 tk2 (a1.trans a2) f2
theorem wp_assignC {A : Around} {E : Value → Shared → Prop} {target : Expr} {v : Value} {d : D} {s : Shared} {Q : Unit → Shared → Prop} (hh : A.handled = none) (b : BindL cenv target d ρ ρ1) (c : Cs W cenv g0 Z F X U ρ0 ρ acc es s.heap) (r : Rep W X s.heap v d)
    (h : ∀ h' tk, KeepsBut (· = cenv.locals) s.heap h' → Cs W cenv g0 Z F X U ρ0 ρ1 acc es h' → Q () { s with heap := h', toks := tk }) : wpAny W.M A (assign target cenv v) Q E s := by
  cases b with
  | name hx => exact wpAny_assign_Name (wp_storeC c r hx h)
  | tup ht hl hl2 hst =>
    cases r using Rep.tupC with
    | @tup a vs na htu rs =>
      refine assign_Tuple_tuple hh htu (by rw [hl, List.size_toArray, rs.length]) hst fun h1 he => ?_
      have k : Keeps s.heap h1 := fun b o e => he b o (Nat.ne_of_lt (Heap.lt_size e)) e
      have c1 : Cs W cenv g0 Z F X U ρ0 ρ acc es h1 := c.next (.of_keeps k) (U.st _ _ k c.look.own)
      exact wp_inOrderC (s := { s with heap := h1 }) ht hl2 c1 (rs.up fun b o _ e => k b o e) fun h2 tk2 a2 f2 => h h2 tk2 (fun b o n e => a2 b o n (k b o e)) f2

theorem wp_append {A : Around} {E : Value → Shared → Prop} {v : Value} {d : D} {s : Shared} {Q : Value → Shared → Prop} (c : Cs W cenv g0 Z F X U ρ0 ρ acc es s.heap) (r : Rep W X s.heap v d) (hl : es.length ≤ 1000)
    (h : ∀ h', KeepsBut (· = acc) s.heap h' → (∀ b, (∃ o, s.heap.get? b = some o) → ∃ o, h'.get? b = some o) → Cs W cenv g0 Z F X U ρ0 ρ0 acc (es ++ [d]) h' → Q .none { s with heap := h' }) : wpAny W.M A (call (.builtin "list.append") [.ref acc, v]) Q E s := by
  obtain ⟨vs, l, rs⟩ := c.list
  refine wpAny_list_append_plain l (fun h' hl' hs => ?_) (by rw [List.size_toArray, rs.length, sizeLine_eq]; omega)
  have k : KeepsBut (· = acc) s.heap h' := fun b o n e => (hs.2 b n).trans e
  have ku : ∀ b o, ¬ X b → s.heap.get? b = some o → h'.get? b = some o := fun b o n e => k b o (fun e' => n (e' ▸ c.xA)) e
  have th : ∀ b, (∃ o, s.heap.get? b = some o) → ∃ o, h'.get? b = some o := fun b ⟨o, e⟩ => by
    by_cases q : b = acc
    · obtain ⟨_, e'⟩ := hl'; exact ⟨_, q ▸ e'⟩
    · exact ⟨o, k b o q e⟩
  refine h h' k th (c.reset.upd k (fun b e => e ▸ c.xA) (fun b e => e ▸ c.gA) (fun _ q => q) c.look.zx c.xC c.xA (fun a xa => th a (c.look.xt a xa)) (let ⟨m, e⟩ := c.ns; ⟨m, e.at' fun o e => k _ o c.ne e⟩) (fun y d' e => ?_) ⟨vs ++ [v], by simpa using hl', (rs.up ku).snoc (r.up ku)⟩)
  obtain ⟨v', a, h1, h2, h3, h4⟩ := c.free y d' e
  exact ⟨v', .inr ⟨h1, a, h2, isCell_at h3 fun o e => k a o (fun q => c.cg y a h2 (q ▸ c.gA)) e⟩, h4.up ku⟩
end
end Mine

end
-- part FW9
section
open PySem PySem.W PyProof.Rows PySem.Calls PySem.Spec
set_option maxRecDepth 20000
set_option linter.unusedVariables false
namespace Mine

theorem compTurn_last {elt target iter : Expr} {ifs : List Expr} {gens : List Comprehension} {depth : Nat} (scope : Scope) (pos : Pos) (it acc : Value) (env : Env) (hg : gens[depth]? = some ⟨target, iter, ifs, 0⟩) (hn : gens[depth + 1]? = none) :
    compTurn (.ListComp elt gens scope pos) depth it acc env = (do
      standAt iter.pos
      match ← pyNext it with
      | none => pure (.done .next)
      | some v =>
        letOwnedTupleGo target it v
        assign target env v
        let mut ok := true
        for c in ifs do
          if ok then ok ← isTrue c env (eval c env)
        if ok then
          (do let _ ← call (.builtin "list.append") [acc, ← eval elt env])
        again (.compLoop (.ListComp elt gens scope pos) depth it acc env)) := by
  unfold compTurn
  simp only [hg, hn]
  rfl

theorem compTurn_more {elt target iter target2 iter2 : Expr} {ifs ifs2 : List Expr} {gens : List Comprehension} {depth : Nat} (scope : Scope) (pos : Pos) (it acc : Value) (env : Env) (hg : gens[depth]? = some ⟨target, iter, ifs, 0⟩) (hn : gens[depth + 1]? = some ⟨target2, iter2, ifs2, 0⟩) :
    compTurn (.ListComp elt gens scope pos) depth it acc env = (do
      standAt iter.pos
      match ← pyNext it with
      | none => pure (.done .next)
      | some v =>
        letOwnedTupleGo target it v
        assign target env v
        let mut ok := true
        for c in ifs do
          if ok then ok ← isTrue c env (eval c env)
        if ok then do
          let x ← eval iter2 env
          standAt iter2.pos
          let x ← foldedSetIterable iter2 env x
          let it2 ← holding [x] (pyIter x)
          let _ ← runOwn (.compStart (.ListComp elt gens scope pos) (depth + 1) it2 acc env) env
          again (.compLoop (.ListComp elt gens scope pos) depth it acc env)
        else again (.compLoop (.ListComp elt gens scope pos) depth it acc env)) := by
  unfold compTurn
  simp only [hg, hn]
  rfl

inductive CTest (W : Wd) (n : Nat) (cenv : Env) (Z F : Addr → Prop) : List Expr → Env1 → HP (fun b => ¬ F b) → Bool → HP (fun b => ¬ F b) → Prop
  | none {ρ : Env1} {U : HP (fun b => ¬ F b)} : CTest W n cenv Z F [] ρ U true U
  | one {ρ : Env1} {U U' : HP (fun b => ¬ F b)} {c : Expr} {b : Bool} : (∀ X, Tv W n cenv X Z U ρ c b U') → CTest W n cenv Z F [c] ρ U b U'
/-- the turns of a comprehension's last clause -/
inductive CTurns (W : Wd) (n : Nat) (cenv : Env) (Z F : Addr → Prop) (target : Expr) (ifs : List Expr) (elt : Expr) (ρ0 : Env1) : Env1 → HP (fun b => ¬ F b) → List D → List D → HP (fun b => ¬ F b) → Prop
  | nil {U : HP (fun b => ¬ F b)} {ρ : Env1} : CTurns W n cenv Z F target ifs elt ρ0 ρ U [] [] U
  | keep {U U1 U2 U3 : HP (fun b => ¬ F b)} {ρ ρ1 : Env1} {d e : D} {ds es : List D} : BindL cenv target d ρ ρ1 → CTest W n cenv Z F ifs ρ1 U true U1 → (∀ X, Ev W n cenv X Z U1 ρ1 elt e U2) → CTurns W n cenv Z F target ifs elt ρ0 ρ0 U2 ds es U3 →
      CTurns W n cenv Z F target ifs elt ρ0 ρ U (d :: ds) (e :: es) U3
  | skip {U U1 U2 : HP (fun b => ¬ F b)} {ρ ρ1 : Env1} {d : D} {ds es : List D} : BindL cenv target d ρ ρ1 → CTest W n cenv Z F ifs ρ1 U false U1 → CTurns W n cenv Z F target ifs elt ρ0 ρ0 U1 ds es U2 →
      CTurns W n cenv Z F target ifs elt ρ0 ρ U (d :: ds) es U2

section
variable {W : Wd} {n : Nat} {cenv : Env} {g0 : Heap} {Z F X X' : Addr → Prop} {U U' U1 U2 U3 : HP (fun b => ¬ F b)} {ρ0 ρ ρ' ρ1 : Env1} {acc : Addr} {es es' : List D} {h h' : Heap}

theorem wp_test {A : Around} {s : Shared} {ifs : List Expr} {b : Bool} {Q : Bool → Shared → Prop} {E : Value → Shared → Prop} (t : CTest W n cenv Z F ifs ρ U b U') (r : Room n A) (c : Cs W cenv g0 Z F X U ρ0 ρ acc es s.heap)
    (h : ∀ h tk, Aft Z s.heap h → Cs W cenv g0 Z F X U' ρ0 ρ acc es h → Q b { s with heap := h, toks := tk }) :
    wpAny W.M A (forIn ifs true fun c r => if r = true then do let ok ← isTrue c cenv (eval c cenv); pure (ForInStep.yield ok) else pure (ForInStep.yield r)) Q E s := by
  cases t with
  | none => exact wpAny_tests_nil (h s.heap s.toks (.refl _) c)
  | one t => exact wpAny_tests_one ((t X).run A s _ E r c.look fun h1 tk a t1 => h h1 tk a (c.next a t1))

/-- what a comprehension's loop turns: Z, its variables, its list, its iterator -/
abbrev CK (Z J : Addr → Prop) (C acc : Addr) : Addr → Prop := fun b => Z b ∨ b = C ∨ b = acc ∨ J b
theorem KeepsBut.le {K K' : Addr → Prop} {a b : Heap} (x : KeepsBut K a b) (h : ∀ c, K c → K' c) : KeepsBut K' a b := fun c o n e => x c o (fun q => n (h c q)) e

theorem comp_last {A : Around} {s : Shared} {R : Result → Shared → Prop} {elt target iter : Expr} {ifs : List Expr} {gens : List Comprehension} {depth : Nat} {scope : Scope} {pos : Pos} {I : Addr} {J : Addr → Prop} {St : (Addr → Prop) → List D → Heap → Prop} {ds es2 : List D}
    (hg : gens[depth]? = some ⟨target, iter, ifs, 0⟩) (hn : gens[depth + 1]? = none) (r : Room n A) (IT : It W target I J St) (c : Cs W cenv g0 Z F X U ρ0 ρ acc es s.heap) (st : St X ds s.heap)
    (jx : ∀ b, J b → X b) (jg : ∀ b, J b → g0.get? b = none) (jC : ¬ J cenv.locals) (jA : ¬ J acc) (tn : CTurns W n cenv Z F target ifs elt ρ0 ρ U ds es2 U') (hl : es.length + es2.length ≤ 1000)
    (hR : ∀ h tk, KeepsBut (CK Z J cenv.locals acc) s.heap h → (∀ b, ¬ J b → (∃ o, s.heap.get? b = some o) → ∃ o, h.get? b = some o) → Cs W cenv g0 Z F (fun b => X b ∧ ¬ J b) U' ρ0 ρ0 acc (es ++ es2) h → R (.ok .next) { s with heap := h, toks := tk }) :
    codeAny W.M A (.compLoop (.ListComp elt gens scope pos) depth (.ref I) (.ref acc) cenv) R s := by
  obtain ⟨Q0, hQ⟩ : ∃ Q0 : Nat → Shared → Prop, ∀ k s', Q0 k s' ↔ ∃ h tk U ρ es ds es2, s' = { s with heap := h, toks := tk } ∧ KeepsBut (CK Z J cenv.locals acc) s.heap h ∧ (∀ b, (∃ o, s.heap.get? b = some o) → ∃ o, h.get? b = some o) ∧ Cs W cenv g0 Z F X U ρ0 ρ acc es h ∧ St X ds h ∧
      CTurns W n cenv Z F target ifs elt ρ0 ρ U ds es2 U' ∧ es.length + es2.length ≤ 1000 ∧ k = ds.length ∧
      (∀ h tk, KeepsBut (CK Z J cenv.locals acc) s.heap h → (∀ b, ¬ J b → (∃ o, s.heap.get? b = some o) → ∃ o, h.get? b = some o) → Cs W cenv g0 Z F (fun b => X b ∧ ¬ J b) U' ρ0 ρ0 acc (es ++ es2) h → R (.ok .next) { s with heap := h, toks := tk }) := ⟨_, fun _ _ => Iff.rfl⟩
  refine codeAny_loop rfl Q0 ?_ ds.length ((hQ _ _).mpr ⟨s.heap, s.toks, U, ρ, es, ds, es2, rfl, fun _ _ _ e => e, fun _ e => e, c, st, tn, hl, rfl, hR⟩)
  clear hl hR tn st c
  intro kk s' hkk
  obtain ⟨h, tk, U, ρ, es, ds, es2, rfl, kb, th, c, st, tn, hl, rfl, hR⟩ := (hQ _ _).mp hkk
  show wpAny _ A ((compTurn (.ListComp elt gens scope pos) depth (.ref I) (.ref acc) cenv).onRaise (fun x => do noteFrame x cenv; theTreesLotGoes x)) _ _ _
  refine wpAny_noted ?_
  rw [compTurn_last scope pos _ _ _ hg hn]
  refine wpAny_bind (wpAny_standAt (wpAny_bind ?_))
  cases tn with
  | nil =>
    refine IT.done A _ _ _ _ r.1 st fun h2 tk2 k2 => wpAny_pure ?_
    have nC : X cenv.locals ∧ ¬ J cenv.locals := ⟨c.xC, jC⟩
    have zx : ∀ a, Z a → X a ∧ ¬ J a := fun a z => ⟨c.look.zx a z, fun j => c.zg a z (jg a j)⟩
    refine hR h2 tk2 (fun b o nb e => k2 b o (fun j => nb (.inr (.inr (.inr j)))) (kb b o nb e)) (fun b nj e => let ⟨o, e'⟩ := th b e; ⟨o, k2 b o nj e'⟩) ?_
    rw [List.append_nil]
    exact c.reset.turnJ k2 jx jg jC jA (fun a q => q.1) zx nC ⟨c.xA, jA⟩ (fun a ⟨x, nj⟩ => let ⟨o, e⟩ := c.look.xt a x; ⟨o, k2 a o nj e⟩)
  | @keep _ U1 U2 _ _ ρ1 d e ds es2 bd ct ev tn2 =>
    refine IT.item A _ d ds _ _ _ r.1 c.look.xt st fun v h1 tk1 q => ?_
    refine wpAny_bind (q _ _ fun h2 k2 rv st2 => ?_)
    have th2 : ∀ b, (∃ o, h.get? b = some o) → ∃ o, h2.get? b = some o := fun b ⟨o, e⟩ => by
      by_cases j : J b
      · exact IT.live _ _ _ st2 b j
      · exact ⟨o, k2 b o j e⟩
    have c2 := c.turnJ (X' := X) k2 jx jg jC jA (fun _ q => q) c.look.zx c.xC c.xA (fun a x => th2 a (c.look.xt a x))
    refine wpAny_bind (wp_assignC r.1 bd c2 rv fun h3 tk3 k3 c3 => ?_)
    have th3 : ∀ b, (∃ o, h2.get? b = some o) → ∃ o, h3.get? b = some o := fun b ⟨o, e⟩ => by
      by_cases j : b = cenv.locals
      · obtain ⟨m, o', _, _, e', _⟩ := c3.ns; exact ⟨o', j ▸ e'⟩
      · exact ⟨o, k3 b o j e⟩
    refine wpAny_bind (wp_test ct r c3 fun h4 tk4 a4 c4 => ?_)
    simp only [if_true]
    refine wpAny_bind (wpAny_bind ((ev X).run A _ _ _ r c4.look fun v5 h5 tk5 a5 t5 q5 => ?_))
    have c5 := c4.next a5 t5
    refine wpAny_bind (wp_append c5 q5 (by simp at hl; omega) fun h6 k6 th6 c6 => wpAny_pure ?_)
    have kz : ∀ {a b}, Aft Z a b → KeepsBut (CK Z (fun _ => False) cenv.locals acc) a b := fun a b o n e => a.keep b o (fun z => n (.inl z)) e
    have K26 : KeepsBut (CK Z (fun _ => False) cenv.locals acc) h2 h6 := ((k3.le fun b q => .inr (.inl q)).trans ((kz a4).trans (kz a5))).trans (k6.le fun b q => .inr (.inr (.inl q)))
    have K : KeepsBut (CK Z J cenv.locals acc) h h6 := (k2.le fun b q => .inr (.inr (.inr q))).trans (K26.le fun b q => by rcases q with q | q | q | q; exact .inl q; exact .inr (.inl q); exact .inr (.inr (.inl q)); exact q.elim)
    refine wpAny_pure ⟨rfl, ds.length, Nat.lt_succ_self _, (hQ _ _).mpr ⟨h6, tk5, U2, ρ0, es ++ [e], ds, es2, rfl, kb.trans K, fun b e => th6 b (a5.there b (a4.there b (th3 b (th2 b (th b e))))), c6, IT.frame _ _ _ _ (fun b o nb e => K26 b o ?_ e) st2, tn2, by simp at hl ⊢; omega, rfl, by simpa using hR⟩⟩
    rintro (z | rfl | rfl | j)
    · exact nb.elim (fun j => c.zg b z (jg b j)) fun n => n (c.look.zx b z)
    · exact nb.elim jC fun n => n c.xC
    · exact nb.elim jA fun n => n c.xA
    · exact j
  | @skip _ U1 _ _ ρ1 d ds _ bd ct tn2 =>
    refine IT.item A _ d ds _ _ _ r.1 c.look.xt st fun v h1 tk1 q => ?_
    refine wpAny_bind (q _ _ fun h2 k2 rv st2 => ?_)
    have th2 : ∀ b, (∃ o, h.get? b = some o) → ∃ o, h2.get? b = some o := fun b ⟨o, e⟩ => by
      by_cases j : J b
      · exact IT.live _ _ _ st2 b j
      · exact ⟨o, k2 b o j e⟩
    have c2 := c.turnJ (X' := X) k2 jx jg jC jA (fun _ q => q) c.look.zx c.xC c.xA (fun a x => th2 a (c.look.xt a x))
    refine wpAny_bind (wp_assignC r.1 bd c2 rv fun h3 tk3 k3 c3 => ?_)
    have th3 : ∀ b, (∃ o, h2.get? b = some o) → ∃ o, h3.get? b = some o := fun b ⟨o, e⟩ => by
      by_cases j : b = cenv.locals
      · obtain ⟨m, o', _, _, e', _⟩ := c3.ns; exact ⟨o', j ▸ e'⟩
      · exact ⟨o, k3 b o j e⟩
    refine wpAny_bind (wp_test ct r c3 fun h4 tk4 a4 c4 => ?_)
    simp only [Bool.false_eq_true, if_false]
    have kz : ∀ {a b}, Aft Z a b → KeepsBut (CK Z (fun _ => False) cenv.locals acc) a b := fun a b o n e => a.keep b o (fun z => n (.inl z)) e
    have K26 : KeepsBut (CK Z (fun _ => False) cenv.locals acc) h2 h4 := (k3.le fun b q => .inr (.inl q)).trans (kz a4)
    have K : KeepsBut (CK Z J cenv.locals acc) h h4 := (k2.le fun b q => .inr (.inr (.inr q))).trans (K26.le fun b q => by rcases q with q | q | q | q; exact .inl q; exact .inr (.inl q); exact .inr (.inr (.inl q)); exact q.elim)
    refine wpAny_pure ⟨rfl, ds.length, Nat.lt_succ_self _, (hQ _ _).mpr ⟨h4, tk4, U1, ρ0, es, ds, es2, rfl, kb.trans K, fun b e => a4.there b (th3 b (th2 b (th b e))), c4.reset, IT.frame _ _ _ _ (fun b o nb e => K26 b o ?_ e) st2, tn2, hl, rfl, hR⟩⟩
    rintro (z | rfl | rfl | j)
    · exact nb.elim (fun j => c.zg b z (jg b j)) fun n => n (c.look.zx b z)
    · exact nb.elim jC fun n => n c.xC
    · exact nb.elim jA fun n => n c.xA
    · exact j
end
end Mine

end
-- part FWA
section
open PySem PySem.W PyProof.Rows PySem.Calls PySem.Spec
set_option maxRecDepth 20000
set_option linter.unusedVariables false
namespace Mine

theorem codeAny_compStart_any {prog : Program} {w : World} {A : Around} {R : Result → Shared → Prop} {s : Shared} {elt target iter : Expr} {ifs : List Expr} {gens : List Comprehension} {depth : Nat} {scope : Scope} {pos : Pos} {it acc : Value} {env : Env} (hg : gens[depth]? = some ⟨target, iter, ifs, 0⟩)
    (h0 : codeAny (model prog w) A (.compLoop (.ListComp elt gens scope pos) depth it acc env) R s)
    (h : ∀ E, wpAny (model prog w) A (pyIter it) (fun it' s' => codeAny (model prog w) A (.compLoop (.ListComp elt gens scope pos) depth it' acc env) R s') E s) :
    codeAny (model prog w) A (.compStart (.ListComp elt gens scope pos) depth it acc env) R s := by
  refine codeAny_of_tree ?_
  show wpAny _ _ ((compStart (.ListComp elt gens scope pos) depth it acc env).onRaise (fun x => do noteFrame x env; standAt theWindowsPlace)) _ _ s
  refine wpAny_notedAt ?_
  unfold compStart
  have hc : clausesOf (.ListComp elt gens scope pos) = gens := rfl
  rw [hc, hg]
  show wpAny _ _ (ask >>= _) _ _ s
  refine wpAny_bind (wpAny_askSetting (wpAny_ite ?_))
  split
  · first
      | exact wpAny_bind (wpAny_pure (wpAny_pure (And.intro rfl h0)))
      | exact wpAny_pure (And.intro rfl h0)
  · first
      | exact wpAny_bind (wpAny_rule (wpAny_bind (wpAny_standAt (wpAny_bind (wpAny_mono (h _) (fun it' s' h' => wpAny_pure (And.intro rfl h')) fun _ _ x => x)))))
      | (refine wpAny_bind (wpAny_rule ?_); show wpAny _ _ (standAt iter.pos >>= _) _ _ s; exact wpAny_bind (wpAny_standAt (wpAny_bind (wpAny_mono (h _) (fun it' s' h' => wpAny_pure (And.intro rfl h')) fun _ _ x => x))))

/-- the turns of the first of two clauses -/
inductive CTurns2 (W : Wd) (n : Nat) (cenv : Env) (Z F : Addr → Prop) (target : Expr) (ifs : List Expr) (target2 iter2 elt : Expr) (ρ0 : Env1) : Env1 → HP (fun b => ¬ F b) → List D → List D → HP (fun b => ¬ F b) → Prop
  | nil {U : HP (fun b => ¬ F b)} {ρ : Env1} : CTurns2 W n cenv Z F target ifs target2 iter2 elt ρ0 ρ U [] [] U
  | keep {U U1 U2 U3 U4 : HP (fun b => ¬ F b)} {ρ ρ1 : Env1} {d : D} {ds ds2 es2 es : List D} : BindL cenv target d ρ ρ1 → CTest W n cenv Z F ifs ρ1 U true U1 → (∀ X, EvIt W n cenv X Z U1 ρ1 target2 iter2 ds2 U2) → CTurns W n cenv Z F target2 [] elt ρ0 ρ1 U2 ds2 es2 U3 →
      CTurns2 W n cenv Z F target ifs target2 iter2 elt ρ0 ρ0 U3 ds es U4 → CTurns2 W n cenv Z F target ifs target2 iter2 elt ρ0 ρ U (d :: ds) (es2 ++ es) U4
  | skip {U U1 U2 : HP (fun b => ¬ F b)} {ρ ρ1 : Env1} {d : D} {ds es : List D} : BindL cenv target d ρ ρ1 → CTest W n cenv Z F ifs ρ1 U false U1 → CTurns2 W n cenv Z F target ifs target2 iter2 elt ρ0 ρ0 U1 ds es U2 →
      CTurns2 W n cenv Z F target ifs target2 iter2 elt ρ0 ρ U (d :: ds) es U2

section
variable {W : Wd} {n : Nat} {cenv : Env} {g0 : Heap} {Z F X X' : Addr → Prop} {U U' U1 U2 U3 : HP (fun b => ¬ F b)} {ρ0 ρ ρ' ρ1 : Env1} {acc : Addr} {es es' : List D} {h h' : Heap}

theorem Cs.rex (c : Cs W cenv g0 Z F X U ρ0 ρ acc es h) (hX : ∀ a, X' a → (∃ o, h.get? a = some o) → X a) (zx : ∀ a, Z a → X' a) (xC : X' cenv.locals) (xA : X' acc) (xt : ∀ a, X' a → ∃ o, h.get? a = some o) : Cs W cenv g0 Z F X' U ρ0 ρ acc es h :=
  c.turnJ (J := fun _ => False) (fun _ _ _ e => e) (fun _ q => q.elim) (fun _ q => q.elim) id id (fun a q => hX a q (xt a q)) zx xC xA xt

/-- the state after an iterator was made -/
theorem Cs.adopt {J : Addr → Prop} {h1 h0 : Heap} (c : Cs W cenv g0 Z F X U ρ0 ρ acc es h) (a : Aft Z h h1) (t : U'.P h1) (k0 : Keeps h1 h0) (j1 : ∀ b, J b → h1.get? b = none) (jl : ∀ b, J b → ∃ o, h0.get? b = some o) (gk : ∀ b, g0.get? b ≠ none → h.get? b ≠ none) :
    Cs W cenv g0 Z F (fun b => X b ∨ J b) U' ρ0 ρ acc es h0 ∧ (∀ b, J b → g0.get? b = none) := by
  have jg : ∀ b, J b → g0.get? b = none := fun b j => by
    cases e : g0.get? b with
    | none => rfl
    | some o =>
      have := gk b (by rw [e]; exact fun q => by cases q)
      cases e1 : h.get? b with
      | none => exact absurd e1 this
      | some o1 => obtain ⟨o2, e2⟩ := a.there b ⟨o1, e1⟩; rw [j1 b j] at e2; cases e2
  have c1 := c.next a t
  have jn : ∀ b o, J b → h1.get? b ≠ some o := fun b o j e => by rw [j1 b j] at e; cases e
  have w : ∀ b, (X b ∨ J b) → (∃ o, h1.get? b = some o) → X b := fun b q ⟨o, e⟩ => q.elim id fun j => absurd e (jn b o j)
  refine ⟨?_, jg⟩
  exact {
    look := {
      base := fun b o e => k0 b o (c1.look.base b o e)
      vars := fun x d e => let ⟨v, t, r⟩ := c1.look.vars x d e; ⟨v, t.up (Z := fun _ => False) (.of_keeps k0) id (fun _ _ _ => id), (r.weak w).up fun b o _ e => k0 b o e⟩
      own := U'.st _ _ k0 c1.look.own
      zx := fun a z => .inl (c1.look.zx a z)
      xb := fun a q => q.elim (c1.look.xb a) fun j => by
        cases e : W.base.get? a with
        | none => rfl
        | some o => have := c.bg a o e; rw [jg a j] at this; cases this
      xt := fun a q => q.elim (fun x => let ⟨o, e⟩ := c1.look.xt a x; ⟨o, k0 a o e⟩) (jl a)
      zl := c.look.zl
      zc := c.look.zc
      kind := c.look.kind
      gl := c.look.gl
      bl := c.look.bl }
    free := fun x d e => let ⟨v, b, h1, h2, h3, h4⟩ := c1.free x d e; ⟨v, b, h1, h2, isCell_at h3 fun o e => k0 _ _ e, (h4.weak w).up fun b o _ e => k0 b o e⟩
    ns := let ⟨m, e⟩ := c1.ns; ⟨m, e.at' fun o e => k0 _ _ e⟩
    list := let ⟨vs, l, r⟩ := c1.list; ⟨vs, l.at fun o e => k0 _ _ e, (r.weak w).up fun b o _ e => k0 b o e⟩
    gC := c.gC
    gA := c.gA
    ne := c.ne
    xC := .inl c.xC
    xA := .inl c.xA
    bg := c.bg
    zg := c.zg
    fg := c.fg
    cg := c.cg }

theorem comp_more {A : Around} {s : Shared} {R : Result → Shared → Prop} {elt target iter target2 iter2 : Expr} {ifs : List Expr} {scope : Scope} {pos : Pos} {I : Addr} {J : Addr → Prop} {St : (Addr → Prop) → List D → Heap → Prop} {ds es2 : List D}
    (hs : ∀ x, foldedSetIterable iter2 cenv x = pure x) (r : Room n A) (IT : It W target I J St) (c : Cs W cenv g0 Z F X U ρ0 ρ acc es s.heap) (st : St X ds s.heap) (gk : ∀ b, g0.get? b ≠ none → s.heap.get? b ≠ none)
    (jx : ∀ b, J b → X b) (jg : ∀ b, J b → g0.get? b = none) (jC : ¬ J cenv.locals) (jA : ¬ J acc) (tn : CTurns2 W n cenv Z F target ifs target2 iter2 elt ρ0 ρ U ds es2 U') (hl : es.length + es2.length ≤ 1000)
    (hR : ∀ h tk, KeepsBut (CK Z J cenv.locals acc) s.heap h → (∀ b, ¬ J b → (∃ o, s.heap.get? b = some o) → ∃ o, h.get? b = some o) → Cs W cenv g0 Z F (fun b => X b ∧ ¬ J b) U' ρ0 ρ0 acc (es ++ es2) h → R (.ok .next) { s with heap := h, toks := tk }) :
    codeAny W.M A (.compLoop (.ListComp elt [⟨target, iter, ifs, 0⟩, ⟨target2, iter2, [], 0⟩] scope pos) 0 (.ref I) (.ref acc) cenv) R s := by
  obtain ⟨Q0, hQ⟩ : ∃ Q0 : Nat → Shared → Prop, ∀ k s', Q0 k s' ↔ ∃ h tk U ρ es ds es2, s' = { s with heap := h, toks := tk } ∧ KeepsBut (CK Z J cenv.locals acc) s.heap h ∧ (∀ b, (∃ o, s.heap.get? b = some o) → ∃ o, h.get? b = some o) ∧ Cs W cenv g0 Z F X U ρ0 ρ acc es h ∧ St X ds h ∧
      CTurns2 W n cenv Z F target ifs target2 iter2 elt ρ0 ρ U ds es2 U' ∧ es.length + es2.length ≤ 1000 ∧ k = ds.length ∧
      (∀ h tk, KeepsBut (CK Z J cenv.locals acc) s.heap h → (∀ b, ¬ J b → (∃ o, s.heap.get? b = some o) → ∃ o, h.get? b = some o) → Cs W cenv g0 Z F (fun b => X b ∧ ¬ J b) U' ρ0 ρ0 acc (es ++ es2) h → R (.ok .next) { s with heap := h, toks := tk }) := ⟨_, fun _ _ => Iff.rfl⟩
  refine codeAny_loop rfl Q0 ?_ ds.length ((hQ _ _).mpr ⟨s.heap, s.toks, U, ρ, es, ds, es2, rfl, fun _ _ _ e => e, fun _ e => e, c, st, tn, hl, rfl, hR⟩)
  clear hl hR tn st c
  intro kk s' hkk
  obtain ⟨h, tk, U, ρ, es, ds, es2, rfl, kb, th, c, st, tn, hl, rfl, hR⟩ := (hQ _ _).mp hkk
  show wpAny _ A ((compTurn (.ListComp elt [⟨target, iter, ifs, 0⟩, ⟨target2, iter2, [], 0⟩] scope pos) 0 (.ref I) (.ref acc) cenv).onRaise (fun x => do noteFrame x cenv; theTreesLotGoes x)) _ _ _
  refine wpAny_noted ?_
  rw [compTurn_more scope pos _ _ _ rfl rfl]
  refine wpAny_bind (wpAny_standAt (wpAny_bind ?_))
  cases tn with
  | nil =>
    refine IT.done A _ _ _ _ r.1 st fun h2 tk2 k2 => wpAny_pure ?_
    have nC : X cenv.locals ∧ ¬ J cenv.locals := ⟨c.xC, jC⟩
    have zx : ∀ a, Z a → X a ∧ ¬ J a := fun a z => ⟨c.look.zx a z, fun j => c.zg a z (jg a j)⟩
    refine hR h2 tk2 (fun b o nb e => k2 b o (fun j => nb (.inr (.inr (.inr j)))) (kb b o nb e)) (fun b nj e => let ⟨o, e'⟩ := th b e; ⟨o, k2 b o nj e'⟩) ?_
    rw [List.append_nil]
    exact c.reset.turnJ k2 jx jg jC jA (fun a q => q.1) zx nC ⟨c.xA, jA⟩ (fun a ⟨x, nj⟩ => let ⟨o, e⟩ := c.look.xt a x; ⟨o, k2 a o nj e⟩)
  | @keep _ U1 U2 U3 _ _ ρ1 d ds ds2 es2 es3 bd ct ev tn1 tn2 =>
    refine IT.item A _ d ds _ _ _ r.1 c.look.xt st fun v h1 tk1 q => ?_
    refine wpAny_bind (q _ _ fun h2 k2 rv st2 => ?_)
    have th2 : ∀ b, (∃ o, h.get? b = some o) → ∃ o, h2.get? b = some o := fun b ⟨o, e⟩ => by
      by_cases j : J b
      · exact IT.live _ _ _ st2 b j
      · exact ⟨o, k2 b o j e⟩
    have c2 := c.turnJ (X' := X) k2 jx jg jC jA (fun _ q => q) c.look.zx c.xC c.xA (fun a x => th2 a (c.look.xt a x))
    refine wpAny_bind (wp_assignC r.1 bd c2 rv fun h3 tk3 k3 c3 => ?_)
    have th3 : ∀ b, (∃ o, h2.get? b = some o) → ∃ o, h3.get? b = some o := fun b ⟨o, e⟩ => by
      by_cases j : b = cenv.locals
      · obtain ⟨m, o', _, _, e', _⟩ := c3.ns; exact ⟨o', j ▸ e'⟩
      · exact ⟨o, k3 b o j e⟩
    refine wpAny_bind (wp_test ct r c3 fun h4 tk4 a4 c4 => ?_)
    simp only [if_true]
    refine wpAny_bind (wpAny_mono ((ev X).run A _ (fun it s₂ => wpAny W.M A (runOwn (.compStart (.ListComp elt [⟨target, iter, ifs, 0⟩, ⟨target2, iter2, [], 0⟩] scope pos) (0 + 1) it (.ref acc) cenv) cenv) (fun _ s₃ => wpAny W.M A (again (.compLoop (.ListComp elt [⟨target, iter, ifs, 0⟩, ⟨target2, iter2, [], 0⟩] scope pos) 0 (.ref I) (.ref acc) cenv)) _ _ s₃) _ s₂) _ r c4.look fun I1 J1 St1 h5 h6 tk6 IT1 a5 t5 k6 j6 st6 => ?_)
      (fun x s₁ hx => wpAny_bind (wpAny_standAt (wpAny_bind (wpAny_of_eq (hs x) (wpAny_bind (wpAny_holding (wpAny_mono hx (fun it s₂ h₂ => wpAny_bind h₂) fun _ _ e => e))))))) fun _ _ e => e)
    have gk4 : ∀ b, g0.get? b ≠ none → h4.get? b ≠ none := fun b q e => by
      have := gk b q
      cases e1 : s.heap.get? b with
      | none => exact this e1
      | some o1 => obtain ⟨o2, e2⟩ := a4.there b (th3 b (th2 b (th b ⟨o1, e1⟩))); rw [e] at e2; cases e2
    have jl1 := IT1.live _ _ _ st6
    obtain ⟨c6, jg1⟩ := c4.adopt a5 t5 k6 j6 jl1 gk4
    have nj1 : ∀ b, X b → ¬ J1 b := fun b x j => by obtain ⟨o, e⟩ := (c4.next a5 t5).look.xt b x; rw [j6 b j] at e; cases e
    have jC1 : ¬ J1 cenv.locals := nj1 _ c.xC
    have jA1 : ¬ J1 acc := nj1 _ c.xA
    have kz : ∀ {a b}, Aft Z a b → KeepsBut (CK Z (fun _ => False) cenv.locals acc) a b := fun a b o n e => a.keep b o (fun z => n (.inl z)) e
    have K26 : KeepsBut (CK Z (fun _ => False) cenv.locals acc) h2 h6 := (k3.le fun b q => .inr (.inl q)).trans ((kz a4).trans ((kz a5).trans fun b o _ e => k6 b o e))
    have loop : ∀ (R : Result → Shared → Prop), (∀ h7 tk7, KeepsBut (CK Z (fun _ => False) cenv.locals acc) h2 h7 → (∀ b, (∃ o, h2.get? b = some o) → ∃ o, h7.get? b = some o) → Cs W cenv g0 Z F X U3 ρ0 ρ0 acc (es ++ es2) h7 → R (.ok .next) { s with heap := h7, toks := tk7 }) →
        codeAny W.M A (.compLoop (.ListComp elt [⟨target, iter, ifs, 0⟩, ⟨target2, iter2, [], 0⟩] scope pos) 1 (.ref I1) (.ref acc) cenv) R { s with heap := h6, toks := tk6 } := fun R hR2 => by
      refine comp_last (gens := [⟨target, iter, ifs, 0⟩, ⟨target2, iter2, [], 0⟩]) (depth := 1) rfl rfl r IT1 c6 st6 (fun b j => .inr j) jg1 jC1 jA1 tn1 (by simp at hl ⊢; omega) fun h7 tk7 k7 th7 c7 => ?_
      have c8 : Cs W cenv g0 Z F X U3 ρ0 ρ0 acc (es ++ es2) h7 := c7.rex (fun a x _ => ⟨.inl x, nj1 a x⟩) c.look.zx c.xC c.xA fun a x => c7.look.xt a ⟨.inl x, nj1 a x⟩
      have t26 : ∀ b, (∃ o, h2.get? b = some o) → ∃ o, h6.get? b = some o := fun b e => let ⟨o, e'⟩ := a5.there b (a4.there b (th3 b e)); ⟨o, k6 b o e'⟩
      have j2 : ∀ b, (∃ o, h2.get? b = some o) → ¬ J1 b := fun b e j => by obtain ⟨o, e'⟩ := a5.there b (a4.there b (th3 b e)); rw [j6 b j] at e'; cases e'
      refine hR2 h7 tk7 (fun b o nb e => k7 b o ?_ (K26 b o nb e)) (fun b e => th7 b (j2 b e) (t26 b e)) c8
      rintro (z | z | z | j)
      · exact nb (.inl z)
      · exact nb (.inr (.inl z))
      · exact nb (.inr (.inr (.inl z)))
      · exact j2 b ⟨o, e⟩ j
    have fin : ∀ h7 tk7, KeepsBut (CK Z (fun _ => False) cenv.locals acc) h2 h7 → (∀ b, (∃ o, h2.get? b = some o) → ∃ o, h7.get? b = some o) → Cs W cenv g0 Z F X U3 ρ0 ρ0 acc (es ++ es2) h7 →
        ∃ m, m < (d :: ds).length ∧ Q0 m { s with heap := h7, toks := tk7 } := fun h7 tk7 K27 t27 c7 => by
      have K : KeepsBut (CK Z J cenv.locals acc) h h7 := KeepsBut.trans (K := CK Z J cenv.locals acc) (k2.le fun b q => .inr (.inr (.inr q))) (K27.le fun b q => by rcases q with q | q | q | q; exact .inl q; exact .inr (.inl q); exact .inr (.inr (.inl q)); exact q.elim)
      refine ⟨ds.length, Nat.lt_succ_self _, (hQ _ _).mpr ⟨h7, tk7, U3, ρ0, es ++ es2, ds, es3, rfl, kb.trans K, fun b e => t27 b (th2 b (th b e)), c7, IT.frame _ _ _ _ (fun b o nb e => K27 b o ?_ e) st2, tn2, by simp at hl ⊢; omega, rfl, by simpa using hR⟩⟩
      rintro (z | rfl | rfl | j)
      · exact nb.elim (fun j => c.zg b z (jg b j)) fun n => n (c.look.zx b z)
      · exact nb.elim jC fun n => n c.xC
      · exact nb.elim jA fun n => n c.xA
      · exact j
    refine wpAny_runOwn (codeAny_compStart_any (gens := [⟨target, iter, ifs, 0⟩, ⟨target2, iter2, [], 0⟩]) (depth := 1) rfl (loop _ fun h7 tk7 K27 t27 c7 => ?_) fun E => IT1.self _ _ _ _ _ _ st6 (loop _ fun h7 tk7 K27 t27 c7 => ?_))
    · exact wpAny_pure ⟨rfl, fin h7 tk7 K27 t27 c7⟩
    · exact wpAny_pure ⟨rfl, fin h7 tk7 K27 t27 c7⟩
  | @skip _ U1 _ _ ρ1 d ds _ bd ct tn2 =>
    refine IT.item A _ d ds _ _ _ r.1 c.look.xt st fun v h1 tk1 q => ?_
    refine wpAny_bind (q _ _ fun h2 k2 rv st2 => ?_)
    have th2 : ∀ b, (∃ o, h.get? b = some o) → ∃ o, h2.get? b = some o := fun b ⟨o, e⟩ => by
      by_cases j : J b
      · exact IT.live _ _ _ st2 b j
      · exact ⟨o, k2 b o j e⟩
    have c2 := c.turnJ (X' := X) k2 jx jg jC jA (fun _ q => q) c.look.zx c.xC c.xA (fun a x => th2 a (c.look.xt a x))
    refine wpAny_bind (wp_assignC r.1 bd c2 rv fun h3 tk3 k3 c3 => ?_)
    have th3 : ∀ b, (∃ o, h2.get? b = some o) → ∃ o, h3.get? b = some o := fun b ⟨o, e⟩ => by
      by_cases j : b = cenv.locals
      · obtain ⟨m, o', _, _, e', _⟩ := c3.ns; exact ⟨o', j ▸ e'⟩
      · exact ⟨o, k3 b o j e⟩
    refine wpAny_bind (wp_test ct r c3 fun h4 tk4 a4 c4 => ?_)
    simp only [Bool.false_eq_true, if_false]
    have kz : ∀ {a b}, Aft Z a b → KeepsBut (CK Z (fun _ => False) cenv.locals acc) a b := fun a b o n e => a.keep b o (fun z => n (.inl z)) e
    have K26 : KeepsBut (CK Z (fun _ => False) cenv.locals acc) h2 h4 := (k3.le fun b q => .inr (.inl q)).trans (kz a4)
    have K : KeepsBut (CK Z J cenv.locals acc) h h4 := KeepsBut.trans (K := CK Z J cenv.locals acc) (k2.le fun b q => .inr (.inr (.inr q))) (K26.le fun b q => by rcases q with q | q | q | q; exact .inl q; exact .inr (.inl q); exact .inr (.inr (.inl q)); exact q.elim)
    refine wpAny_pure ⟨rfl, ds.length, Nat.lt_succ_self _, (hQ _ _).mpr ⟨h4, tk4, U1, ρ0, es, ds, es2, rfl, kb.trans K, fun b e => a4.there b (th3 b (th2 b (th b e))), c4.reset, IT.frame _ _ _ _ (fun b o nb e => K26 b o ?_ e) st2, tn2, hl, rfl, hR⟩⟩
    rintro (z | rfl | rfl | j)
    · exact nb.elim (fun j => c.zg b z (jg b j)) fun n => n (c.look.zx b z)
    · exact nb.elim jC fun n => n c.xC
    · exact nb.elim jA fun n => n c.xA
    · exact j
end
end Mine

end
-- part FWB
section
open PySem PySem.W PyProof.Rows PySem.Calls PySem.Spec
set_option maxRecDepth 20000
set_option linter.unusedVariables false
namespace Mine

/-- what a comprehension's loop must do -/
def CLoop (W : Wd) (n : Nat) (cenv : Env) (Z F : Addr → Prop) (target : Expr) (e : Expr) (ρ0 : Env1) (U : HP (fun b => ¬ F b)) (ds es : List D) (U' : HP (fun b => ¬ F b)) : Prop :=
  ∀ (A : Around) (s : Shared) (R : Result → Shared → Prop) (g0 : Heap) (X : Addr → Prop) (acc I : Addr) (J : Addr → Prop) (St : (Addr → Prop) → List D → Heap → Prop), Room n A → It W target I J St → Cs W cenv g0 Z F X U ρ0 ρ0 acc [] s.heap → St X ds s.heap →
    (∀ b, g0.get? b ≠ none → s.heap.get? b ≠ none) → (∀ b, J b → X b) → (∀ b, J b → g0.get? b = none) → ¬ J cenv.locals → ¬ J acc →
    (∀ h tk, KeepsBut (CK Z J cenv.locals acc) s.heap h → (∀ b, ¬ J b → (∃ o, s.heap.get? b = some o) → ∃ o, h.get? b = some o) → Cs W cenv g0 Z F (fun b => X b ∧ ¬ J b) U' ρ0 ρ0 acc es h → R (.ok .next) { s with heap := h, toks := tk }) →
    codeAny W.M A (.compLoop e 0 (.ref I) (.ref acc) cenv) R s

section
variable {W : Wd} {n : Nat} {env : Env} {X Z F : Addr → Prop} {V : Addr → Prop} {T T' T1 T2 T3 : HP V} {U U' : HP (fun b => ¬ F b)} {ρ ρ0 : Env1}

theorem cloop_one {cenv : Env} {elt target iter : Expr} {ifs : List Expr} {scope : Scope} {pos : Pos} {ds es : List D} (tn : CTurns W n cenv Z F target ifs elt ρ0 ρ0 U ds es U') (hl : es.length ≤ 1000) : CLoop W n cenv Z F target (.ListComp elt [⟨target, iter, ifs, 0⟩] scope pos) ρ0 U ds es U' :=
  fun A s R g0 X acc I J St r IT c st gk jx jg jC jA hR => comp_last (gens := [⟨target, iter, ifs, 0⟩]) (depth := 0) rfl rfl r IT c st jx jg jC jA tn (by simpa using hl) (by simpa using hR)
theorem cloop_two {cenv : Env} {elt target iter target2 iter2 : Expr} {ifs : List Expr} {scope : Scope} {pos : Pos} {ds es : List D} (tn : CTurns2 W n cenv Z F target ifs target2 iter2 elt ρ0 ρ0 U ds es U') (hl : es.length ≤ 1000) (hs : ∀ x, foldedSetIterable iter2 cenv x = pure x := by intro _; rfl) :
    CLoop W n cenv Z F target (.ListComp elt [⟨target, iter, ifs, 0⟩, ⟨target2, iter2, [], 0⟩] scope pos) ρ0 U ds es U' :=
  fun A s R g0 X acc I J St r IT c st gk jx jg jC jA hR => comp_more hs r IT c st gk jx jg jC jA tn (by simpa using hl) (by simpa using hR)

theorem ev_comp {elt target iter : Expr} {ifs : List Expr} {gs : List Comprehension} {scope : Scope} {pos : Pos} {cl : List (Str × Addr)} {ds es : List D} (it : EvIt W n env X Z T ρ target iter ds T1)
    (hclos : closureFor scope env = pure cl) (hin : ∀ h, T1.P h → U.P h) (hfg : ∀ h, T1.P h → ∀ a, F a → ∃ o, h.get? a = some o)
    (hfree : ∀ C x d, ρ0.lookup x = some d → ρ.lookup x = some d ∧ (env.kindOf x = some .cell ∨ env.kindOf x = some .free) ∧ env.cells.lookup x = cl.lookup x ∧ ((compEnvC scope cl C env).kindOf x = some .cell ∨ (compEnvC scope cl C env).kindOf x = some .free))
    (hcl : ∀ x c, cl.lookup x = some c → (ρ0.lookup x).isSome = true)
    (lp : ∀ C, CLoop W n (compEnvC scope cl C env) Z F target (.ListComp elt (⟨target, iter, ifs, 0⟩ :: gs) scope pos) ρ0 U ds es U')
    (hout : ∀ h h', T1.P h → Aft Z h h' → U'.P h' → T'.P h')
    (hcell : ∀ y ∈ scope.names, y.2 ≠ .cell := by decide) (hkind : scope.kind = .function := by rfl)
    (hnames : ∀ y ∈ scope.names, y.2 = .local → scope.names.lookup y.1 = some .local := by decide) (hs : ∀ x, foldedSetIterable iter env x = pure x := by intro _; rfl) :
    Ev W n env X Z T ρ (.ListComp elt (⟨target, iter, ifs, 0⟩ :: gs) scope pos) (.lst es) T' := .mk fun A s Q E r L h => by
  rw [eval_ListComp]
  refine wpAny_comprehension_free (use := none) rfl hs hclos hkind hnames (it.run A s _ E r L fun I J St h1 h2 tk2 IT a1 t1 k2 j1 st2 => ?_)
  have L1 := L.next a1 t1
  have fresh : ∀ a, h2.objs.size ≤ a → h2.get? a = none := fun a ha => Heap.get?_none_of_le ha
  have fresh1 : ∀ a, h2.objs.size ≤ a → h1.get? a = none := fun a ha => by
    cases e : h1.get? a with
    | none => rfl
    | some o => have := k2 a o e; rw [fresh a ha] at this; cases this
  refine wpAny_newObj_type (wpAny_newFunctionEnv hcell (by intro y hy; simp at hy) (fun h3 hns hsb => ?_) hkind)
  dsimp only at hns hsb ⊢
  generalize hH : h2.push { cls := .type "list", dict := none, data := .seq ([] : List Value).toArray } = H2 at hns hsb ⊢
  have hC : H2.objs.size = h2.objs.size + 1 := by rw [← hH, Heap.size_push]
  have hDC : h2.objs.size ≠ H2.objs.size := by rw [hC]; exact Nat.ne_of_lt (Nat.lt_succ_self _)
  have old : ∀ b o, h2.get? b = some o → h3.get? b = some o := fun b o e => hsb.extBut b o (by rw [hC]; exact Nat.ne_of_lt (Nat.lt_succ_of_lt (Heap.lt_size e))) (Heap.get?_push_of_some _ (hH ▸ Heap.get?_push_of_some _ e))
  have oldk : Keeps h1 h3 := fun b o e => old b o (k2 b o e)
  have hacc : h3.PlainList h2.objs.size (List.toArray []) := ⟨_, hsb.extBut _ _ hDC (Heap.get?_push_of_some _ (hH ▸ Heap.get?_push_size _ rfl))⟩
  have gC : h1.get? H2.objs.size = none := fresh1 _ (by rw [hC]; exact Nat.le_succ _)
  have gA : h1.get? h2.objs.size = none := fresh1 _ (Nat.le_refl _)
  have jl := IT.live _ _ _ st2
  have jC : ¬ J H2.objs.size := fun j => by obtain ⟨o, e⟩ := jl _ j; rw [fresh _ (by rw [hC]; exact Nat.le_succ _)] at e; cases e
  have jA : ¬ J h2.objs.size := fun j => by obtain ⟨o, e⟩ := jl _ j; rw [fresh _ (Nat.le_refl _)] at e; cases e
  have xC : ¬ X H2.objs.size := fun x => by obtain ⟨o, e⟩ := L1.xt _ x; rw [gC] at e; cases e
  have xA : ¬ X h2.objs.size := fun x => by obtain ⟨o, e⟩ := L1.xt _ x; rw [gA] at e; cases e
  have xJ : ∀ b, X b → ¬ J b := fun b x j => by obtain ⟨o, e⟩ := L1.xt _ x; rw [j1 b j] at e; cases e
  let X1 : Addr → Prop := fun b => (X b ∨ J b) ∨ b = H2.objs.size ∨ b = h2.objs.size
  have wX : ∀ b, X1 b → (∃ o, h1.get? b = some o) → X b := fun b q ⟨o, e⟩ => by
    rcases q with (x | j) | rfl | rfl
    · exact x
    · rw [j1 b j] at e; cases e
    · rw [gC] at e; cases e
    · rw [gA] at e; cases e
  have hcells : ∀ x c, cl.lookup x = some c → env.cells.lookup x = some c ∧ ∃ v, h1.IsCell c v := fun x c e => by
    obtain ⟨d, hd⟩ := Option.isSome_iff_exists.mp (hcl x c e)
    obtain ⟨e1, e2, e3, e4⟩ := hfree 0 x d hd
    have ec : env.cells.lookup x = some c := e3.trans e
    obtain ⟨v, t, _⟩ := L1.vars x d e1
    rcases t with ⟨k1, _⟩ | ⟨_, c', e5, i⟩
    · rcases e2 with e2 | e2 <;> (rw [k1] at e2; cases e2)
    · rw [ec] at e5; cases e5; exact ⟨ec, _, i⟩
  have free : ∀ x d, ρ0.lookup x = some d → ∃ v c, ((compEnvC scope cl H2.objs.size env).kindOf x = some .cell ∨ (compEnvC scope cl H2.objs.size env).kindOf x = some .free) ∧ (compEnvC scope cl H2.objs.size env).cells.lookup x = some c ∧ h3.IsCell c (some v) ∧ Rep W X1 h3 v d := fun x d hd => by
    obtain ⟨e1, e2, e3, e4⟩ := hfree H2.objs.size x d hd
    obtain ⟨v, t, rv⟩ := L1.vars x d e1
    rcases t with ⟨k1, _⟩ | ⟨_, c, e5, i⟩
    · rcases e2 with e2 | e2 <;> (rw [k1] at e2; cases e2)
    · exact ⟨v, c, e4, e3.symm.trans e5, isCell_at i fun o e => oldk _ _ e, (rv.weak wX).up fun b o _ e => oldk b o e⟩
  have kx : ∀ b, (X b ∨ J b) → X1 b := fun b q => .inl q
  have c0 : Cs W (compEnvC scope cl H2.objs.size env) h1 Z F X1 U ρ0 ρ0 h2.objs.size [] h3 := {
    look := {
      base := fun b o e => oldk b o (L1.base b o e)
      vars := fun x d e => let ⟨v, c, q1, q2, q3, q4⟩ := free x d e; ⟨v, .inr ⟨q1, c, q2, q3⟩, q4⟩
      own := U.st _ _ oldk (hin _ t1)
      zx := fun a z => .inl (.inl (L.zx a z))
      xb := fun a q => by
        cases e : W.base.get? a with
        | none => rfl
        | some o =>
          have e1 := L1.base a o e
          have := L1.xb a (wX a q ⟨o, e1⟩)
          rw [e] at this; cases this
      xt := fun a q => by
        rcases q with (x | j) | rfl | rfl
        · obtain ⟨o, e⟩ := L1.xt a x; exact ⟨o, oldk a o e⟩
        · obtain ⟨o, e⟩ := jl a j; exact ⟨o, old a o e⟩
        · obtain ⟨o, _, _, e, _⟩ := hns; exact ⟨o, e⟩
        · obtain ⟨_, e⟩ := hacc; exact ⟨_, e⟩
      zl := fun z => xC (L.zx _ z)
      zc := fun x c e z => L.zc x c (hcells x c e).1 z
      kind := hkind
      gl := L.gl
      bl := L.bl }
    free := free
    ns := ⟨_, hns⟩
    list := ⟨[], hacc, .nil⟩
    gC := gC
    gA := gA
    ne := hDC.symm
    xC := .inr (.inl rfl)
    xA := .inr (.inr rfl)
    bg := L1.base
    zg := fun a z e => by obtain ⟨o, e'⟩ := L1.xt a (L.zx a z); rw [e] at e'; cases e'
    fg := fun a f e => by obtain ⟨o, e'⟩ := hfg h1 t1 a f; rw [e] at e'; cases e'
    cg := fun x c e q => by obtain ⟨_, _, o, e', _⟩ := hcells x c e; rw [q] at e'; cases e' }
  have st3 : St X1 ds h3 := IT.frame _ _ _ _ (fun b o _ e => old b o e) (IT.grow (fun b => X b ∨ J b) X1 _ _ (fun a q ⟨o, e⟩ => by
    rcases q with q | rfl | rfl
    · exact .inl q
    · rw [fresh _ (by rw [hC]; exact Nat.le_succ _)] at e; cases e
    · rw [fresh _ (Nat.le_refl _)] at e; cases e) (fun a j => .inl (.inr j)) st2)
  have loop : ∀ s3 : Shared, s3 = { s with heap := h3, toks := tk2 + ([] : List (Str × Value)).length } →
      codeAny W.M A (.compLoop (.ListComp elt (⟨target, iter, ifs, 0⟩ :: gs) scope pos) 0 (.ref I) (.ref h2.objs.size) (compEnvC scope cl H2.objs.size env)) (compPost W.M A E none Q (.ref h2.objs.size) H2.objs.size) s3 := by
    rintro s3 rfl
    refine lp H2.objs.size A _ _ h1 X1 h2.objs.size I J St r IT c0 st3 (fun b q e => ?_) (fun b j => .inl (.inr j)) (fun b j => j1 b j) jC jA fun h4 tk4 k4 th4 c4 => ?_
    · cases e1 : h1.get? b with
      | none => exact q e1
      | some o => have := oldk b o e1; rw [show h3.get? b = none from e] at this; cases this
    · obtain ⟨m4, n4⟩ := c4.ns
      refine ⟨m4, n4, fun h5 sb => ?_⟩
      obtain ⟨vs, l4, r4⟩ := c4.list
      have k15 : ∀ b o, ¬ Z b → h1.get? b = some o → h5.get? b = some o := fun b o nz e => by
        have nC : b ≠ H2.objs.size := fun q => by rw [q, gC] at e; cases e
        refine (sb.2 b nC).trans (k4 b o ?_ (oldk b o e))
        rintro (z | q | q | j)
        · exact nz z
        · exact nC q
        · rw [q, gA] at e; cases e
        · rw [j1 b j] at e; cases e
      have th5 : ∀ b, (∃ o, h1.get? b = some o) → ∃ o, h5.get? b = some o := fun b ⟨o, e⟩ => by
        have nC : b ≠ H2.objs.size := fun q => by rw [q, gC] at e; cases e
        obtain ⟨o', e'⟩ := th4 b (fun j => by rw [j1 b j] at e; cases e) ⟨o, oldk b o e⟩
        exact ⟨o', (sb.2 b nC).trans e'⟩
      have a15 : Aft Z h1 h5 := ⟨k15, th5⟩
      have w4 : ∀ b o, ¬ (X1 b ∧ ¬ J b) → h4.get? b = some o → h5.get? b = some o := fun b o nx e => (sb.2 b fun q => nx ⟨.inr (.inl q), q ▸ jC⟩).trans e
      refine h (.ref h2.objs.size) h5 tk4 (a1.trans a15) (hout h1 h5 t1 a15 (U'.turns h4 h5 (fun b o nf e => (sb.2 b fun q => ?_).trans e) c4.look.own)) (.lst xA (l4.at fun o e => (sb.2 _ hDC).trans e) ((r4.up w4).weak fun b x _ => ⟨.inl (.inl x), xJ b x⟩))
      exact nf fun f => c0.fg b f (q ▸ gC)
  exact codeAny_compStart_any (gens := ⟨target, iter, ifs, 0⟩ :: gs) (depth := 0) rfl (loop _ rfl) fun E => IT.self _ _ _ _ _ _ st3 (loop _ rfl)

/-- a comprehension that turns nothing -/
theorem ev_compP {elt target iter : Expr} {ifs : List Expr} {gs : List Comprehension} {scope : Scope} {pos : Pos} {cl : List (Str × Addr)} {ds es : List D} (it : EvIt W n env X (fun _ => False) T ρ target iter ds T1)
    (hclos : closureFor scope env = pure cl)
    (hfree : ∀ C x d, ρ0.lookup x = some d → ρ.lookup x = some d ∧ (env.kindOf x = some .cell ∨ env.kindOf x = some .free) ∧ env.cells.lookup x = cl.lookup x ∧ ((compEnvC scope cl C env).kindOf x = some .cell ∨ (compEnvC scope cl C env).kindOf x = some .free))
    (hcl : ∀ x c, cl.lookup x = some c → (ρ0.lookup x).isSome = true)
    (lp : ∀ C, CLoop W n (compEnvC scope cl C env) (fun _ => False) (fun _ => False) target (.ListComp elt (⟨target, iter, ifs, 0⟩ :: gs) scope pos) ρ0 HP.tt ds es HP.tt)
    (hcell : ∀ y ∈ scope.names, y.2 ≠ .cell := by decide) (hkind : scope.kind = .function := by rfl)
    (hnames : ∀ y ∈ scope.names, y.2 = .local → scope.names.lookup y.1 = some .local := by decide) (hs : ∀ x, foldedSetIterable iter env x = pure x := by intro _; rfl) :
    Ev W n env X (fun _ => False) T ρ (.ListComp elt (⟨target, iter, ifs, 0⟩ :: gs) scope pos) (.lst es) T1 :=
  ev_comp (F := fun _ => False) (U := HP.tt) (U' := HP.tt) it hclos (fun _ _ => trivial) (fun _ _ _ f => f.elim) hfree hcl lp (fun h h' t a _ => T1.st _ _ (a.keeps fun _ => id) t) hcell hkind hnames hs
end
end Mine

end
-- part FWC
section
open PySem PySem.W PyProof.Rows PySem.Calls PySem.Spec
set_option maxRecDepth 20000
set_option linter.unusedVariables false
namespace Mine

theorem lo_new {W : Wd} {h : Heap} (k : Keeps W.base h) : (h.objs.size == sysModules) = false := by
  have : mainGlobals < h.objs.size := (W.glob.keeps k).g.lt
  have h2 : sysModules < mainGlobals := by decide
  exact beq_eq_false_iff_ne.mpr (Nat.ne_of_gt (Nat.lt_trans h2 this))

section
variable {W : Wd} {n : Nat} {env : Env} {X Z : Addr → Prop} {V : Addr → Prop} {T T' T1 T2 T3 : HP V} {ρ : Env1}

/-- lookup in an int dict -/
def atI : List Int → List D → Int → Option D
  | k :: ks, d :: ds, x => if k = x then some d else atI ks ds x
  | _, _, _ => none
def atT : List (List Int) → List D → List Int → Option D
  | k :: ks, d :: ds, x => if k = x then some d else atT ks ds x
  | _, _, _ => none
theorem valueAt_cons {K : Type} [DecidableEq K] (p : K × Value) (kvs : List (K × Value)) (x : K) : valueAt (p :: kvs) x = if p.1 = x then some p.2 else valueAt kvs x := by
  unfold valueAt
  by_cases h : p.1 = x
  · simp [h]
  · simp [h]
theorem atI_value {h : Heap} : ∀ {ks : List Int} {vs : List Value} {ds : List D} (x : Int), ks.length = vs.length → Reps W X h vs ds → (match atI ks ds x with | some d => ∃ v, valueAt (ks.zip vs) x = some v ∧ Rep W X h v d | none => valueAt (ks.zip vs) x = none)
  | [], [], _, x, _, r => by cases r; simp [atI, valueAt]
  | k :: ks, v :: vs, _, x, hl, r => by
    cases r with
    | cons a r =>
      have ih := atI_value (ks := ks) x (by simpa using hl) r
      rw [List.zip_cons_cons, valueAt_cons]
      unfold atI
      by_cases hk : k = x
      · simp only [hk, if_true]; exact ⟨v, rfl, a⟩
      · simp only [hk, if_false]; exact ih
  | [], _ :: _, _, _, hl, _ => by simp at hl
  | _ :: _, [], _, _, hl, _ => by simp at hl
theorem atKey_cons {K : Type} [DecidableEq K] (p : K × Addr × Value) (xs : List (K × Addr × Value)) (x : K) : atKey (p :: xs) x = if p.1 = x then some p.2 else atKey xs x := by
  unfold atKey
  by_cases h : p.1 = x
  · simp [h]
  · simp [h]
theorem atT_value {h : Heap} : ∀ {ks : List (List Int)} {as : List Addr} {vs : List Value} {ds : List D} (x : List Int), ks.length = as.length → as.length = vs.length → Reps W X h vs ds →
    (match atT ks ds x with | some d => ∃ p, atKey (ks.zip (as.zip vs)) x = some p ∧ Rep W X h p.2 d | none => atKey (ks.zip (as.zip vs)) x = none)
  | [], [], [], _, x, _, _, r => by cases r; simp [atT, atKey]
  | k :: ks, a :: as, v :: vs, _, x, hl, hl2, r => by
    cases r with
    | cons b r =>
      have ih := atT_value (ks := ks) (as := as) x (by simpa using hl) (by simpa using hl2) r
      rw [List.zip_cons_cons, List.zip_cons_cons, atKey_cons]
      unfold atT
      by_cases hk : k = x
      · simp only [hk, if_true]; exact ⟨(a, v), rfl, b⟩
      · simp only [hk, if_false]; exact ih
  | [], _ :: _, _, _, _, hl, _, _ => by simp at hl
  | _ :: _, [], _, _, _, hl, _, _ => by simp at hl
  | _, [], _ :: _, _, _, _, hl, _ => by simp at hl
  | _, _ :: _, [], _, _, _, hl, _ => by simp at hl

theorem ik_is (W : Wd) (x : Int) (t : Tok) : W.ik.is x (.int x t) = true := by simp [Wd.ik, PySem.intKind, Value.isInt]
theorem op_notInI {x : Int} {ks : List Int} {ds : List D} : Op2 W n X T (compareOp .NotIn) (.int x) (.idict ks ds) (.bool (!(atI ks ds x).isSome)) := fun A s v1 v2 Q E r _ _ _ q1 q2 h => by
  cases q1 using Rep.intC with
  | int t =>
    cases q2 using Rep.idictC with
    | @idict a vs na lo hd hl rs =>
      refine wpAny_notIn_of (ik_is W x t) lo hd.mapOf ?_
      have := atI_value x hl rs
      have e : (valueAt (ks.zip vs) x).isSome = (atI ks ds x).isSome := by
        cases q : atI ks ds x with
        | none => rw [q] at this; rw [this]; rfl
        | some d => rw [q] at this; obtain ⟨v, e, _⟩ := this; rw [e]; rfl
      rw [e]
      exact h _ s.heap _ (keeps_refl _) (.bool _)
theorem sb_idict {value slice : Expr} {x : Int} {ks : List Int} {ds : List D} {d : D} (hd : atI ks ds x = some d)
    (hs : ∀ a u, subscripted slice false (.ref a) (.int x u) = operate [.ref a, .int x u] (getItem (.ref a) (.int x u)) := by intro _ _; with_unfolding_all rfl) :
    Op2 W n X T (subscriptTail value slice) (.idict ks ds) (.int x) d := fun A s v1 v2 Q E r _ _ _ q1 q2 h => by
  cases q2 using Rep.intC with
  | int t =>
    cases q1 using Rep.idictC with
    | @idict a vs na lo hm hl rs =>
      have := atI_value x hl rs
      rw [hd] at this
      obtain ⟨v, e, rv⟩ := this
      exact tail_any hm.typeIs slot_dict_getitem.lookup (wpAny_getItem_of (ik_is W x t) hm.mapOf e (h v s.heap _ (keeps_refl _) rv)) (hs _ _)
theorem tk_is {h : Heap} {v : Value} {xs : List Int} (r : Rep W X h v (.tup (xs.map .int))) : ∃ a, v = .ref a ∧ ¬ X a ∧ W.tk.is h xs a := by
  cases r using Rep.tupC with
  | tup na ha ra => exact ⟨_, rfl, na, key_at ha (reps_ints ra)⟩
theorem op_notInD {x : List Int} {ks : List (List Int)} {ds : List D} : Op2 W n X T (compareOp .NotIn) (.tup (x.map .int)) (.tdict ks ds) (.bool (!(atT ks ds x).isSome)) := fun A s v1 v2 Q E r _ _ _ q1 q2 h => by
  obtain ⟨a1, rfl, _, k1⟩ := tk_is q1
  cases q2 using Rep.tdictC with
  | @tdict a as vs na lo nb hd hl hl2 rs =>
    refine wpAny_notIn_heap (knd := W.tk) (tupleKind_room_in1 (by have := r.2.2; omega)) k1 lo hd ?_
    have := atT_value x hl hl2 rs
    have e : (atKey (ks.zip (as.zip vs)) x).isSome = (atT ks ds x).isSome := by
      cases q : atT ks ds x with
      | none => rw [q] at this; rw [this]; rfl
      | some d => rw [q] at this; obtain ⟨v, e, _⟩ := this; rw [e]; rfl
    rw [e]
    exact h _ s.heap _ (keeps_refl _) (.bool _)
theorem sb_tdict {value slice : Expr} {x : List Int} {ks : List (List Int)} {ds : List D} {d : D} (hd : atT ks ds x = some d)
    (hs : ∀ a i, subscripted slice false (.ref a) (.ref i) = operate [.ref a, .ref i] (getItem (.ref a) (.ref i)) := by intro _ _; with_unfolding_all rfl) :
    Op2 W n X T (subscriptTail value slice) (.tdict ks ds) (.tup (x.map .int)) d := fun A s v1 v2 Q E r _ _ _ q1 q2 h => by
  obtain ⟨a1, rfl, _, k1⟩ := tk_is q2
  cases q1 using Rep.tdictC with
  | @tdict a as vs na lo nb hm hl hl2 rs =>
    have := atT_value x hl hl2 rs
    rw [hd] at this
    obtain ⟨p, e, rv⟩ := this
    exact tail_any hm.typeIs slot_dict_getitem.lookup (wpAny_getItem_heap (knd := W.tk) (tupleKind_room_in1 (by have := r.2.2; omega)) k1 hm e (h _ s.heap _ (keeps_refl _) rv)) (hs _ _)

/-- a method of a built-in type, called with arguments -/
theorem wp_meth {o e : Expr} {es : List Expr} {name : Str} {apos pos : Pos} {Ty id : String} {d0 : D} {ds : List D} (pa : PlainAttrs Ty) (slot : Slot Ty name id) (hty : typeOf (.builtin id) = pure (.type "method_descriptor"))
    (x : Ev W n env X Z T ρ o d0 T1) (y : Evs W n env X Z T1 ρ (e :: es) ds T2) {A : Around} {s : Shared} {Q : Value → Shared → Prop} {E : Value → Shared → Prop} (r : Room n A) (L : Look W env X Z T ρ s.heap)
    (hT : ∀ v (s1 : Shared), T1.P s1.heap → Rep W X s1.heap v d0 → s1.TypeIs v Ty ∧ ∀ a, v = .ref a → ∃ ob, s1.heap.get? a = some ob ∧ ob.dict = none)
    (k : ∀ v vs h tk, Aft Z s.heap h → T2.P h → Rep W X h v d0 → Reps W X h vs ds → wpAny W.M A (call (.builtin id) (v :: vs)) Q E { s with heap := h, toks := tk })
    (hbase : attributeBase o name env (eval o env) = eval o env := by rfl)
    (hfew : ((backTo pos (starEach (e :: es) env)).all (fun x => !x.1) && (backToKw pos (keywordEach [] env)).all (fun x => x.1.isSome) && decide ((e :: es).length + ([] : List Keyword).length + (if ([] : List Keyword).isEmpty then 0 else 1) < 30)) = true := by rfl)
    (hline : (apos.endLine == pos.line) = true := by rfl) (he : starEach (e :: es) env = (false, eval e env) :: starEach es env := by rfl) (hplain : (backTo pos (starEach es env)).any (·.1) = false := by rfl) :
    wpAny W.M A (eval (.Call (.Attribute o name apos) (e :: es) [] pos) env) Q E s :=
  wpAny_Call_method hbase hfew hline pa slot hty (x.run A s _ E r L fun v h1 tk1 a1 t1 q1 => ⟨(hT v { s with heap := h1, toks := tk1 } t1 q1).1, (hT v { s with heap := h1, toks := tk1 } t1 q1).2,
    callWith_method1 (first := [v]) (y.run A _ pos _ E r (L.next a1 t1) fun vs h2 tk2 a2 t2 q2 => k v vs h2 tk2 (a1.trans a2) t2 (q1.up (a2.up L.zx)) q2) he hplain⟩)

/-- table.get(key) -/
theorem ev_tget {o e : Expr} {apos pos : Pos} {x : List Int} {ks : List (List Int)} {ds : List D} (xo : Ev W n env X Z T ρ o (.tdict ks ds) T1) (y : Evs W n env X Z T1 ρ [e] [.tup (x.map .int)] T2)
    (hbase : attributeBase o "get" env (eval o env) = eval o env := by rfl) (hline : (apos.endLine == pos.line) = true := by rfl) (he : starEach [e] env = (false, eval e env) :: starEach [] env := by rfl) :
    Ev W n env X Z T ρ (.Call (.Attribute o "get" apos) [e] [] pos) ((atT ks ds x).getD .none) T2 := .mk fun A s Q E r L h =>
  wp_meth (he := he) (hline := hline) (hbase := hbase) (hfew := by rw [he]; rfl) PySem.F.plainAttrs_dict F.slot_dict_get (by kernel_rfl) xo y r L (fun v s1 _ q => by
    cases q using Rep.tdictC with
    | @tdict a as vs na lo nb hm hl hl2 rs =>
      refine ⟨hm.typeIs, fun a' e => ?_⟩
      cases e
      obtain ⟨o, es, ep, ho, hx, _⟩ := hm
      exact ⟨o, ho, hx.2.1⟩) fun v vs h2 tk2 a2 t2 q1 q2 => by
    cases q2 using Reps.consC with
    | cons q2 q3 =>
      cases q3 using Reps.nilC
      obtain ⟨a1, rfl, _, k1⟩ := tk_is q2
      cases q1 using Rep.tdictC with
      | @tdict a as vs na lo nb hm hl hl2 rs =>
        have hTy : Shared.TypeIs { s with heap := h2, toks := tk2 } (.ref a) "dict" := hm.typeIs
        refine call_meetsIn F.slot_dict_get hTy F.entry_dict_get (F.args_dict_get_2 _ _) (meetsH_dict_get W.tk a a1 lo) ⟨tupleKind_room_in1 (by have := r.2.2; omega), x, _, k1, hm, ?_⟩
        have := atT_value x hl hl2 rs
        cases q : atT ks ds x with
        | none =>
          rw [q] at this h; rw [this]
          exact h .none h2 _ a2 t2 .none
        | some d =>
          rw [q] at this h; obtain ⟨p, e, rv⟩ := this; rw [e]
          exact h p.2 h2 _ a2 t2 rv
end
end Mine

end
-- part FWD
section
open PySem PySem.W PyProof.Rows PySem.Calls PySem.Spec
set_option maxRecDepth 20000
set_option linter.unusedVariables false
namespace Mine

/-- an object that its frame owns and may turn -/
inductive OD where
  | list (ds : List D)
  | tdict (ks : List (List Int)) (ds : List D)
  | group (g : List (Int × List D))
  | box (Lr : Addr) (ns : List Int) (j : Int)
theorem ints_rep {W : Wd} {X : Addr → Prop} {h : Heap} : ∀ {vs : List Value} {ns : List Int}, IntsAre vs ns → Reps W X h vs (ns.map .int)
  | _, _, .nil => .nil
  | _, _, .cons n t r => .cons (.int n t) (ints_rep r)

def GrpAt (W : Wd) (X : Addr → Prop) (h : Heap) : List (Int × List D) → List Addr → Prop
  | [], [] => True
  | (_, ds) :: g, a :: as => (∃ vs, h.PlainList a (List.toArray vs) ∧ Reps W X h vs ds) ∧ GrpAt W X h g as
  | _, _ => False
def OD.At (W : Wd) (X : Addr → Prop) (h : Heap) (as : List Addr) (a : Addr) : OD → Prop
  | .list ds => ∃ vs, h.PlainList a (List.toArray vs) ∧ Reps W X h vs ds
  | .tdict ks ds => ∃ (kas : List Addr) (vs : List Value), (∀ b ∈ kas, ¬ X b) ∧ h.DictOfH W.tk a (ks.zip (kas.zip vs)) ∧ ks.length = kas.length ∧ kas.length = vs.length ∧ Reps W X h vs ds
  | .group g => h.DictOf W.ik a ((g.map (·.1)).zip (as.map Value.ref)) ∧ GrpAt W X h g as
  | .box Lr ns j => ∃ (t : Tok) (vs : List Value), h.PlainList a #[.ref Lr, .int j t] ∧ h.PlainList Lr (List.toArray vs) ∧ IntsAre vs ns ∧ ¬ X Lr
section
variable {W : Wd} {X X' : Addr → Prop} {h h' : Heap}
theorem GrpAt.up : ∀ {g : List (Int × List D)} {as : List Addr}, (∀ a ∈ as, ∀ o, h.get? a = some o → h'.get? a = some o) → (∀ b o, ¬ X b → h.get? b = some o → h'.get? b = some o) → GrpAt W X h g as → GrpAt W X h' g as
  | [], [], _, _, _ => trivial
  | (_, ds) :: g, a :: as, ka, k, ⟨⟨vs, l, r⟩, q⟩ => ⟨⟨vs, l.at fun o e => ka a List.mem_cons_self o e, r.up k⟩, q.up (fun b hb => ka b (List.mem_cons_of_mem _ hb)) k⟩
  | [], _ :: _, _, _, q => q.elim
  | _ :: _, [], _, _, q => q.elim
theorem GrpAt.weak : ∀ {g : List (Int × List D)} {as : List Addr}, (∀ b, X' b → (∃ o, h.get? b = some o) → X b) → GrpAt W X h g as → GrpAt W X' h g as
  | [], [], _, _ => trivial
  | (_, ds) :: g, a :: as, k, ⟨⟨vs, l, r⟩, q⟩ => ⟨⟨vs, l, r.weak k⟩, q.weak k⟩
  | [], _ :: _, _, q => q.elim
  | _ :: _, [], _, q => q.elim
theorem GrpAt.length : ∀ {g : List (Int × List D)} {as : List Addr}, GrpAt W X h g as → as.length = g.length
  | [], [], _ => rfl
  | _ :: g, _ :: as, ⟨_, q⟩ => by simp [q.length]
  | [], _ :: _, q => q.elim
  | _ :: _, [], q => q.elim
theorem OD.At.up {as : List Addr} {a : Addr} {od : OD} (ka : ∀ b, (b = a ∨ b ∈ as) → ∀ o, h.get? b = some o → h'.get? b = some o) (k : ∀ b o, ¬ X b → h.get? b = some o → h'.get? b = some o) (t : od.At W X h as a) : od.At W X h' as a := by
  cases od with
  | list ds => obtain ⟨vs, l, r⟩ := t; exact ⟨vs, l.at fun o e => ka a (.inl rfl) o e, r.up k⟩
  | tdict ks ds => obtain ⟨kas, vs, nb, hd, l1, l2, r⟩ := t; exact ⟨kas, vs, nb, dictOfH_at hd (fun o e => ka a (.inl rfl) o e) (fun _ hx o e => k _ o (nb _ (mem_zip3 hx)) e), l1, l2, r.up k⟩
  | group g => exact ⟨dictOf_at t.1 fun o e => ka a (.inl rfl) o e, t.2.up (fun b hb o e => ka b (.inr hb) o e) k⟩
  | box Lr ns j => obtain ⟨u, vs, l, l2, hI, nx⟩ := t; exact ⟨u, vs, l.at fun o e => ka a (.inl rfl) o e, l2.at fun o e => k _ o nx e, hI, nx⟩
theorem OD.At.weak {as : List Addr} {a : Addr} {od : OD} (k : ∀ b, X' b → (∃ o, h.get? b = some o) → X b) (t : od.At W X h as a) : od.At W X' h as a := by
  cases od with
  | list ds => obtain ⟨vs, l, r⟩ := t; exact ⟨vs, l, r.weak k⟩
  | tdict ks ds =>
    obtain ⟨kas, vs, nb, hd, l1, l2, r⟩ := t
    refine ⟨kas, vs, fun b hb y => nb b hb (k b y ?_), hd, l1, l2, r.weak k⟩
    obtain ⟨_, _, _, _, _, _, _, his, _⟩ := hd
    obtain ⟨i, hi, rfl⟩ := List.mem_iff_getElem.mp hb
    have hk : i < ks.length := by omega
    have hv : i < vs.length := by omega
    obtain ⟨o, _, _, e, _⟩ := his (ks[i], kas[i], vs[i]) (List.mem_iff_getElem.mpr ⟨i, by simp; omega, by simp⟩)
    exact ⟨o, e⟩
  | group g => exact ⟨t.1, t.2.weak k⟩
  | box Lr ns j => obtain ⟨u, vs, l, l2, hI, nx⟩ := t; exact ⟨u, vs, l, l2, hI, fun x => nx (k _ x (let ⟨_, e⟩ := l2; ⟨_, e⟩))⟩
end

/-- the owned objects of a frame -/
def ownP (W : Wd) (V : Addr → Prop) (O : List (Addr × OD)) (S : Sp) (h : Heap) : Prop :=
  ∃ as : List Addr, (O.map (·.1) ++ as).Nodup ∧ (∀ a, V a → S.X a) ∧ (∀ a ∈ O.map (·.1) ++ as, S.M a ∧ S.X a ∧ ¬ V a ∧ (a == sysModules) = false) ∧ ∀ p ∈ O, p.2.At W S.X h as p.1
def own (W : Wd) {V : Addr → Prop} (O : List (Addr × OD)) : TT V where
  P := ownP W V O
  turns := fun S h h' k ⟨as, nd, vx, ma, od⟩ => ⟨as, nd, vx, ma, fun p hp => (od p hp).up (fun b hb o e => by
      have : b ∈ O.map (·.1) ++ as := by
        rcases hb with rfl | hb
        · exact List.mem_append_left _ (List.mem_map.mpr ⟨p, hp, rfl⟩)
        · exact List.mem_append_right _ hb
      exact k b o (ma b this).2.2.1 (.inl (ma b this).1) e) fun b o n e => k b o (fun v => n (vx b v)) (.inr n) e⟩
  grow := fun S X' h mx vx hx ⟨as, nd, _, ma, od⟩ => ⟨as, nd, vx, fun a ha => ⟨(ma a ha).1, mx a (ma a ha).1, (ma a ha).2.2⟩, fun p hp => (od p hp).weak hx⟩

section
variable {W : Wd} {V : Addr → Prop} {S : Sp} {h h' : Heap} {O O1 O2 : List (Addr × OD)} {a : Addr} {od od' : OD}
theorem ownP.set {as as' : List Addr} (nd' : ((O1 ++ (a, od') :: O2).map (·.1) ++ as').Nodup) {S' : Sp} (t : ownP W V (O1 ++ (a, od) :: O2) S h) (vx : ∀ a, V a → S'.X a) (ma : ∀ b ∈ (O1 ++ (a, od') :: O2).map (·.1) ++ as', S'.M b ∧ S'.X b ∧ ¬ V b ∧ (b == sysModules) = false)
    (ko : ∀ p ∈ O1 ++ O2, ∀ as, p.2.At W S.X h as p.1 → p.2.At W S'.X h' as' p.1) (at' : od'.At W S'.X h' as' a) : ownP W V (O1 ++ (a, od') :: O2) S' h' := by
  obtain ⟨as, nd, _, _, q⟩ := t
  refine ⟨as', nd', vx, ma, fun p hp => ?_⟩
  rcases List.mem_append.mp hp with hp | hp
  · exact ko p (List.mem_append_left _ hp) as (q p (List.mem_append_left _ hp))
  · rcases List.mem_cons.mp hp with rfl | hp
    · exact at'
    · exact ko p (List.mem_append_right _ hp) as (q p (List.mem_append_right _ (List.mem_cons_of_mem _ hp)))
/-- one owned object (its inner lists unturned) turns -/
theorem ownP.turn (t : ownP W V (O1 ++ (a, od) :: O2) S h) (k : KeepsBut (· = a) h h') (at' : ∀ as, od.At W S.X h as a → od'.At W S.X h' as a) : ownP W V (O1 ++ (a, od') :: O2) S h' := by
  obtain ⟨as, nd, vx, ma, q⟩ := t
  have e : (O1 ++ (a, od') :: O2).map (·.1) = (O1 ++ (a, od) :: O2).map (·.1) := by simp
  have hxa : S.X a := (ma a (by simp)).2.1
  refine ⟨as, e ▸ nd, vx, e ▸ ma, fun p hp => ?_⟩
  have ne : ∀ r ∈ O1 ++ O2, ∀ b, (b = r.1 ∨ b ∈ as) → b ≠ a := fun r hr b hb e' => by
    simp only [List.map_append, List.map_cons, List.append_assoc, List.cons_append] at nd
    have nd2 := List.nodup_append.mp nd
    have nd3 := List.nodup_cons.mp nd2.2.1
    rcases hb with hb | hb
    · rcases List.mem_append.mp hr with hr | hr
      · exact nd2.2.2 r.1 (List.mem_map.mpr ⟨r, hr, rfl⟩) a List.mem_cons_self (hb.symm.trans e')
      · exact nd3.1 (List.mem_append_left _ (List.mem_map.mpr ⟨r, hr, hb.symm.trans e'⟩))
    · exact nd3.1 (List.mem_append_right _ (e' ▸ hb))
  have other : ∀ p ∈ O1 ++ O2, p ∈ O1 ++ (a, od) :: O2 → p.2.At W S.X h' as p.1 := fun p hp hp' => (q p hp').up (fun b hb o e => k b o (ne p hp b hb) e) fun b o n e => k b o (fun e' => n (e' ▸ hxa)) e
  rcases List.mem_append.mp hp with hp | hp
  · exact other p (List.mem_append_left _ hp) (List.mem_append_left _ hp)
  · rcases List.mem_cons.mp hp with rfl | hp
    · exact at' as (q (a, od) (by simp))
    · exact other p (List.mem_append_right _ hp) (List.mem_append_right _ (List.mem_cons_of_mem _ hp))
end

section
variable {W : Wd} {n : Nat} {env : Env} {Z : Addr → Prop} {T T' T1 T2 : TT (Vof env)} {ρ ρ' ρ1 : Env1} {O O1 O2 : List (Addr × OD)}

/-- after owned things turned (all of them in M) -/
theorem Fm.mut {hb h h' : Heap} {Y : Addr → Prop} {S : Sp} {K : Addr → Prop} (f : Fm W env hb Y Z S T ρ h) (k : KeepsBut K h h') (km : ∀ b, K b → S.M b ∧ ¬ Vof env b) (th : ∀ b, (∃ o, h.get? b = some o) → ∃ o, h'.get? b = some o) (t : T'.P S h') :
    Fm W env hb Y Z S T' ρ h' ∧ AftS S S h h' := by
  have ku : ∀ b o, ¬ S.X b → h.get? b = some o → h'.get? b = some o := fun b o n e => k b o (fun q => n (f.mx b (km b q).1)) e
  have kl : ¬ K env.locals := fun q => (km _ q).2 (.inl rfl)
  have kc : ∀ x c, env.cells.lookup x = some c → ¬ K c := fun x c e q => (km c q).2 (.inr ⟨x, e⟩)
  refine ⟨{
    look := {
      base := fun b o e => k b o (fun q => by have := f.look.xb b (f.mx b (km b q).1); rw [this] at e; cases e) (f.look.base b o e)
      vars := fun x d e => by
        obtain ⟨v, t, r⟩ := f.look.vars x d e
        refine ⟨v, ?_, r.up ku⟩
        rcases t with ⟨k1, m, n, e⟩ | ⟨k1, c, e, i⟩
        · exact .inl ⟨k1, m, n.at' fun o e => k _ o kl e, e⟩
        · exact .inr ⟨k1, c, e, isCell_at i fun o e' => k _ o (kc x c e) e'⟩
      own := t
      zx := f.look.zx
      xb := f.look.xb
      xt := fun a x => th a (f.look.xt a x)
      zl := f.look.zl
      zc := f.look.zc
      kind := f.look.kind
      gl := f.look.gl
      bl := f.look.bl }
    keep := fun b o e => k b o (fun q => by have := f.mb b (km b q).1; rw [this] at e; cases e) (f.keep b o e)
    ns := let ⟨m, e⟩ := f.ns; ⟨m, e.at' fun o q => k _ o kl q⟩
    cells := let ⟨cm, c⟩ := f.cells; ⟨cm, fun x b e => isCell_at (c.cell x b e) fun o q => k _ o (kc x b e) q, c.apart, c.above⟩
    cin := f.cin
    vm := f.vm
    mx := f.mx
    zm := f.zm
    yx := f.yx
    yh := f.yh
    mb := f.mb
    above := f.above }, ⟨fun b o n e => k b o (fun q => n (km b q).1) e, th, fun _ e => e, fun _ e => .inl e, fun _ e => e, fun _ e => .inl e⟩⟩

/-- x.append(e) of an owned list -/
theorem ex1_append {x : Str} {np ap cp p : Pos} {e : Expr} {a : Addr} {ds : List D} {d : D} (hx : ρ.lookup x = some (.ptr a)) (y : EvS W n env Z (own W (O1 ++ (a, .list ds) :: O2)) ρ e d (own W (O1 ++ (a, .list ds) :: O2))) (hl : ds.length ≤ 1000)
    (hi : interactive env = false := by rfl) (hdb : (x == ("__debug__" : Str)) = false := by decide) (hcd : (x == ("__classdict__" : Str)) = false := by decide)
    (hbase : attributeBase (.Name x np) "append" env (eval (.Name x np) env) = eval (.Name x np) env := by rfl) (hline : (ap.endLine == cp.line) = true := by rfl) (he : starEach [e] env = (false, eval e env) :: starEach [] env := by rfl) :
    Ex1 W n env Z (own W (O1 ++ (a, .list ds) :: O2)) ρ (.Expr (.Call (.Attribute (.Name x np) "append" ap) [e] [] cp) p) (.next ρ) (own W (O1 ++ (a, .list (ds ++ [d])) :: O2)) := .mk fun A hb Y S s Q E r f k => by
  refine wpAny_Expr (wp_meth (hbase := hbase) (hline := hline) (he := he) (hfew := by rw [he]; rfl) (X := S.X) (d0 := .ptr a) (ds := [d]) (T1 := (own W (O1 ++ (a, .list ds) :: O2)).at S) (T2 := (own W (O1 ++ (a, .list ds) :: O2)).at S) F.plainAttrs_list slot_list_append (by kernel_rfl) (ev_name hx hdb hcd) (evs_cons (y S) evs_nil he) r f.look (fun v s1 t q => ?_) fun v vs h1 tk a1 t q1 q2 => ?_) hi
  · cases q using Rep.ptrC
    obtain ⟨as, nd, vx, ma, od⟩ := t
    obtain ⟨us, l, _⟩ := od (a, .list ds) (by simp)
    refine ⟨l.isList.typeIs, fun b e => ?_⟩
    cases e
    obtain ⟨nn, e⟩ := l
    exact ⟨_, e, rfl⟩
  · cases q1 using Rep.ptrC
    cases q2 using Reps.consC with
    | cons q2 q3 =>
      cases q3 using Reps.nilC
      rename_i u
      have f1 : Fm W env hb Y Z S (own W (O1 ++ (a, .list ds) :: O2)) ρ h1 := f.next a1 t
      obtain ⟨as, nd, vx, ma, od⟩ := id t
      obtain ⟨us, l, ru⟩ := od (a, .list ds) (by simp)
      have hma := ma a (by simp)
      refine wpAny_list_append_plain (s := { s with heap := h1, toks := tk }) l (fun h2 l2 sb => ?_) (by rw [List.size_toArray, ru.length, sizeLine_eq]; omega)
      have kb : KeepsBut (· = a) h1 h2 := fun b o n e => (sb.2 b n).trans e
      have ku : ∀ b o, ¬ S.X b → h1.get? b = some o → h2.get? b = some o := fun b o n e => kb b o (fun e' => n (e' ▸ hma.2.1)) e
      have th : ∀ b, (∃ o, h1.get? b = some o) → ∃ o, h2.get? b = some o := fun b ⟨o, e⟩ => by
        by_cases q : b = a
        · obtain ⟨nn, e2⟩ := l2; exact ⟨_, q ▸ e2⟩
        · exact ⟨o, kb b o q e⟩
      obtain ⟨f2, b2⟩ := f1.mut (T' := own W (O1 ++ (a, .list (ds ++ [d])) :: O2)) kb (fun b e => e ▸ ⟨hma.1, hma.2.2.1⟩) th (ownP.turn t kb fun _ _ => ⟨us ++ [u], by simpa using l2, (ru.up ku).snoc (q2.up ku)⟩)
      exact k S h2 tk ((f.aft a1).trans b2) f2

/-- the swapped stores of a pair -/
theorem ex1_swap2 {es : List Expr} {kk : Nat} {tpos pos : Pos} {e : Expr} {d1 d2 : D} (x1 x2 : Str) (y : EvS W n env Z T ρ e (.tup [d1, d2]) T1)
    (h1 : env.kindOf x1 = some .local) (h2 : env.kindOf x2 = some .local)
    (hs : swapsWithSole [.Tuple es kk tpos] e pos.line env = pure false := by rfl) (hw : swappedStores [.Tuple es kk tpos] e env = pure (some [x1, x2]) := by rfl) :
    Ex1 W n env Z T ρ (.Assign [.Tuple es kk tpos] e pos) (.next ((x1, d1) :: (x2, d2) :: ρ)) T1 := .mk fun A hb Y S s Q E r f k =>
  Assign_Tuple_swapped (names := [x1, x2]) ((y S).run A s _ E r f.look fun v h1' tk1 a1 t1 q1 => by
    cases q1 using Rep.tupC with
    | @tup a vs na ht rs =>
      cases rs using Reps.consC with
      | @cons u1 _ r1 rs => cases rs using Reps.consC with
        | @cons u2 _ r2 rs =>
          cases rs using Reps.nilC
          refine unpackItems_tuple (items := #[u1, u2]) r.1 ht fun h2' he => ?_
          have kk2 : Keeps h1' h2' := fun b o e => he b o (Nat.ne_of_lt (Heap.lt_size e)) e
          have f1 : Fm W env hb Y Z S T1 ρ h2' := f.next (a1.trans (.of_keeps kk2)) ((T1.at S).st _ _ kk2 t1)
          refine assignInOrder_cons (bindName_ (wp_store (s := { s with heap := h2', toks := tk1 }) f1 (r2.up fun b o _ e => kk2 b o e) (.inl h2) fun h3 tk3 a3 f3 => ?_))
          refine assignInOrder_cons (bindName_ (wp_store (s := { s with heap := h3, toks := tk3 }) f3 (r1.up fun b o n e => a3.keep b o (fun m => n (f.mx b m)) (kk2 b o e)) (.inl h1) fun h4 tk4 a4 f4 => ?_))
          exact assignInOrder_nil (k S h4 tk4 ((f.aft (a1.trans (.of_keeps kk2))).trans (a3.trans a4)) f4)) hs hw

theorem ev_z0 {X Z : Addr → Prop} {V : Addr → Prop} {T T' : HP V} {ρ : Env1} {e : Expr} {d : D} (x : Ev W n env X (fun _ => False) T ρ e d T') : Ev W n env X Z T ρ e d T' := .mk fun A s Q E r L h =>
  x.run A s Q E r { L with zx := fun _ q => q.elim, zl := id, zc := fun _ _ _ => id } fun v h1 tk a t q => h v h1 tk (.of_keeps (a.keeps fun _ => id)) t q
end
end Mine

end
-- part FWE
section
open PySem PySem.W PyProof.Rows PySem.Calls PySem.Spec
set_option maxRecDepth 20000
set_option linter.unusedVariables false
namespace Mine

def OD.noGroup : OD → Bool
  | .group _ => false
  | _ => true
theorem OD.At.irrel {W : Wd} {X : Addr → Prop} {h : Heap} {as as' : List Addr} {a : Addr} {od : OD} (ng : od.noGroup = true) (t : od.At W X h as a) : od.At W X h as' a := by
  cases od with
  | list ds => exact t
  | tdict ks ds => exact t
  | group g => cases ng
  | box Lr ns j => exact t

def touch (g : List (Int × List D)) (k : Int) : List (Int × List D) := if k ∈ g.map (·.1) then g else g ++ [(k, [])]
def addTo (g : List (Int × List D)) (k : Int) (d : D) : List (Int × List D) := g.map fun p => if p.1 = k then (p.1, p.2 ++ [d]) else p

section
variable {W : Wd} {X : Addr → Prop} {h h' : Heap}
theorem addTo_keys (g : List (Int × List D)) (k : Int) (d : D) : (addTo g k d).map (·.1) = g.map (·.1) := by
  unfold addTo
  rw [List.map_map]
  refine List.map_congr_left fun p _ => ?_
  by_cases e : p.1 = k <;> simp [e]
theorem addTo_other {g : List (Int × List D)} {k : Int} {d : D} (hm : k ∉ g.map (·.1)) : addTo g k d = g := by
  unfold addTo
  rw [List.map_congr_left (g := id) (fun p hp => ?_), List.map_id]
  have : p.1 ≠ k := fun e => hm (e ▸ List.mem_map.mpr ⟨p, hp, rfl⟩)
  simp [this]
theorem grp_find {k : Int} : ∀ {g : List (Int × List D)} {as : List Addr}, (g.map (·.1)).Nodup → k ∈ g.map (·.1) → as.Nodup → GrpAt W X h g as → ∃ c ∈ as, valueAt ((g.map (·.1)).zip (as.map Value.ref)) k = some (.ref c) ∧ ∃ ds vs, (k, ds) ∈ g ∧ h.PlainList c (List.toArray vs) ∧ Reps W X h vs ds ∧
    ∀ (h' : Heap) u d, KeepsBut (· = c) h h' → (∀ b o, ¬ X b → h.get? b = some o → h'.get? b = some o) → h'.PlainList c (List.toArray (vs ++ [u])) → Rep W X h' u d → GrpAt W X h' (addTo g k d) as
  | [], _, _, hm, _, _ => by simp at hm
  | (k', ds) :: g, [], _, _, _, q => q.elim
  | (k', ds) :: g, a :: as, hn, hm, nd, ⟨⟨vs, l, r⟩, q⟩ => by
    simp only [List.map_cons, List.nodup_cons] at hn nd
    simp only [List.map_cons, List.zip_cons_cons, valueAt_cons]
    by_cases e : k' = k
    · subst e
      refine ⟨a, List.mem_cons_self, by simp, ds, vs, List.mem_cons_self, l, r, fun h' u d kb ku l' ru => ?_⟩
      unfold addTo
      rw [List.map_cons]
      simp only [if_true]
      refine ⟨⟨vs ++ [u], l', (r.up ku).snoc ru⟩, ?_⟩
      have := addTo_other (d := d) hn.1
      unfold addTo at this
      rw [this]
      exact q.up (fun b hb o e => kb b o (fun e' => nd.1 (e' ▸ hb)) e) ku
    · have hm' : k ∈ g.map (·.1) := by
        rcases List.mem_cons.mp hm with hm | hm
        · exact absurd hm.symm e
        · exact hm
      obtain ⟨c, hc, hv, ds2, vs2, m2, l2, r2, k2⟩ := grp_find hn.2 hm' nd.2 q
      refine ⟨c, List.mem_cons_of_mem _ hc, by simp [e, hv], ds2, vs2, List.mem_cons_of_mem _ m2, l2, r2, fun h' u d kb ku l' ru => ?_⟩
      have := k2 h' u d kb ku l' ru
      unfold addTo at this ⊢
      rw [List.map_cons]
      simp only [e, if_false]
      exact ⟨⟨vs, l.at fun o e => kb a o (fun e' => nd.1 (e' ▸ hc)) e, r.up ku⟩, this⟩
theorem value_none {k : Int} : ∀ {g : List (Int × List D)} {as : List Addr}, k ∉ g.map (·.1) → valueAt ((g.map (·.1)).zip (as.map Value.ref)) k = none
  | [], _, _ => by simp [valueAt]
  | _ :: _, [], _ => by simp [valueAt]
  | (k', ds) :: g, a :: as, hm => by
    simp only [List.map_cons, List.mem_cons, not_or] at hm
    simp only [List.map_cons, List.zip_cons_cons, valueAt_cons]
    rw [if_neg (fun e => hm.1 e.symm)]
    exact value_none hm.2
theorem GrpAt.snoc {a : Addr} {k : Int} : ∀ {g : List (Int × List D)} {as : List Addr}, GrpAt W X h g as → (∃ vs, h.PlainList a (List.toArray vs) ∧ Reps W X h vs []) → GrpAt W X h (g ++ [(k, [])]) (as ++ [a])
  | [], [], _, x => ⟨x, trivial⟩
  | (_, _) :: g, _ :: as, ⟨x, q⟩, y => ⟨x, q.snoc y⟩
  | [], _ :: _, q, _ => q.elim
  | _ :: _, [], q, _ => q.elim
end

section
variable {W : Wd} {n : Nat} {env : Env} {Z : Addr → Prop} {T T' T1 T2 : TT (Vof env)} {ρ ρ' ρ1 : Env1} {O O1 O2 : List (Addr × OD)}

abbrev Sp.plus (S : Sp) (a : Addr) : Sp := ⟨fun b => S.M b ∨ b = a, fun b => S.X b ∨ b = a⟩
theorem Fm.alloc {hb h h' : Heap} {Y : Addr → Prop} {S : Sp} {a : Addr} (f : Fm W env hb Y Z S T ρ h) (k : Keeps h h') (ha : h.get? a = none) (hx : ∃ o, h'.get? a = some o) (t : T'.P (S.plus a) h') : Fm W env hb Y Z (S.plus a) T' ρ h' ∧ AftS S (S.plus a) h h' := by
  have w : ∀ b, (S.X b ∨ b = a) → (∃ o, h.get? b = some o) → S.X b := fun b q ⟨o, e⟩ => q.elim id fun q => by rw [q, ha] at e; cases e
  refine ⟨{
    look := {
      base := fun b o e => k b o (f.look.base b o e)
      vars := fun x d e => let ⟨v, q, r⟩ := f.look.vars x d e; ⟨v, q.up (Z := fun _ => False) (.of_keeps k) id (fun _ _ _ => id), (r.weak w).up fun b o _ e => k b o e⟩
      own := t
      zx := fun b z => .inl (f.look.zx b z)
      xb := fun b q => q.elim (f.look.xb b) fun q => by
        cases e : W.base.get? b with
        | none => rfl
        | some o => have := f.look.base b o e; rw [q, ha] at this; cases this
      xt := fun b q => q.elim (fun x => let ⟨o, e⟩ := f.look.xt b x; ⟨o, k b o e⟩) fun q => q ▸ hx
      zl := f.look.zl
      zc := f.look.zc
      kind := f.look.kind
      gl := f.look.gl
      bl := f.look.bl }
    keep := fun b o e => k b o (f.keep b o e)
    ns := let ⟨m, e⟩ := f.ns; ⟨m, e.at' fun o q => k _ o q⟩
    cells := let ⟨cm, c⟩ := f.cells; ⟨cm, fun x b e => isCell_at (c.cell x b e) fun o q => k _ o q, c.apart, c.above⟩
    cin := f.cin
    vm := fun b v => .inl (f.vm b v)
    mx := fun b m => m.elim (fun m => .inl (f.mx b m)) .inr
    zm := fun b z => .inl (f.zm b z)
    yx := fun b y => .inl (f.yx b y)
    yh := f.yh
    mb := fun b m => m.elim (f.mb b) fun q => by
      cases e : hb.get? b with
      | none => rfl
      | some o => have := f.keep b o e; rw [q, ha] at this; cases this
    above := f.above }, ⟨fun b o _ e => k b o e, fun b ⟨o, e⟩ => ⟨o, k b o e⟩, fun _ q => .inl q, fun b q => q.elim .inl fun q => .inr (q ▸ ha), fun _ q => .inl q, fun b q => q.elim .inl fun q => .inr (q ▸ ha)⟩⟩

theorem Fm.notV {hb h : Heap} {Y : Addr → Prop} {S : Sp} {a : Addr} (f : Fm W env hb Y Z S T ρ h) (ha : h.get? a = none) : ¬ Vof env a := fun v => by
  obtain ⟨o, e⟩ := f.look.xt a (f.mx a (f.vm a v)); rw [ha] at e; cases e

/-- what is owned stays so when something is made and owned too -/
theorem ownP.plus {hb h h' : Heap} {Y : Addr → Prop} {S : Sp} {a : Addr} {od : OD} (f : Fm W env hb Y Z S (own W O) ρ h) (k : Keeps h h') (ha : h.get? a = none) (lo : (a == sysModules) = false) (ng : ∀ p ∈ O, p.2.noGroup = true) (at' : od.At W (S.plus a).X h' [] a) :
    ownP W (Vof env) ((a, od) :: O) (S.plus a) h' := by
  obtain ⟨as, nd, vx, ma, q⟩ := f.look.own
  have na : ∀ b ∈ O.map (·.1), b ≠ a := fun b hb e => by
    obtain ⟨o, e'⟩ := f.look.xt b (ma b (List.mem_append_left _ hb)).2.1
    rw [e, ha] at e'; cases e'
  have w : ∀ b, (S.X b ∨ b = a) → (∃ o, h.get? b = some o) → S.X b := fun b q ⟨o, e⟩ => q.elim id fun q => by rw [q, ha] at e; cases e
  refine ⟨[], ?_, fun b v => .inl (vx b v), fun b hb => ?_, fun p hp => ?_⟩
  · rw [List.append_nil, List.map_cons, List.nodup_cons]
    exact ⟨fun hm => na a hm rfl, (List.nodup_append.mp nd).1⟩
  · rw [List.append_nil, List.map_cons] at hb
    rcases List.mem_cons.mp hb with rfl | hb
    · exact ⟨.inr rfl, .inr rfl, f.notV ha, lo⟩
    · have m := ma b (List.mem_append_left _ hb)
      exact ⟨.inl m.1, .inl m.2.1, m.2.2⟩
  · rcases List.mem_cons.mp hp with rfl | hp
    · exact at'
    · exact (((q p hp).weak w).up (fun b _ o e => k b o e) fun b o _ e => k b o e).irrel (ng p hp)

/-- x = {} : a dict of tuple keys, or of groups -/
theorem ex_newdict {x : Str} {np p1 p2 : Pos} {rest : List Stmt} {d : D} {od : OD} (hod : od = .tdict [] [] ∨ od = .group []) (hx : env.kindOf x = some .local ∨ env.kindOf x = some .cell) (ng : ∀ p ∈ O, p.2.noGroup = true)
    (y : ∀ a, Ex W n env Z (own W ((a, od) :: O)) ((x, .ptr a) :: ρ) rest (.ret d) TT.tt) (hs : swapsWith (.Dict [] [] p1) (some (.Name x np)) p2.line env = pure false := by rfl) : Ex W n env Z (own W O) ρ (.Assign [.Name x np] (.Dict [] [] p1) p2 :: rest) (.ret d) TT.tt := .mk fun A hb Y S s Q E r f k => by
  refine wpAny_execs_cons (wpAny_Assign_Name (wpAny_Dict_empty ?_) hs)
  have kk := keeps_push s.heap { cls := .type "dict", data := .dict #[] }
  have ha := size_none s.heap
  obtain ⟨f1, b1⟩ := f.alloc (T' := own W ((s.heap.objs.size, od) :: O)) kk ha ⟨_, Heap.get?_push_size _ rfl⟩ (ownP.plus f kk ha (lo_new f.look.base) ng (by
    rcases hod with rfl | rfl
    · exact ⟨[], [], by simp, Heap.DictOfH.new _, rfl, rfl, .nil⟩
    · exact ⟨Heap.DictOf.new _, trivial⟩))
  exact wp_store (d := .ptr s.heap.objs.size) (s := { s with heap := s.heap.push { cls := .type "dict", data := .dict #[] } }) f1 (.ptr _) hx fun h2 tk2 a2 f2 => (y _).run A hb Y _ _ Q E r f2 k

/-- x.setdefault(k, []).append(e) of an owned dict of lists -/
theorem ex1_setdef {x : Str} {np ap1 ap2 cp1 cp2 lp p : Pos} {ke e : Expr} {FA : Addr} {k : Int} {d : D} {g : List (Int × List D)} (hx : ρ.lookup x = some (.ptr FA)) (ng : ∀ p ∈ O1 ++ O2, p.2.noGroup = true) (zo : ∀ a, Z a → a ∈ (O1 ++ O2).map (·.1))
    (yk : EvS W n env Z (own W (O1 ++ (FA, .group g) :: O2)) ρ ke (.int k) (own W (O1 ++ (FA, .group g) :: O2))) (y : EvS W n env Z (own W (O1 ++ (FA, .group (touch g k)) :: O2)) ρ e d (own W (O1 ++ (FA, .group (touch g k)) :: O2)))
    (hl : g.length ≤ 1000) (hl2 : ∀ p ∈ g, p.2.length ≤ 1000)
    (hi : interactive env = false := by rfl) (hdb : (x == ("__debug__" : Str)) = false := by decide) (hcd : (x == ("__classdict__" : Str)) = false := by decide)
    (hbase1 : attributeBase (.Name x np) "setdefault" env (eval (.Name x np) env) = eval (.Name x np) env := by rfl)
    (hbase2 : attributeBase (.Call (.Attribute (.Name x np) "setdefault" ap1) [ke, .List [] lp] [] cp1) "append" env (eval (.Call (.Attribute (.Name x np) "setdefault" ap1) [ke, .List [] lp] [] cp1) env) = eval (.Call (.Attribute (.Name x np) "setdefault" ap1) [ke, .List [] lp] [] cp1) env := by rfl)
    (hline1 : (ap1.endLine == cp1.line) = true := by rfl) (hline2 : (ap2.endLine == cp2.line) = true := by rfl) (he1 : starEach [ke, .List [] lp] env = (false, eval ke env) :: starEach [.List [] lp] env := by rfl) (he3 : starEach [.List [] lp] env = (false, eval (.List [] lp) env) :: starEach [] env := by rfl) (he2 : starEach [e] env = (false, eval e env) :: starEach [] env := by rfl) :
    Ex1 W n env Z (own W (O1 ++ (FA, .group g) :: O2)) ρ (.Expr (.Call (.Attribute (.Call (.Attribute (.Name x np) "setdefault" ap1) [ke, .List [] lp] [] cp1) "append" ap2) [e] [] cp2) p) (.next ρ) (own W (O1 ++ (FA, .group (addTo (touch g k) k d)) :: O2)) := .mk fun A hb Y S s Q E r f kont => by
  have fin : ∀ (S' : Sp) (h3 : Heap) (tk3 : Nat) (as' : List Addr) (c : Addr), AftS S S' s.heap h3 → Fm W env hb Y Z S' (own W (O1 ++ (FA, .group (touch g k)) :: O2)) ρ h3 → ((O1 ++ (FA, .group (touch g k)) :: O2).map (·.1) ++ as').Nodup →
      (∀ a ∈ (O1 ++ (FA, .group (touch g k)) :: O2).map (·.1) ++ as', S'.M a ∧ S'.X a ∧ ¬ Vof env a ∧ (a == sysModules) = false) → h3.DictOf W.ik FA (((touch g k).map (·.1)).zip (as'.map Value.ref)) → valueAt (((touch g k).map (·.1)).zip (as'.map Value.ref)) k = some (.ref c) →
      GrpAt W S'.X h3 (touch g k) as' → Shared.TypeIs { s with heap := h3, toks := tk3 } (.ref c) "list" ∧ (∀ a, Value.ref c = .ref a → ∃ ob, h3.get? a = some ob ∧ ob.dict = none) ∧
        wpAny W.M A (callWith cp2 (.builtin "list.append") [.ref c] (backTo cp2 (starEach [e] env)) []) (fun v s' => match v with | .ref _ => False | _ => Q .next s') E { s with heap := h3, toks := tk3 } := fun S' h3 tk3 as' c b3 f3 nd ma hD hv hG => by
    have hkm : k ∈ (touch g k).map (·.1) := by
      unfold touch
      split
      · assumption
      · simp
    have hkn : ((touch g k).map (·.1)).Nodup := by
      obtain ⟨_, _, _, _, _, _, _, _, hn⟩ := hD
      rwa [List.map_fst_zip (by rw [List.length_map, List.length_map, hG.length]; exact Nat.le_refl _)] at hn
    have ndas : as'.Nodup := (List.nodup_append.mp nd).2.1
    obtain ⟨c', hc, hv', ds0, vs0, m0, l0, r0, _⟩ := grp_find hkn hkm ndas hG
    rw [hv] at hv'
    cases hv'
    have mc := ma c (List.mem_append_right _ hc)
    refine ⟨l0.isList.typeIs, fun a e => ?_, ?_⟩
    · cases e
      obtain ⟨nn, e⟩ := l0
      exact ⟨_, e, rfl⟩
    · refine callWith_method1 (first := [.ref c]) (args_cons ((y S').run A _ _ E r f3.look fun vd h4 tk4 a4 t4 q4 => args_nil ?_) he2) he2 rfl
      have f4 : Fm W env hb Y Z S' (own W (O1 ++ (FA, .group (touch g k)) :: O2)) ρ h4 := f3.next a4 t4
      have nz : ∀ b, (b = FA ∨ b ∈ as') → ¬ Z b := fun b hb z => by
        have hz := zo b z
        simp only [List.map_append, List.map_cons, List.append_assoc, List.cons_append] at nd hz
        have nd2 := List.nodup_append.mp nd
        have nd3 := List.nodup_cons.mp nd2.2.1
        have nd4 := List.nodup_append.mp nd3.2
        rcases List.mem_append.mp hz with hz | hz
        · rcases hb with rfl | hb
          · exact nd2.2.2 b hz b List.mem_cons_self rfl
          · exact nd2.2.2 b hz b (List.mem_cons_of_mem _ (List.mem_append_right _ hb)) rfl
        · rcases hb with rfl | hb
          · exact nd3.1 (List.mem_append_left _ hz)
          · exact nd4.2.2 b hz b hb rfl
      have hG4 : GrpAt W S'.X h4 (touch g k) as' := hG.up (fun b hb o e => a4.keep b o (nz b (.inr hb)) e) (a4.up f3.look.zx)
      have hD4 : h4.DictOf W.ik FA (((touch g k).map (·.1)).zip (as'.map Value.ref)) := dictOf_at hD fun o e => a4.keep _ o (nz _ (.inl rfl)) e
      obtain ⟨c4, hc4, hv4, ds4, vs4, m4, l4, r4, kk4⟩ := grp_find hkn hkm ndas hG4
      rw [hv] at hv4
      cases hv4
      have hlen : ds4.length ≤ 1000 := by
        unfold touch at m4
        split at m4
        · exact hl2 _ m4
        · rcases List.mem_append.mp m4 with m4 | m4
          · exact hl2 _ m4
          · simp at m4; rw [m4]; simp
      refine wpAny_list_append_plain (s := { s with heap := h4, toks := tk4 }) l4 (fun h5 l5 sb => ?_) (by rw [List.size_toArray, r4.length, sizeLine_eq]; omega)
      have kb : KeepsBut (· = c) h4 h5 := fun b o n e => (sb.2 b n).trans e
      have ku : ∀ b o, ¬ S'.X b → h4.get? b = some o → h5.get? b = some o := fun b o n e => kb b o (fun e' => n (e' ▸ mc.2.1)) e
      have th : ∀ b, (∃ o, h4.get? b = some o) → ∃ o, h5.get? b = some o := fun b ⟨o, e⟩ => by
        by_cases q : b = c
        · obtain ⟨nn, e2⟩ := l5; exact ⟨_, q ▸ e2⟩
        · exact ⟨o, kb b o q e⟩
      have ncO : ∀ b ∈ (O1 ++ (FA, OD.group (touch g k)) :: O2).map (·.1), b ≠ c := fun b hb e => (List.nodup_append.mp nd).2.2 b hb c hc e
      have P5 : ownP W (Vof env) (O1 ++ (FA, .group (addTo (touch g k) k d)) :: O2) S' h5 := by
        obtain ⟨as4, nd4, vx4, ma4, q4'⟩ := t4
        have e : (O1 ++ (FA, OD.group (addTo (touch g k) k d)) :: O2).map (·.1) = (O1 ++ (FA, OD.group (touch g k)) :: O2).map (·.1) := by simp
        have other : ∀ p ∈ O1 ++ O2, p ∈ O1 ++ (FA, OD.group (touch g k)) :: O2 → p.2.At W S'.X h5 as' p.1 := fun p hp hp' =>
          ((((q4' p hp').irrel (as' := []) (ng p hp)).up (fun b hb o e => kb b o (by
            rcases hb with rfl | hb
            · exact ncO _ (List.mem_map.mpr ⟨p, hp', rfl⟩)
            · simp at hb) e) ku)).irrel (ng p hp)
        refine ⟨as', e ▸ nd, vx4, e ▸ ma, fun p hp => ?_⟩
        rcases List.mem_append.mp hp with hp | hp
        · exact other p (List.mem_append_left _ hp) (List.mem_append_left _ hp)
        · rcases List.mem_cons.mp hp with rfl | hp
          · refine ⟨?_, kk4 h5 _ d kb ku (by simpa using l5) (q4.up ku)⟩
            rw [addTo_keys]
            exact dictOf_at hD4 fun o e => kb _ o (ncO _ (by simp)) e
          · exact other p (List.mem_append_right _ hp) (List.mem_append_right _ (List.mem_cons_of_mem _ hp))
      obtain ⟨f5, b5⟩ := f4.mut (T' := own W (O1 ++ (FA, .group (addTo (touch g k) k d)) :: O2)) kb (fun b e => e ▸ ⟨mc.1, mc.2.2.1⟩) th P5
      exact kont S' h5 tk4 (b3.trans ((f3.aft a4).trans b5)) f5
  refine wpAny_Expr (wpAny_Call_method hbase2 (by rw [he2]; rfl) hline2 F.plainAttrs_list slot_list_append (by kernel_rfl) ?_) hi
  refine wpAny_Call_method hbase1 (by rw [he1, he3]; rfl) hline1 PySem.F.plainAttrs_dict F.slot_dict_setdefault (by kernel_rfl) ((ev_name (T := (own W (O1 ++ (FA, .group g) :: O2)).at S) hx hdb hcd).run A s _ E r f.look fun v h1 tk1 a1 t1 q1 => ?_)
  cases q1 using Rep.ptrC
  have f1 : Fm W env hb Y Z S (own W (O1 ++ (FA, .group g) :: O2)) ρ h1 := f.next a1 t1
  have hD1 : ∃ as : List Addr, h1.DictOf W.ik FA ((g.map (·.1)).zip (as.map Value.ref)) := by
    obtain ⟨as, _, _, _, q⟩ := t1
    exact ⟨as, (q (FA, .group g) (by simp)).1⟩
  obtain ⟨as1, hD1⟩ := hD1
  have hT1 : Shared.TypeIs { s with heap := h1, toks := tk1 } (.ref FA) "dict" := hD1.typeIs
  refine ⟨hT1, fun a e => ?_, callWith_method1 (first := [.ref FA]) (args_cons ((yk S).run A _ _ E r f1.look fun v2 h2 tk2 a2 t2 q2 => args_cons (List_ (args_nil (wpAny_newObj_type (args_nil ?_) (Nat.zero_le _)))) he3) he1) he1 (by rw [he3]; rfl)⟩
  · cases e
    obtain ⟨o, es, ep, ho, hx, _⟩ := hD1
    exact ⟨o, ho, hx.2.1⟩
  cases q2 using Rep.intC with
  | int t =>
    have f2 : Fm W env hb Y Z S (own W (O1 ++ (FA, .group g) :: O2)) ρ h2 := f1.next a2 t2
    have kk := keeps_push h2 { cls := .type "list", data := .seq ([] : List Value).toArray }
    have hb0 := size_none h2
    have f3 : Fm W env hb Y Z S (own W (O1 ++ (FA, .group g) :: O2)) ρ (h2.push { cls := .type "list", data := .seq ([] : List Value).toArray }) := f2.next (.of_keeps kk) (((own W (O1 ++ (FA, .group g) :: O2)).at S).st _ _ kk t2)
    have b3 : AftS S S s.heap (h2.push { cls := .type "list", data := .seq ([] : List Value).toArray }) := (f.aft a1).trans ((f1.aft a2).trans (f2.aft (.of_keeps kk)))
    obtain ⟨as, nd, vx, ma, q⟩ := id t2
    obtain ⟨hD2, hG2⟩ := q (FA, .group g) (by simp)
    have hD := dictOf_at (h' := h2.push { cls := .type "list", data := .seq ([] : List Value).toArray }) hD2 fun o e => kk _ o e
    have hG := hG2.up (h' := h2.push { cls := .type "list", data := .seq ([] : List Value).toArray }) (fun b _ o e => kk b o e) fun b o _ e => kk b o e
    have hgl : as.length = g.length := hG.length
    have lo := (ma FA (by simp)).2.2.2
    have eT : (O1 ++ (FA, OD.group (touch g k)) :: O2).map (·.1) = (O1 ++ (FA, OD.group g) :: O2).map (·.1) := by simp
    have hTy : Shared.TypeIs { s with heap := h2.push { cls := .type "list", data := .seq ([] : List Value).toArray }, toks := tk2 } (.ref FA) "dict" := hD.typeIs
    refine call_meetsIn F.slot_dict_setdefault hTy F.entry_dict_setdefault (F.args_dict_setdefault_3 _ _ _) (kt_meets_setdefault W.ik FA (ik_is W k t) lo (.ref h2.objs.size)) ⟨_, hD, by simp; rw [sizeLine_eq]; omega, fun v hv => ?_, fun hv h4 hm4 sb4 => ?_⟩
    · have hk : k ∈ g.map (·.1) := by
        by_cases hk : k ∈ g.map (·.1)
        · exact hk
        · rw [value_none hk] at hv; cases hv
      have et : touch g k = g := by unfold touch; rw [if_pos hk]
      obtain ⟨_, _, _, _, _, _, _, _, hn⟩ := id hD
      rw [List.map_fst_zip (by rw [List.length_map, List.length_map, hgl]; exact Nat.le_refl _)] at hn
      obtain ⟨c, hc, hvc, _⟩ := grp_find hn hk (List.nodup_append.mp nd).2.1 hG
      rw [hvc] at hv
      cases hv
      have := fin S _ (tk2 + 1) as c b3 (et.symm ▸ f3) (eT ▸ nd) (eT ▸ ma) (et.symm ▸ hD) (et.symm ▸ hvc) (et.symm ▸ hG)
      exact this
    · have hk : k ∉ g.map (·.1) := fun hk => by
        obtain ⟨_, _, _, _, _, _, _, _, hn⟩ := id hD
        rw [List.map_fst_zip (by rw [List.length_map, List.length_map, hgl]; exact Nat.le_refl _)] at hn
        obtain ⟨c, hc, hvc, _⟩ := grp_find hn hk (List.nodup_append.mp nd).2.1 hG
        rw [hvc] at hv; cases hv
      have et : touch g k = g ++ [(k, [])] := by unfold touch; rw [if_neg hk]
      have old : ∀ b, b ∈ (O1 ++ (FA, OD.group g) :: O2).map (·.1) ++ as → b ≠ h2.objs.size := fun b hb e => by
        obtain ⟨o, e'⟩ := f2.look.xt b (ma b hb).2.1
        rw [e, hb0] at e'; cases e'
      have est : stored ((g.map (·.1)).zip (as.map Value.ref)) k (.ref h2.objs.size) = ((touch g k).map (·.1)).zip ((as ++ [h2.objs.size]).map Value.ref) := by
        rw [et]
        unfold stored
        rw [if_neg, List.map_append, List.map_append, List.zip_append (by simp [hgl])]
        · rfl
        · intro hany
          obtain ⟨kv, hkv, e⟩ := List.any_eq_true.mp hany
          have : kv.1 = k := by simpa using e
          exact hk (this ▸ (List.of_mem_zip hkv).1)
      rw [est] at hm4
      have kb4 : KeepsBut (· = FA) (h2.push { cls := .type "list", data := .seq ([] : List Value).toArray }) h4 := fun b o n e => (sb4.2 b n).trans e
      have mF := ma FA (by simp)
      have nF : FA ≠ h2.objs.size := old FA (by simp)
      obtain ⟨f3', b3'⟩ := f2.alloc (T' := TT.tt) kk hb0 ⟨_, Heap.get?_push_size _ rfl⟩ trivial
      have w : ∀ b, (S.X b ∨ b = h2.objs.size) → (∃ o, h2.get? b = some o) → S.X b := fun b q ⟨o, e⟩ => q.elim id fun q => by rw [q, hb0] at e; cases e
      have ku4 : ∀ b o, ¬ (S.X b ∨ b = h2.objs.size) → h2.get? b = some o → h4.get? b = some o := fun b o n e => kb4 b o (fun e' => n (.inl (e' ▸ mF.2.1))) (kk b o e)
      have kin : ∀ b, b ∈ (O1 ++ (FA, OD.group g) :: O2).map (·.1) ++ as → b ≠ FA → ∀ o, h2.get? b = some o → h4.get? b = some o := fun b _ n o e => kb4 b o n (kk b o e)
      have nas : ∀ b ∈ as, b ≠ FA := fun b hb e => (List.nodup_append.mp nd).2.2 FA (by simp) b hb e.symm
      have hG4 : GrpAt W (S.plus h2.objs.size).X h4 (touch g k) (as ++ [h2.objs.size]) := by
        rw [et]
        refine ((hG2.weak w).up (fun b hb o e => kin b (List.mem_append_right _ hb) (nas b hb) o e) ku4).snoc ⟨[], ?_, .nil⟩
        exact ⟨0, kb4 _ _ (Ne.symm nF) (Heap.get?_push_size _ rfl)⟩
      have nd' : ((O1 ++ (FA, OD.group (touch g k)) :: O2).map (·.1) ++ (as ++ [h2.objs.size])).Nodup := by
        rw [eT, ← List.append_assoc]
        refine List.nodup_append.mpr ⟨nd, by simp, fun a ha b hb => ?_⟩
        simp at hb
        exact hb ▸ old a ha
      have ma' : ∀ a ∈ (O1 ++ (FA, OD.group (touch g k)) :: O2).map (·.1) ++ (as ++ [h2.objs.size]), (S.plus h2.objs.size).M a ∧ (S.plus h2.objs.size).X a ∧ ¬ Vof env a ∧ (a == sysModules) = false := fun a ha => by
        rw [eT, ← List.append_assoc] at ha
        rcases List.mem_append.mp ha with ha | ha
        · have m := ma a ha; exact ⟨.inl m.1, .inl m.2.1, m.2.2⟩
        · simp at ha; subst ha; exact ⟨.inr rfl, .inr rfl, f2.notV hb0, lo_new f2.look.base⟩
      have P4 : ownP W (Vof env) (O1 ++ (FA, .group (touch g k)) :: O2) (S.plus h2.objs.size) h4 := by
        refine ⟨as ++ [h2.objs.size], nd', fun b v => .inl (vx b v), ma', fun p hp => ?_⟩
        have neF : ∀ p ∈ O1 ++ O2, p.1 ≠ FA := fun r hr e => by
          simp only [List.map_append, List.map_cons, List.append_assoc, List.cons_append] at nd
          have nd2 := List.nodup_append.mp nd
          have nd3 := List.nodup_cons.mp nd2.2.1
          rcases List.mem_append.mp hr with hr | hr
          · exact nd2.2.2 r.1 (List.mem_map.mpr ⟨r, hr, rfl⟩) FA List.mem_cons_self e
          · exact nd3.1 (List.mem_append_left _ (List.mem_map.mpr ⟨r, hr, e⟩))
        have other : ∀ p ∈ O1 ++ O2, p ∈ O1 ++ (FA, OD.group g) :: O2 → p.2.At W (S.plus h2.objs.size).X h4 (as ++ [h2.objs.size]) p.1 := fun p hp hp' =>
          (((((q p hp').irrel (as' := []) (ng p hp)).weak w).up (fun b hb o e => by
            rcases hb with rfl | hb
            · exact kin _ (List.mem_append_left _ (List.mem_map.mpr ⟨p, hp', rfl⟩)) (neF p hp) o e
            · simp at hb) ku4)).irrel (ng p hp)
        rcases List.mem_append.mp hp with hp | hp
        · exact other p (List.mem_append_left _ hp) (List.mem_append_left _ hp)
        · rcases List.mem_cons.mp hp with rfl | hp
          · exact ⟨hm4, hG4⟩
          · exact other p (List.mem_append_right _ hp) (List.mem_append_right _ (List.mem_cons_of_mem _ hp))
      have th4 : ∀ b, (∃ o, (h2.push { cls := .type "list", data := .seq ([] : List Value).toArray }).get? b = some o) → ∃ o, h4.get? b = some o := fun b ⟨o, e⟩ => by
        by_cases q : b = FA
        · obtain ⟨o', _, _, e', _⟩ := hm4; exact ⟨o', q ▸ e'⟩
        · exact ⟨o, kb4 b o q e⟩
      obtain ⟨f4, b4⟩ := f3'.mut (T' := own W (O1 ++ (FA, .group (touch g k)) :: O2)) kb4 (fun b e => e ▸ ⟨.inl mF.1, mF.2.2.1⟩) th4 P4
      have hv4 : valueAt (((touch g k).map (·.1)).zip ((as ++ [h2.objs.size]).map Value.ref)) k = some (.ref h2.objs.size) := by
        rw [← est]
        unfold valueAt stored
        rw [if_neg]
        · rw [List.find?_append]
          have hnone : ((g.map (·.1)).zip (as.map Value.ref)).find? (fun kv => decide (kv.1 = k)) = none := by
            rw [List.find?_eq_none]
            intro kv hkv e
            have : kv.1 = k := by simpa using e
            exact hk (this ▸ (List.of_mem_zip hkv).1)
          rw [hnone]
          simp
        · intro hany
          obtain ⟨kv, hkv, e⟩ := List.any_eq_true.mp hany
          have : kv.1 = k := by simpa using e
          exact hk (this ▸ (List.of_mem_zip hkv).1)
      exact fin (S.plus h2.objs.size) h4 (tk2 + 1) (as ++ [h2.objs.size]) h2.objs.size ((f.aft a1).trans ((f1.aft a2).trans (b3'.trans b4))) f4 nd' ma' hm4 hv4 hG4
end
end Mine

end
-- part FWF
section
open PySem PySem.W PyProof.Rows PySem.Calls PySem.Spec
set_option maxRecDepth 20000
set_option linter.unusedVariables false
namespace Mine

def setK (ks : List (List Int)) (key : List Int) : List (List Int) := if key ∈ ks then ks else ks ++ [key]
def repL {α : Type} : List (List Int) → List α → List Int → α → List α
  | k :: ks, e :: es, key, v => (if k = key then v else e) :: repL ks es key v
  | _, _, _, _ => []
def setL {α : Type} (ks : List (List Int)) (es : List α) (key : List Int) (v : α) : List α := if key ∈ ks then repL ks es key v else es ++ [v]
theorem repL_length {α : Type} : ∀ {ks : List (List Int)} {es : List α} {key : List Int} {v : α}, ks.length = es.length → (repL ks es key v).length = es.length
  | [], [], _, _, _ => rfl
  | _ :: ks, _ :: es, key, v, h => by simp only [repL, List.length_cons]; rw [repL_length (by simpa using h)]
  | [], _ :: _, _, _, h => by simp at h
  | _ :: _, [], _, _, h => by simp at h
theorem reps_repL {W : Wd} {X : Addr → Prop} {h : Heap} {v : Value} {d : D} (rv : Rep W X h v d) (key : List Int) : ∀ {ks : List (List Int)} {vs : List Value} {ds : List D}, ks.length = vs.length → Reps W X h vs ds → Reps W X h (repL ks vs key v) (repL ks ds key d)
  | [], [], _, _, r => by cases r; exact .nil
  | k :: ks, u :: vs, _, hl, r => by
    cases r with
    | cons a r =>
      simp only [repL]
      refine .cons ?_ (reps_repL rv key (by simpa using hl) r)
      split
      · exact rv
      · exact a
  | [], _ :: _, _, hl, _ => by simp at hl
  | _ :: _, [], _, hl, _ => by simp at hl
theorem map_putAt {key : List Int} {v : Value} : ∀ {ks : List (List Int)} {as : List Addr} {vs : List Value}, ks.length = as.length → as.length = vs.length → (ks.zip (as.zip vs)).map (putAt key v) = ks.zip (as.zip (repL ks vs key v))
  | [], [], [], _, _ => rfl
  | k :: ks, a :: as, u :: vs, h1, h2 => by
    simp only [List.zip_cons_cons, List.map_cons, repL, putAt]
    rw [map_putAt (by simpa using h1) (by simpa using h2)]
    by_cases e : k = key <;> simp [e]
  | [], _ :: _, _, h, _ => by simp at h
  | _ :: _, [], _, h, _ => by simp at h
  | _, [], _ :: _, _, h => by simp at h
  | _, _ :: _, [], _, h => by simp at h
theorem atKey_mem {key : List Int} : ∀ {ks : List (List Int)} {as : List Addr} {vs : List Value}, ks.length = as.length → as.length = vs.length → (if key ∈ ks then ∃ p, atKey (ks.zip (as.zip vs)) key = some p else atKey (ks.zip (as.zip vs)) key = none)
  | [], [], [], _, _ => by simp [atKey]
  | k :: ks, a :: as, u :: vs, h1, h2 => by
    have ih := atKey_mem (key := key) (ks := ks) (as := as) (vs := vs) (by simpa using h1) (by simpa using h2)
    simp only [List.zip_cons_cons, atKey_cons, List.mem_cons]
    by_cases e : k = key
    · simp [e]
    · have e' : ¬ key = k := fun q => e q.symm
      simp only [e, e', if_false, false_or]
      exact ih
  | [], _ :: _, _, h, _ => by simp at h
  | _ :: _, [], _, h, _ => by simp at h
  | _, [], _ :: _, _, h => by simp at h
  | _, _ :: _, [], _, h => by simp at h

section
variable {W : Wd} {n : Nat} {env : Env} {Z : Addr → Prop} {T T' T1 T2 : TT (Vof env)} {ρ ρ' ρ1 : Env1} {O O1 O2 : List (Addr × OD)}

theorem ex1_setT {x : Str} {np sp p : Pos} {ke ve : Expr} {a : Addr} {ks : List (List Int)} {ds : List D} {key : List Int} {d : D} (hx : ρ.lookup x = some (.ptr a)) (yv : EvS W n env Z (own W (O1 ++ (a, .tdict ks ds) :: O2)) ρ ve d (own W (O1 ++ (a, .tdict ks ds) :: O2)))
    (yk : EvS W n env Z (own W (O1 ++ (a, .tdict ks ds) :: O2)) ρ ke (.tup (key.map .int)) (own W (O1 ++ (a, .tdict ks ds) :: O2))) (hl : ks.length ≤ 1000)
    (hdb : (x == ("__debug__" : Str)) = false := by decide) (hcd : (x == ("__classdict__" : Str)) = false := by decide) (hs : swapsWith ve (some (.Subscript (.Name x np) ke sp)) p.line env = pure false := by rfl) :
    Ex1 W n env Z (own W (O1 ++ (a, .tdict ks ds) :: O2)) ρ (.Assign [.Subscript (.Name x np) ke sp] ve p) (.next ρ) (own W (O1 ++ (a, .tdict (setK ks key) (setL ks ds key d)) :: O2)) := .mk fun A hb Y S s Q E r f k => by
  refine wpAny_Assign_Subscript ((yv S).run A s _ E r f.look fun v h1 tk1 a1 t1 q1 => ?_) hs
  have f1 : Fm W env hb Y Z S (own W (O1 ++ (a, .tdict ks ds) :: O2)) ρ h1 := f.next a1 t1
  refine (ev_name (T := (own W (O1 ++ (a, .tdict ks ds) :: O2)).at S) hx hdb hcd).run A _ _ E r f1.look fun v2 h2 tk2 a2 t2 q2 => ?_
  cases q2 using Rep.ptrC
  have f2 : Fm W env hb Y Z S (own W (O1 ++ (a, .tdict ks ds) :: O2)) ρ h2 := f1.next a2 t2
  refine (yk S).run A _ _ E r f2.look fun v3 h3 tk3 a3 t3 q3 => ?_
  have f3 : Fm W env hb Y Z S (own W (O1 ++ (a, .tdict ks ds) :: O2)) ρ h3 := f2.next a3 t3
  have qv := (q1.up (a2.up f1.look.zx)).up (a3.up f2.look.zx)
  obtain ⟨a1', rfl, nx, k1⟩ := tk_is q3
  obtain ⟨as, nd, vx, ma, q⟩ := id t3
  obtain ⟨kas, vs, nb, hD, l1, l2, rs⟩ := q (a, .tdict ks ds) (by simp)
  have mF := ma a (by simp)
  refine wpAny_setItem_heap (knd := W.tk) (s := { s with heap := h3, toks := tk3 }) (tupleKind_room_in1 (by have := r.2.2; omega)) k1 hD (fun h4 hD4 sb => ?_) (by rw [sizeLine_eq]; simp; omega)
  have kb : KeepsBut (· = a) h3 h4 := fun b o n e => (sb.2 b n).trans e
  have ku : ∀ b o, ¬ S.X b → h3.get? b = some o → h4.get? b = some o := fun b o n e => kb b o (fun e' => n (e' ▸ mF.2.1)) e
  have th : ∀ b, (∃ o, h3.get? b = some o) → ∃ o, h4.get? b = some o := fun b ⟨o, e⟩ => by
    by_cases q : b = a
    · obtain ⟨o', _, _, e', _⟩ := hD4; exact ⟨o', q ▸ e'⟩
    · exact ⟨o, kb b o q e⟩
  have at' : OD.At W S.X h4 [] a (.tdict (setK ks key) (setL ks ds key d)) := by
    have hm := atKey_mem (key := key) l1 l2
    unfold setK setL
    by_cases hk : key ∈ ks
    · rw [if_pos hk] at hm
      obtain ⟨p, hp⟩ := hm
      rw [storedH_old hp, map_putAt l1 l2] at hD4
      rw [if_pos hk, if_pos hk]
      exact ⟨kas, repL ks vs key v, nb, hD4, l1, by rw [repL_length (by omega)]; exact l2, (reps_repL qv key (by omega) rs).up ku⟩
    · rw [if_neg hk] at hm
      rw [storedH_new hm] at hD4
      rw [if_neg hk, if_neg hk]
      refine ⟨kas ++ [a1'], vs ++ [v], fun b hb => ?_, ?_, by simp [l1], by simp [l2], (rs.up ku).snoc (qv.up ku)⟩
      · rcases List.mem_append.mp hb with hb | hb
        · exact nb b hb
        · simp at hb; exact hb ▸ nx
      · rw [List.zip_append l2, List.zip_append (by simp; omega)]
        exact hD4
  obtain ⟨f4, b4⟩ := f3.mut (T' := own W (O1 ++ (a, .tdict (setK ks key) (setL ks ds key d)) :: O2)) kb (fun b e => e ▸ ⟨mF.1, mF.2.2.1⟩) th (ownP.turn t3 kb fun as _ => at'.irrel rfl)
  exact k S h4 _ ((f.aft a1).trans ((f1.aft a2).trans ((f2.aft a3).trans b4))) f4

/-- some owned things are turned no more -/
theorem Fm.freeze {hb h : Heap} {Y : Addr → Prop} {S : Sp} {K : Addr → Prop} (f : Fm W env hb Y Z S T ρ h) (kz : ∀ b, K b → ¬ Z b) (kv : ∀ b, K b → ¬ Vof env b) (km : ∀ b, K b → S.M b) (t : T'.P ⟨fun b => S.M b ∧ ¬ K b, fun b => S.X b ∧ ¬ K b⟩ h)
    (vars : ∀ x d, ρ'.lookup x = some d → ∃ v, At env h x v ∧ Rep W (fun b => S.X b ∧ ¬ K b) h v d) : Fm W env hb Y Z ⟨fun b => S.M b ∧ ¬ K b, fun b => S.X b ∧ ¬ K b⟩ T' ρ' h where
  look := { f.look with
    vars := vars
    own := t
    zx := fun a z => ⟨f.look.zx a z, fun k => kz a k z⟩
    xb := fun a x => f.look.xb a x.1
    xt := fun a x => f.look.xt a x.1 }
  keep := f.keep
  ns := f.ns
  cells := f.cells
  cin := f.cin
  vm := fun a v => ⟨f.vm a v, fun k => kv a k v⟩
  mx := fun a m => ⟨f.mx a m.1, m.2⟩
  zm := fun a z => ⟨f.zm a z, fun k => kz a k z⟩
  yx := fun a y => ⟨f.yx a y, fun k => f.yh a y (f.mb a (km a k))⟩
  yh := f.yh
  mb := fun a m => f.mb a m.1
  above := f.above

/-- the datum that an owned object is when it is turned no more -/
def OD.dat : OD → D
  | .list ds => .lst ds
  | .tdict ks ds => .tdict ks ds
  | .group g => .idict (g.map (·.1)) (g.map fun p => .lst p.2)
  | .box _ ns j => .lst [.lst (ns.map .int), .int j]
theorem grp_reps {X X' : Addr → Prop} {h : Heap} (w : ∀ b, X' b → X b) : ∀ {g : List (Int × List D)} {as : List Addr}, (∀ a ∈ as, ¬ X' a) → GrpAt W X h g as → Reps W X' h (as.map Value.ref) (g.map fun p => .lst p.2)
  | [], [], _, _ => .nil
  | (_, ds) :: g, a :: as, na, ⟨⟨vs, l, r⟩, q⟩ => .cons (.lst (na a List.mem_cons_self) l (r.weak fun b x _ => w b x)) (grp_reps w (fun b hb => na b (List.mem_cons_of_mem _ hb)) q)
  | [], _ :: _, _, q => q.elim
  | _ :: _, [], _, q => q.elim
theorem ex_freeze {x : Str} {a : Addr} {od : OD} {ss : List Stmt} {d : D} (hx : ρ.lookup x = some (.ptr a)) (ng : ∀ p ∈ O1 ++ O2, p.2.noGroup = true) (zo : ∀ b, Z b → b ∈ (O1 ++ O2).map (·.1))
    (y : Ex W n env Z (own W (O1 ++ O2)) ((x, od.dat) :: ρ) ss (.ret d) TT.tt) : Ex W n env Z (own W (O1 ++ (a, od) :: O2)) ρ ss (.ret d) TT.tt := .mk fun A hb Y S s Q E r f k => by
  obtain ⟨as, nd, vx, ma, q⟩ := id f.look.own
  have ndO := nd
  simp only [List.map_append, List.map_cons, List.append_assoc, List.cons_append] at ndO
  have nd2 := List.nodup_append.mp ndO
  have nd3 := List.nodup_cons.mp nd2.2.1
  have nd4 := List.nodup_append.mp nd3.2
  -- what is frozen: a, and the inner lists of a group
  let K : Addr → Prop := fun b => b = a ∨ (od.noGroup = false ∧ b ∈ as)
  have kin : ∀ b, K b → b ∈ (O1 ++ (a, od) :: O2).map (·.1) ++ as := fun b hb => hb.elim (fun e => by simp [e]) fun e => List.mem_append_right _ e.2
  have kO : ∀ b ∈ (O1 ++ O2).map (·.1), ¬ K b := fun b hb hk => by
    rw [List.map_append] at hb
    rcases List.mem_append.mp hb with hb | hb
    · rcases hk with rfl | ⟨_, hk⟩
      · exact nd2.2.2 b hb b List.mem_cons_self rfl
      · exact nd2.2.2 b hb b (List.mem_cons_of_mem _ (List.mem_append_right _ hk)) rfl
    · rcases hk with rfl | ⟨_, hk⟩
      · exact nd3.1 (List.mem_append_left _ hb)
      · exact nd4.2.2 b hb b hk rfl
  have w : ∀ b, (S.X b ∧ ¬ K b) → (∃ o, s.heap.get? b = some o) → S.X b := fun b q _ => q.1
  refine y.run A hb Y _ s Q E r (f.freeze (K := K) (T' := own W (O1 ++ O2)) (ρ' := (x, od.dat) :: ρ) (fun b hk z => kO b (zo b z) hk) (fun b hk v => (ma b (kin b hk)).2.2.1 v) (fun b hk => (ma b (kin b hk)).1) ?_ ?_) k
  · refine ⟨[], ?_, fun b v => ⟨vx b v, fun hk => (ma b (kin b hk)).2.2.1 v⟩, fun b hb => ?_, fun p hp => ?_⟩
    · rw [List.append_nil, List.map_append]
      refine List.nodup_append.mpr ⟨nd2.1, nd4.1, fun u hu v hv => nd2.2.2 u hu v (List.mem_cons_of_mem _ (List.mem_append_left _ hv))⟩
    · rw [List.append_nil] at hb
      have hb' : b ∈ (O1 ++ (a, od) :: O2).map (·.1) ++ as := by
        rw [List.map_append] at hb
        rcases List.mem_append.mp hb with hb | hb
        · exact List.mem_append_left _ (by rw [List.map_append]; exact List.mem_append_left _ hb)
        · exact List.mem_append_left _ (by rw [List.map_append]; exact List.mem_append_right _ (List.mem_cons_of_mem _ hb))
      have m := ma b hb'
      exact ⟨⟨m.1, kO b hb⟩, ⟨m.2.1, kO b hb⟩, m.2.2⟩
    · have hp' : p ∈ O1 ++ (a, od) :: O2 := by
        rcases List.mem_append.mp hp with hp | hp
        · exact List.mem_append_left _ hp
        · exact List.mem_append_right _ (List.mem_cons_of_mem _ hp)
      exact ((q p hp').weak w).irrel (ng p hp)
  · intro z e hz
    by_cases hzx : z = x
    · subst hzx
      simp only [List.lookup_cons, beq_self_eq_true] at hz
      cases hz
      obtain ⟨v, t, rv⟩ := f.look.vars z _ hx
      cases rv using Rep.ptrC
      refine ⟨_, t, ?_⟩
      have h1 := q (a, od) (by simp)
      have m := ma a (by simp)
      have nka : ¬ (S.X a ∧ ¬ K a) := fun e => e.2 (.inl rfl)
      cases od with
      | list ds =>
        obtain ⟨vs, l, r⟩ := h1
        exact .lst nka l (r.weak w)
      | tdict ks ds =>
        obtain ⟨kas, vs, nb, hD, l1, l2, r⟩ := h1
        exact .tdict nka m.2.2.2 (fun b hb e => nb b hb e.1) hD l1 l2 (r.weak w)
      | box Lr ns j =>
        obtain ⟨u, vs, l, l2, hI, nx⟩ := h1
        exact .lst nka l (.cons (.lst (fun e => nx e.1) l2 (ints_rep hI)) (.cons (.int _ _) .nil))
      | group g =>
        obtain ⟨hD, hG⟩ := h1
        refine .idict nka m.2.2.2 hD (by rw [List.length_map, List.length_map, hG.length]) (grp_reps (fun b e => e.1) (fun b hb e => e.2 (.inr ⟨rfl, hb⟩)) hG)
    · rw [List.lookup_cons, beq_eq_false_iff_ne.mpr hzx] at hz
      obtain ⟨v, t, rv⟩ := f.look.vars z e hz
      exact ⟨v, t, rv.weak w⟩

-- an owned dict is read as a datum
mutual
def D.flat : D → Bool
  | .none => true
  | .bool _ => true
  | .int _ => true
  | .str _ => true
  | .tup ds => D.flats ds
  | .lst ds => D.flats ds
  | _ => false
def D.flats : List D → Bool
  | [] => true
  | d :: ds => D.flat d && D.flats ds
end
mutual
theorem Rep.over {X X' : Addr → Prop} {h : Heap} {a : Addr} (hX : ∀ b, X b → X' b ∨ b = a) (ha : ∃ o, h.get? a = some o ∧ o.cls = .type "dict") : ∀ {v : Value} {d : D}, d.flat = true → Rep W X' h v d → Rep W X h v d
  | _, _, _, .none => .none
  | _, _, _, .bool b => .bool b
  | _, _, _, .int i t => .int i t
  | _, _, _, .str x t => .str x t
  | _, _, f, .ptr _ => by simp [D.flat] at f
  | _, _, f, .upto n t => by simp [D.flat] at f
  | _, _, f, .tup n t r => .tup (fun x => (hX _ x).elim n fun e => by
      obtain ⟨o, e1, c1⟩ := ha
      obtain ⟨o2, e2, c2, _⟩ := t
      rw [e, e1] at e2; cases e2; rw [c1] at c2; simp at c2) t (Reps.over hX ha (by simpa [D.flat] using f) r)
  | _, _, f, .lst n t r => .lst (fun x => (hX _ x).elim n fun e => by
      obtain ⟨o, e1, c1⟩ := ha
      obtain ⟨o2, e2, c2, _⟩ := t.isList
      rw [e, e1] at e2; cases e2; rw [c1] at c2; simp at c2) t (Reps.over hX ha (by simpa [D.flat] using f) r)
  | _, _, f, .idict .. => by simp [D.flat] at f
  | _, _, f, .tdict .. => by simp [D.flat] at f
theorem Reps.over {X X' : Addr → Prop} {h : Heap} {a : Addr} (hX : ∀ b, X b → X' b ∨ b = a) (ha : ∃ o, h.get? a = some o ∧ o.cls = .type "dict") : ∀ {vs : List Value} {ds : List D}, D.flats ds = true → Reps W X' h vs ds → Reps W X h vs ds
  | _, _, _, .nil => .nil
  | _, _, f, .cons q r => by
    simp only [D.flats, Bool.and_eq_true] at f
    exact .cons (Rep.over hX ha f.1 q) (Reps.over hX ha f.2 r)
end
theorem look_view {x : Str} {a : Addr} {ks : List (List Int)} {ds : List D} {S : Sp} {h : Heap} (hx : ρ.lookup x = some (.ptr a)) (L : Look W env S.X Z ((own W (V := Vof env) (O1 ++ (a, .tdict ks ds) :: O2)).at S) ρ h) :
    Look W env (fun b => S.X b ∧ b ≠ a) (fun _ => False) (HP.tt (V := Vof env)) ((x, .tdict ks ds) :: ρ) h ∧ ∃ o, h.get? a = some o ∧ o.cls = .type "dict" := by
  obtain ⟨as, nd, vx, ma, q⟩ := id L.own
  obtain ⟨kas, vs, nb, hD, l1, l2, rs⟩ := q (a, .tdict ks ds) (by simp)
  have m := ma a (by simp)
  refine ⟨{ L with
    vars := fun z e hz => ?_
    own := trivial
    zx := fun _ q => q.elim
    xb := fun b q => L.xb b q.1
    xt := fun b q => L.xt b q.1
    zl := id
    zc := fun _ _ _ => id }, let ⟨o, _, _, e, hx, _⟩ := hD; ⟨o, e, hx.1⟩⟩
  by_cases hzx : z = x
  · subst hzx
    simp only [List.lookup_cons, beq_self_eq_true] at hz
    cases hz
    obtain ⟨v, t, rv⟩ := L.vars z _ hx
    cases rv using Rep.ptrC
    exact ⟨_, t, .tdict (fun e => e.2 rfl) m.2.2.2 (fun b hb e => nb b hb e.1) hD l1 l2 (rs.weak fun b e _ => e.1)⟩
  · rw [List.lookup_cons, beq_eq_false_iff_ne.mpr hzx] at hz
    obtain ⟨v, t, rv⟩ := L.vars z e hz
    exact ⟨v, t, rv.weak fun b e _ => e.1⟩
theorem ev_view {x : Str} {a : Addr} {ks : List (List Int)} {ds : List D} {e : Expr} {d : D} (hx : ρ.lookup x = some (.ptr a)) (hf : d.flat = true) (y : ∀ X, Ev W n env X (fun _ => False) (HP.tt (V := Vof env)) ((x, .tdict ks ds) :: ρ) e d HP.tt) :
    EvS W n env Z (own W (O1 ++ (a, .tdict ks ds) :: O2)) ρ e d (own W (O1 ++ (a, .tdict ks ds) :: O2)) := fun S => .mk fun A s Q E r L h => by
  obtain ⟨L', o, ho, hc⟩ := look_view hx L
  refine (y _).run A s Q E r L' fun v h1 tk a1 _ q => ?_
  have k := a1.keeps fun _ => id
  exact h v h1 tk (.of_keeps k) (((own W (O1 ++ (a, .tdict ks ds) :: O2)).at S).st _ _ k L.own) (q.over (fun b x => Classical.byCases (fun e : b = a => .inr e) fun e => .inl ⟨x, e⟩) ⟨o, k _ _ ho, hc⟩ hf)
theorem tv_view {x : Str} {a : Addr} {ks : List (List Int)} {ds : List D} {e : Expr} {b : Bool} (hx : ρ.lookup x = some (.ptr a)) (y : ∀ X, Tv W n env X (fun _ => False) (HP.tt (V := Vof env)) ((x, .tdict ks ds) :: ρ) e b HP.tt) :
    TvS W n env Z (own W (O1 ++ (a, .tdict ks ds) :: O2)) ρ e b (own W (O1 ++ (a, .tdict ks ds) :: O2)) := fun S => .mk fun A s Q E r L h => by
  obtain ⟨L', o, ho, hc⟩ := look_view hx L
  refine (y _).run A s Q E r L' fun h1 tk a1 _ => ?_
  have k := a1.keeps fun _ => id
  exact h h1 tk (.of_keeps k) (((own W (O1 ++ (a, .tdict ks ds) :: O2)).at S).st _ _ k L.own)
end
end Mine

end
-- part S1
section
open PySem PySem.W PyProof.Rows PySem.Calls PySem.Spec
set_option maxRecDepth 20000
set_option linter.unusedVariables false
namespace Mine

def krun {α : Type} (R : Nat → Nat → Bool) : KasT α → α
  | .ret a => a
  | .ask i j k => krun R (k (R i j))
theorem krun_bind {α β : Type} (R : Nat → Nat → Bool) (f : α → KasT β) : ∀ t : KasT α, krun R (t.bind f) = krun R (f (krun R t))
  | .ret a => rfl
  | .ask i j k => krun_bind R f (k (R i j))

/-- R is a strict weak order -/
structure Weak (R : Nat → Nat → Bool) : Prop where
  asym : ∀ i j, R i j = true → R j i = false
  tr : ∀ i j k, R j i = false → R k j = false → R k i = false

section
variable {R : Nat → Nat → Bool}
abbrev gt (p : Array Nat) (i : Nat) : Nat := p.getD i 0
theorem gt_get? (p : Array Nat) (i : Nat) : gt p i = (p[i]?).getD 0 := by simp [gt, Array.getD_eq_getD_getElem?]
theorem gt_rev {p : Array Nat} {i j : Nat} (hj : j ≤ p.size) (k : Nat) : gt (kas_rev p i j) k = if i ≤ k ∧ k < j then gt p (i + j - 1 - k) else gt p k := by
  rw [gt_get?, kas_rev, getElem?_mirror_all hj k]
  split <;> rw [gt_get?]
theorem gt_bub {p : Array Nat} {k l : Nat} (hk : k < p.size) (hl : l ≤ k) (m : Nat) : gt (bubble p k (k - l)) m = if m = l then gt p k else if l < m ∧ m ≤ k then gt p (m - 1) else gt p m := by
  rw [gt_get?, getElem?_bubble hk (k - l) (by omega) m]
  have e : k - (k - l) = l := by omega
  rw [e]
  by_cases h1 : m = l
  · rw [if_pos h1, if_pos h1, gt_get? p k]
  · rw [if_neg h1, if_neg h1]
    by_cases h2 : l < m ∧ m ≤ k
    · rw [if_pos h2, if_pos h2, gt_get? p (m - 1)]
    · rw [if_neg h2, if_neg h2, gt_get? p m]
theorem size_rev (p : Array Nat) (i j : Nat) : (kas_rev p i j).size = p.size := mirror_size _ _ _ _
theorem perm_rev (p : Array Nat) (i j : Nat) : (kas_rev p i j).Perm p := mirror_perm _ _ _ _

/-- the first k stand in order -/
def SP (R : Nat → Nat → Bool) (p : Array Nat) (k : Nat) : Prop := ∀ i j, i < j → j < k → R (gt p j) (gt p i) = false
def DP (R : Nat → Nat → Bool) (p : Array Nat) (k : Nat) : Prop := ∀ i j, i < j → j < k → R (gt p i) (gt p j) = false

theorem SP.snoc (w : Weak R) {p : Array Nat} {n : Nat} (h : SP R p n) (h1 : 1 ≤ n) (e : R (gt p n) (gt p (n - 1)) = false) : SP R p (n + 1) := fun i j hi hj => by
  by_cases q : j = n
  · subst q
    by_cases q2 : i = j - 1
    · subst q2; exact e
    · exact w.tr _ _ _ (h i (j - 1) (by omega) (by omega)) e
  · exact h i j hi (by omega)
theorem DP.snoc (w : Weak R) {p : Array Nat} {n : Nat} (h : DP R p n) (h1 : 1 ≤ n) (e : R (gt p (n - 1)) (gt p n) = false) : DP R p (n + 1) := fun i j hi hj => by
  by_cases q : j = n
  · subst q
    by_cases q2 : i = j - 1
    · subst q2; exact e
    · exact w.tr _ _ _ e (h i (j - 1) (by omega) (by omega))
  · exact h i j hi (by omega)

theorem asc_ok (w : Weak R) {p : Array Nat} : ∀ (f n : Nat), 1 ≤ n → SP R p n → n ≤ krun R (kas_asc p f n) ∧ krun R (kas_asc p f n) ≤ n + f ∧ SP R p (krun R (kas_asc p f n))
  | 0, n, h1, h => ⟨Nat.le_refl _, Nat.le_refl _, h⟩
  | f + 1, n, h1, h => by
    unfold kas_asc krun
    cases e : R (gt p n) (gt p (n - 1)) with
    | true => simp only [if_true, krun]; exact ⟨Nat.le_refl _, by omega, h⟩
    | false =>
      simp only [Bool.false_eq_true, if_false]
      obtain ⟨a, b, c⟩ := asc_ok w f (n + 1) (by omega) (h.snoc w h1 e)
      exact ⟨by omega, by omega, c⟩

/-- the last q + 1 of the first n are alike -/
def EB (R : Nat → Nat → Bool) (p : Array Nat) (n q : Nat) : Prop := ∀ i j, n - (q + 1) ≤ i → i < n → n - (q + 1) ≤ j → j < n → R (gt p i) (gt p j) = false
theorem dp_rev {p : Array Nat} {n q : Nat} (hn : n ≤ p.size) (hq : q + 1 ≤ n) (h : DP R p n) (b : EB R p n q) : DP R (kas_rev p (n - (q + 1)) n) n := fun i j hi hj => by
  rw [gt_rev hn, gt_rev hn]
  split
  · split
    · exact b _ _ (by omega) (by omega) (by omega) (by omega)
    · omega
  · split
    · exact h _ _ (by omega) (by omega)
    · exact h i j hi hj

theorem desc_ok (w : Weak R) : ∀ (f : Nat) (p : Array Nat) (n q : Nat), n + f ≤ p.size → q + 1 ≤ n → DP R p n → EB R p n q →
    (krun R (kas_desc f p n q)).1.Perm p ∧ n ≤ (krun R (kas_desc f p n q)).2.1 ∧ (krun R (kas_desc f p n q)).2.1 ≤ n + f ∧ (krun R (kas_desc f p n q)).2.2 + 1 ≤ (krun R (kas_desc f p n q)).2.1 ∧
      DP R (krun R (kas_desc f p n q)).1 (krun R (kas_desc f p n q)).2.1 ∧ EB R (krun R (kas_desc f p n q)).1 (krun R (kas_desc f p n q)).2.1 (krun R (kas_desc f p n q)).2.2
  | 0, p, n, q, hs, hq, h, b => ⟨.refl _, Nat.le_refl _, Nat.le_refl _, hq, h, b⟩
  | f + 1, p, n, q, hs, hq, h, b => by
    unfold kas_desc krun
    cases e : R (gt p n) (gt p (n - 1)) with
    | true =>
      simp only [if_true]
      have e2 := w.asym _ _ e
      have irr : ∀ x, R x x = false := fun x => by
        cases q : R x x with
        | false => rfl
        | true => have := w.asym _ _ q; rw [q] at this; exact this
      split
      · have hr := dp_rev (by omega) hq h b
        have e3 : R (gt (kas_rev p (n - (q + 1)) n) (n - 1)) (gt (kas_rev p (n - (q + 1)) n) n) = false := by
          rw [gt_rev (by omega), gt_rev (by omega), if_pos (by omega), if_neg (by omega)]
          exact w.tr _ _ _ e2 (b _ _ (by omega) (by omega) (by omega) (by omega))
        obtain ⟨a1, a2, a3, a4, a5, a6⟩ := desc_ok w f (kas_rev p (n - (q + 1)) n) (n + 1) 0 (by rw [size_rev]; omega) (by omega) (hr.snoc w (by omega) e3) (fun i j h1 h2 h3 h4 => by
          have : i = n := by omega
          have : j = n := by omega
          subst_vars; exact irr _)
        exact ⟨a1.trans (perm_rev _ _ _), by omega, by omega, a4, a5, a6⟩
      · obtain ⟨a1, a2, a3, a4, a5, a6⟩ := desc_ok w f p (n + 1) 0 (by omega) (by omega) (h.snoc w (by omega) e2) (fun i j h1 h2 h3 h4 => by
          have : i = n := by omega
          have : j = n := by omega
          subst_vars; exact irr _)
        exact ⟨a1, by omega, by omega, a4, a5, a6⟩
    | false =>
      simp only [Bool.false_eq_true, if_false]
      unfold krun
      cases e2 : R (gt p (n - 1)) (gt p n) with
      | true => simp only [if_true, krun]; exact ⟨.refl _, Nat.le_refl _, by omega, hq, h, b⟩
      | false =>
        simp only [Bool.false_eq_true, if_false]
        obtain ⟨a1, a2, a3, a4, a5, a6⟩ := desc_ok w f p (n + 1) (q + 1) (by omega) (by omega) (h.snoc w (by omega) e2) (fun i j h1 h2 h3 h4 => by
          have irr : ∀ x, R x x = false := fun x => by
            cases q : R x x with
            | false => rfl
            | true => have := w.asym _ _ q; rw [q] at this; exact this
          by_cases hi : i = n
          · by_cases hj : j = n
            · subst hi; subst hj; exact irr _
            · subst hi; exact w.tr _ _ _ (b j (i - 1) (by omega) (by omega) (by omega) (by omega) |> fun q => b (i-1) j (by omega) (by omega) (by omega) (by omega)) e
          · by_cases hj : j = n
            · subst hj; exact w.tr _ _ _ e2 (b i (j - 1) (by omega) (by omega) (by omega) (by omega))
            · exact b i j (by omega) (by omega) (by omega) (by omega))
        exact ⟨a1, by omega, by omega, a4, a5, a6⟩

theorem sp_of_dp {p : Array Nat} {n : Nat} (hn : n ≤ p.size) (h : DP R p n) : SP R (kas_rev p 0 n) n := fun i j hi hj => by
  rw [gt_rev hn, gt_rev hn, if_pos (by omega), if_pos (by omega)]
  exact h _ _ (by omega) (by omega)

theorem tail3_ok (w : Weak R) {p : Array Nat} {n nrem : Nat} (h1 : 1 ≤ n) (hn : n ≤ nrem) (hs : nrem ≤ p.size) (h : DP R p n) :
    (krun R (kas_tail3 n nrem p)).2.Perm p ∧ 1 ≤ (krun R (kas_tail3 n nrem p)).1 ∧ (krun R (kas_tail3 n nrem p)).1 ≤ nrem ∧ SP R (krun R (kas_tail3 n nrem p)).2 (krun R (kas_tail3 n nrem p)).1 := by
  unfold kas_tail3
  rw [krun_bind]
  obtain ⟨a, b, c⟩ := asc_ok w (p := kas_rev p 0 n) (nrem - n) n h1 (sp_of_dp (by omega) h)
  exact ⟨perm_rev _ _ _, by simp only [krun]; omega, by simp only [krun]; omega, c⟩
theorem descPart_ok (w : Weak R) {p : Array Nat} {n nrem : Nat} (h1 : 1 ≤ n) (hn : n + 1 ≤ nrem) (hs : nrem ≤ p.size) (h : DP R p (n + 1)) :
    (krun R (kas_descPart n nrem p)).2.Perm p ∧ 1 ≤ (krun R (kas_descPart n nrem p)).1 ∧ (krun R (kas_descPart n nrem p)).1 ≤ nrem ∧ SP R (krun R (kas_descPart n nrem p)).2 (krun R (kas_descPart n nrem p)).1 := by
  have irr : ∀ x, R x x = false := fun x => by
    cases q : R x x with
    | false => rfl
    | true => have := w.asym _ _ q; rw [q] at this; exact this
  unfold kas_descPart
  rw [krun_bind]
  obtain ⟨a1, a2, a3, a4, a5, a6⟩ := desc_ok w (nrem - (n + 1)) p (n + 1) 0 (by omega) (by omega) h (fun i j h1 h2 h3 h4 => by
    have : i = n := by omega
    have : j = n := by omega
    subst_vars; exact irr _)
  generalize krun R (kas_desc (nrem - (n + 1)) p (n + 1) 0) = r at *
  obtain ⟨p1, n1, q1⟩ := r
  simp only at a1 a2 a3 a4 a5 a6 ⊢
  have hs1 : p1.size = p.size := a1.size_eq
  split
  · obtain ⟨b1, b2, b3, b4⟩ := tail3_ok w (p := kas_rev p1 (n1 - (q1 + 1)) n1) (n := n1) (nrem := nrem) (by omega) (by omega) (by rw [size_rev]; omega) (dp_rev (by omega) a4 a5 a6)
    exact ⟨b1.trans ((perm_rev _ _ _).trans a1), b2, b3, b4⟩
  · obtain ⟨b1, b2, b3, b4⟩ := tail3_ok w (p := p1) (n := n1) (nrem := nrem) (by omega) (by omega) (by omega) a5
    exact ⟨b1.trans a1, b2, b3, b4⟩

theorem count_ok (w : Weak R) {p : Array Nat} {nrem : Nat} (h0 : 1 ≤ nrem) (hs : nrem ≤ p.size) :
    (krun R (kas_count nrem p)).2.Perm p ∧ 1 ≤ (krun R (kas_count nrem p)).1 ∧ (krun R (kas_count nrem p)).1 ≤ nrem ∧ SP R (krun R (kas_count nrem p)).2 (krun R (kas_count nrem p)).1 := by
  have irr : ∀ x, R x x = false := fun x => by
    cases q : R x x with
    | false => rfl
    | true => have := w.asym _ _ q; rw [q] at this; exact this
  unfold kas_count
  rw [krun_bind]
  obtain ⟨a, b, c⟩ := asc_ok w (p := p) (nrem - 1) 1 (Nat.le_refl _) (fun i j hi hj => by omega)
  have stop : krun R (kas_asc p (nrem - 1) 1) < nrem → R (gt p (krun R (kas_asc p (nrem - 1) 1))) (gt p (krun R (kas_asc p (nrem - 1) 1) - 1)) = true := by
    have key : ∀ f n, krun R (kas_asc p f n) < n + f → R (gt p (krun R (kas_asc p f n))) (gt p (krun R (kas_asc p f n) - 1)) = true := by
      intro f
      induction f with
      | zero => intro n h; simp [kas_asc, krun] at h
      | succ f ih =>
        intro n h
        unfold kas_asc krun at h ⊢
        cases e : R (gt p n) (gt p (n - 1)) with
        | true => rw [e] at h; simp only [if_true, krun]; exact e
        | false => rw [e] at h; simp only [Bool.false_eq_true, if_false] at h ⊢; exact ih (n + 1) (by omega)
    intro h
    exact key _ _ (by omega)
  generalize krun R (kas_asc p (nrem - 1) 1) = m at *
  split
  · rename_i e
    have : m = nrem := by simpa using e
    subst this
    exact ⟨.refl _, a, Nat.le_refl _, c⟩
  · rename_i e
    have hm : m < nrem := by have : m ≠ nrem := by simpa using e
                             omega
    have st := w.asym _ _ (stop hm)
    split
    · rename_i h1
      unfold krun
      cases e2 : R (gt p 0) (gt p (m - 1)) with
      | true => simp only [if_true, krun]; exact ⟨.refl _, a, by omega, c⟩
      | false =>
        simp only [Bool.false_eq_true, if_false]
        have flat : ∀ i j, i < m → j < m → R (gt p i) (gt p j) = false := fun i j hi hj => by
          have u : R (gt p i) (gt p 0) = false := by
            by_cases q : i = 0
            · subst q; exact irr _
            · exact c 0 i (by omega) hi
          have v : R (gt p (m - 1)) (gt p j) = false := by
            by_cases q : j = m - 1
            · subst q; exact irr _
            · exact c j (m - 1) (by omega) (by omega)
          have x : R (gt p i) (gt p (m - 1)) = false ∧ R (gt p 0) (gt p j) = false := ⟨by
            by_cases q : i = m - 1
            · subst q; exact irr _
            · exact w.tr _ _ _ e2 u, w.tr _ _ _ v e2⟩
          exact w.tr _ _ _ v x.1
        have dp : DP R (kas_rev p 0 m) (m + 1) := by
          refine DP.snoc w (fun i j hi hj => ?_) (by omega) ?_
          · rw [gt_rev (by omega), gt_rev (by omega), if_pos (by omega), if_pos (by omega)]
            exact flat _ _ (by omega) (by omega)
          · rw [gt_rev (by omega), gt_rev (by omega), if_pos (by omega), if_neg (by omega)]
            exact w.tr _ _ _ st (flat _ _ (by omega) (by omega))
        obtain ⟨b1, b2, b3, b4⟩ := descPart_ok w (p := kas_rev p 0 m) (n := m) (nrem := nrem) (by omega) (by omega) (by rw [size_rev]; omega) dp
        exact ⟨b1.trans (perm_rev _ _ _), b2, b3, b4⟩
    · have hm1 : m = 1 := by omega
      subst hm1
      exact descPart_ok w (by omega) (by omega) hs (fun i j hi hj => by
        have : i = 0 := by omega
        have : j = 1 := by omega
        subst_vars; exact st)

theorem place_ok {p : Array Nat} {k : Nat} (w : Weak R) (hp : SP R p k) : ∀ (f l r : Nat), l ≤ r → r ≤ k → r ≤ l + f → (∀ i, i < l → R (gt p k) (gt p i) = false) → (∀ i, r ≤ i → i < k → R (gt p k) (gt p i) = true) →
    krun R (kas_place p k f l r) ≤ k ∧ (∀ i, i < krun R (kas_place p k f l r) → R (gt p k) (gt p i) = false) ∧ (∀ i, krun R (kas_place p k f l r) ≤ i → i < k → R (gt p k) (gt p i) = true)
  | 0, l, r, h1, h2, h3, a, b => by
    have : l = r := by omega
    subst this
    exact ⟨h2, a, b⟩
  | f + 1, l, r, h1, h2, h3, a, b => by
    unfold kas_place
    split
    · have : l = r := by omega
      subst this
      exact ⟨h2, a, b⟩
    · unfold krun
      cases e : R (gt p k) (gt p ((l + r) / 2)) with
      | true =>
        simp only [if_true]
        refine place_ok w hp f l ((l + r) / 2) (by omega) (by omega) (by omega) a fun i h4 h5 => ?_
        by_cases q : i = (l + r) / 2
        · subst q; exact e
        · cases e2 : R (gt p k) (gt p i) with
          | true => rfl
          | false => have := w.tr _ _ _ (hp ((l + r) / 2) i (by omega) h5) e2; rw [e] at this; cases this
      | false =>
        simp only [Bool.false_eq_true, if_false]
        refine place_ok w hp f ((l + r) / 2 + 1) r (by omega) h2 (by omega) (fun i h4 => ?_) b
        by_cases q : i = (l + r) / 2
        · subst q; exact e
        · exact w.tr _ _ _ (hp i ((l + r) / 2) (by omega) (by omega)) e

theorem bin_ok (w : Weak R) : ∀ (f : Nat) (p : Array Nat) (k : Nat), k + f ≤ p.size → SP R p k → (krun R (kas_bin f p k)).Perm p ∧ SP R (krun R (kas_bin f p k)) (k + f)
  | 0, p, k, hs, h => ⟨.refl _, h⟩
  | f + 1, p, k, hs, h => by
    unfold kas_bin
    rw [krun_bind]
    obtain ⟨a, b, c⟩ := place_ok w h k 0 k (by omega) (Nat.le_refl _) (by omega) (fun i hi => by omega) (fun i h1 h2 => by omega)
    generalize krun R (kas_place p k k 0 k) = l at *
    have sp : SP R (bubble p k (k - l)) (k + 1) := fun i j hi hj => by
      rw [gt_bub (by omega) a, gt_bub (by omega) a]
      by_cases hj1 : j = l
      · rw [if_pos hj1, if_neg (by omega), if_neg (by omega)]
        exact b i (by omega)
      · rw [if_neg hj1]
        by_cases hj2 : l < j ∧ j ≤ k
        · rw [if_pos hj2]
          by_cases hi1 : i = l
          · rw [if_pos hi1]
            exact w.asym _ _ (c (j - 1) (by omega) (by omega))
          · rw [if_neg hi1]
            by_cases hi2 : l < i ∧ i ≤ k
            · rw [if_pos hi2]; exact h _ _ (by omega) (by omega)
            · rw [if_neg hi2]; exact h _ _ (by omega) (by omega)
        · rw [if_neg hj2, if_neg (by omega), if_neg (by omega)]
          exact h _ _ hi (by omega)
    obtain ⟨x, y⟩ := bin_ok w f (bubble p k (k - l)) (k + 1) (by rw [bubble_size]; omega) sp
    exact ⟨x.trans (bubble_perm _ _ _), by rw [show k + (f + 1) = k + 1 + f by omega]; exact y⟩

theorem sort_ok (w : Weak R) {n : Nat} (h : 1 ≤ n) : (krun R (kas_sort n)).Perm (List.range n).toArray ∧ SP R (krun R (kas_sort n)) n := by
  unfold kas_sort
  rw [krun_bind]
  obtain ⟨a, b, c, d⟩ := count_ok w (p := (List.range n).toArray) h (by simp)
  generalize krun R (kas_count n (List.range n).toArray) = r at *
  obtain ⟨m, p⟩ := r
  simp only at a b c d ⊢
  have hs : p.size = n := by rw [a.size_eq]; simp
  split
  · have hm : max m 1 = m := by omega
    rw [hm]
    obtain ⟨x, y⟩ := bin_ok w (n - m) p m (by omega) d
    exact ⟨x.trans a, by rw [show m + (n - m) = n by omega] at y; exact y⟩
  · have : m = n := by omega
    subst this
    exact ⟨a, d⟩
end
end Mine

end
-- part S2
section
open PySem PySem.W PyProof.Rows PySem.Calls PySem.Spec
set_option maxRecDepth 100000
set_option maxHeartbeats 4000000
set_option linter.unusedVariables false
set_option linter.unusedSectionVars false
namespace Mine

/-- every question asks for places below n; every answer has Pa -/
def InR {α : Type} (n : Nat) (Pa : α → Prop) : KasT α → Prop
  | .ret a => Pa a
  | .ask i j k => i < n ∧ j < n ∧ ∀ b, InR n Pa (k b)
theorem InR.bind {α β : Type} {n : Nat} {Pa : α → Prop} {Pb : β → Prop} {f : α → KasT β} : ∀ {t : KasT α}, InR n Pa t → (∀ a, Pa a → InR n Pb (f a)) → InR n Pb (t.bind f)
  | .ret a, h, g => g a h
  | .ask i j k, ⟨hi, hj, h⟩, g => ⟨hi, hj, fun b => InR.bind (h b) g⟩
theorem InR.wp {α : Type} {n : Nat} {Pa : α → Prop} {R : Nat → Nat → Bool} {cmp : Nat → Nat → (Bool → Shared → Prop) → Shared → Prop} {Q : α → Shared → Prop} {s : Shared}
    (hc : ∀ i j C, i < n → j < n → C (R i j) s → cmp i j C s) : ∀ {t : KasT α}, InR n Pa t → Q (krun R t) s → t.kasWp cmp Q s
  | .ret a, _, q => q
  | .ask i j k, ⟨hi, hj, h⟩, q => hc i j _ hi hj (InR.wp hc (h (R i j)) q)
abbrev Bd (n : Nat) (p : Array Nat) : Prop := ∀ i, gt p i < n
theorem bd_perm {n : Nat} (hn : 0 < n) {p q : Array Nat} (e : q.Perm p) (b : Bd n p) : Bd n q := fun i => by
  by_cases h : i < q.size
  · have hm : q[i] ∈ p := e.mem_iff.mp (Array.getElem_mem h)
    obtain ⟨j, hj, e2⟩ := Array.mem_iff_getElem.mp hm
    have := b j
    rw [gt_get?, Array.getElem?_eq_getElem hj] at this
    rw [gt_get?, Array.getElem?_eq_getElem h]
    rw [e2] at this
    exact this
  · rw [gt_get?, Array.getElem?_eq_none (by omega)]; exact hn
section
variable {n : Nat} (hn : 0 < n)
include hn
theorem inr_asc {p : Array Nat} (b : Bd n p) : ∀ f m, InR n (fun _ => True) (kas_asc p f m)
  | 0, m => trivial
  | f + 1, m => ⟨b _, b _, fun c => by cases c with | true => trivial | false => exact inr_asc b f (m + 1)⟩
theorem inr_desc : ∀ f {p : Array Nat} m q, Bd n p → InR n (fun r => Bd n r.1) (kas_desc f p m q)
  | 0, p, m, q, b => b
  | f + 1, p, m, q, b => ⟨b _, b _, fun c => by
    cases c with
    | true =>
      simp only [if_true]
      split
      · exact inr_desc f _ _ (bd_perm hn (perm_rev _ _ _) b)
      · exact inr_desc f _ _ b
    | false => exact ⟨b _, b _, fun d => by cases d with | true => exact b | false => exact inr_desc f _ _ b⟩⟩
theorem inr_tail3 {p : Array Nat} (b : Bd n p) (m nrem : Nat) : InR n (fun r => Bd n r.2) (kas_tail3 m nrem p) := (inr_asc hn (bd_perm hn (perm_rev _ _ _) b) _ _).bind fun _ _ => bd_perm hn (perm_rev _ _ _) b
theorem inr_descPart {p : Array Nat} (b : Bd n p) (m nrem : Nat) : InR n (fun r => Bd n r.2) (kas_descPart m nrem p) := (inr_desc hn _ _ _ b).bind fun r br => by
  try dsimp only
  split
  · exact inr_tail3 hn (bd_perm hn (perm_rev _ _ _) br) _ _
  · exact inr_tail3 hn br _ _
theorem inr_count {p : Array Nat} (b : Bd n p) (nrem : Nat) : InR n (fun r => Bd n r.2) (kas_count nrem p) := (inr_asc hn b _ _).bind fun m _ => by
  try dsimp only
  split
  · exact b
  · split
    · exact ⟨b _, b _, fun c => by cases c with | true => exact b | false => exact inr_descPart hn (bd_perm hn (perm_rev _ _ _) b) _ _⟩
    · exact inr_descPart hn b _ _
theorem inr_place {p : Array Nat} (b : Bd n p) (k : Nat) : ∀ f l r, InR n (fun _ => True) (kas_place p k f l r)
  | 0, l, r => trivial
  | f + 1, l, r => by
    unfold kas_place
    split
    · trivial
    · exact ⟨b _, b _, fun c => by cases c with | true => exact inr_place b k f _ _ | false => exact inr_place b k f _ _⟩
theorem inr_bin : ∀ f {p : Array Nat} k, Bd n p → InR n (fun r => Bd n r) (kas_bin f p k)
  | 0, p, k, b => b
  | f + 1, p, k, b => (inr_place hn b k _ _ _).bind fun l _ => inr_bin f _ (bd_perm hn (bubble_perm _ _ _) b)
theorem inr_sort : InR n (fun r => Bd n r) (kas_sort n) := by
  have b : Bd n (List.range n).toArray := fun i => by
    by_cases h : i < n
    · simp [gt, Array.getD, h]
    · simp [gt, Array.getD, h]; exact hn
  refine (inr_count hn b _).bind fun r br => ?_
  try dsimp only
  split
  · exact inr_bin hn _ _ br
  · exact br
end

section
variable {prog : Program} {w : World} {A : Around} {E : Value → Shared → Prop} {s : Shared}
theorem list_sort_at {a : Addr} {n : Nat} {vs : List Value} {R : Nat → Nat → Bool} {κ : SortKind} {P : PySem.Fin → Shared → Prop} (ho : s.heap.get? a = some (seqObj "list" vs.toArray n)) (h64 : vs.length < 64)
    (hk : 2 ≤ vs.length → ∀ (s' : Shared) (Q : SortKind → Shared → Prop) (E : Value → Shared → Prop), KeepsBut (· = a) s.heap s'.heap → Q κ s' → wpAny (model prog w) A (keyKind' vs.toArray) Q E s')
    (hc : ∀ i j (s' : Shared) (C : Bool → Shared → Prop) (E : Value → Shared → Prop), i < vs.length → j < vs.length → KeepsBut (· = a) s.heap s'.heap → C (R i j) s' → wpAny (model prog w) A (keyLt' κ (vs.getD i Value.none) (vs.getD j Value.none)) C E s')
    (hw : Weak R)
    (h : ∀ (p : Array Nat) h' tk c, p.Perm (List.range vs.length).toArray → SP R p vs.length → KeepsBut (· = a) s.heap h' → h'.get? a = some (seqObj "list" (p.toList.map fun i => vs.getD i Value.none).toArray c) → P (.done (.ret .none)) { s with heap := h', toks := tk }) :
    wpAny (model prog w) A (Builtin.«list.sort» ⟨[.ref a], []⟩) P E s := by
  have ha : a < s.heap.objs.size := Heap.lt_size ho
  obtain ⟨e1, ho1⟩ : ∃ e1, (s.heap.update a (Obj.mapSeq fun _ => (#[] : Array Value))).get? a = some (seqObj "list" #[] e1) := ⟨_, get?_update_seq ho fun _ => #[]⟩
  have s1 := Heap.SameBut.update s.heap a (Obj.mapSeq fun _ => (#[] : Array Value))
  rw [list_sort_plain]
  refine wpAny_bind (listItems_at ho rfl ?_)
  refine wpAny_bind (listUpdate_at ho rfl ?_ (by rw [List.size_toArray, sizeLine_eq]; omega) (Nat.zero_le _))
  refine wpAny_bind (seqEpoch_at ho1 rfl ?_)
  refine wpAny_bind (wpAny_newTuple ?_ (by show vs.length ≤ _; rw [sizeLine_eq]; omega))
  refine wpAny_bind (wpAny_newList ?_ (Nat.zero_le _))
  refine wpAny_holding ?_
  show wpAny (model prog w) A _ P E { s with heap := ((s.heap.update a (Obj.mapSeq fun _ => (#[] : Array Value))).push (seqObj "tuple" vs.toArray 0)).push (seqObj "list" #[] 0) }
  dsimp only
  generalize hH : ((s.heap.update a (Obj.mapSeq fun _ => (#[] : Array Value))).push (seqObj "tuple" vs.toArray 0)).push (seqObj "list" #[] 0) = H
  have kH : KeepsBut (· = a) s.heap H := fun b o nb e => hH ▸ Heap.get?_push_of_some _ (Heap.get?_push_of_some _ ((s1.2 b nb).trans e))
  have oH : H.get? a = some (seqObj "list" #[] e1) := hH ▸ Heap.get?_push_of_some _ (Heap.get?_push_of_some _ ho1)
  have hg : ∀ i, gt (List.range vs.length).toArray i = if i < vs.length then i else 0 := fun i => by
    by_cases q : i < vs.length
    · simp [gt, Array.getD, q]
    · simp [gt, Array.getD, q]
  have fin : ∀ (p : Array Nat) (out : Array Value), p.Perm (List.range vs.length).toArray → SP R p vs.length → out = (p.toList.map fun i => vs.getD i Value.none).toArray →
      P (.done (.ret .none)) { s with heap := H.update a (Obj.mapSeq fun _ => out) } := fun p out hp hs he => by
    obtain ⟨c2, hc2⟩ : ∃ c2, (H.update a (Obj.mapSeq fun _ => out)).get? a = some (seqObj "list" out c2) := ⟨_, get?_update_seq oH fun _ => out⟩
    exact h p _ s.toks c2 hp hs (fun b o nb e => ((Heap.SameBut.update H a _).2 b nb).trans (kH b o nb e)) (he ▸ hc2)
  by_cases h2 : vs.toArray.size < 2
  · rw [if_pos h2, if_pos h2]
    refine wpAny_bind (wpAny_pure ?_)
    rw [StateT.run_pure]
    refine wpAny_bind (wpAny_pure ?_)
    dsimp only
    refine wpAny_bind (seqEpoch_at oH rfl ?_)
    have hsz : vs.length < 2 := by simpa using h2
    refine wpAny_bind (listUpdate_at oH rfl ?_ (hsz2 := by rw [Array.size_map]; show (pairsOf vs).size ≤ _; rw [pairsOf_size, sizeLine_eq]; omega))
    simp only [bne_self_eq_false, Bool.false_eq_true, if_false]
    refine wpAny_pure (fin (List.range vs.length).toArray _ (.refl _) (fun i j hi hj => by omega) ?_)
    have e := kas_range (vs.toArray.zip vs.toArray)
    rw [show (vs.toArray.zip vs.toArray).size = vs.length by simp] at e
    exact kat_snds (vs := vs) (ks := vs) rfl e.symm
  · have h2' : 2 ≤ vs.length := by simp at h2; omega
    rw [if_neg h2, if_neg h2]
    refine wpAny_bind (hk h2' _ _ _ kH ?_)
    refine wpAny_bind (wpAny_mono (kat_run (vs := vs) (ks := vs) (κ := κ) (Q := fun st' s' => s' = { s with heap := H } ∧ ∃ p : Array Nat, p.size = vs.length ∧ arrOf st' = p.map (kas_item (vs.toArray.zip vs.toArray)) ∧ failedOf st' = none ∧ p = krun R (kas_sort vs.length))
      (G := fun p s' => s' = { s with heap := H } ∧ p = krun R (kas_sort vs.length)) rfl h2' h64 (fun p' st' s' a1 a2 a3 a4 => ⟨a4.1, p', a1, a2, a3, a4.2⟩) ?_) ?_ fun _ _ e => e)
    · exact InR.wp (R := R) (n := vs.length) (fun i j C hi hj q => hc i j _ _ _ hi hj kH q) (inr_sort (by omega)) ⟨rfl, rfl⟩
    · rintro ⟨⟨⟩, st'⟩ s' ⟨rfl, p, hp, har, hf, rfl⟩
      dsimp only
      obtain ⟨o1, o2⟩ := sort_ok hw (n := vs.length) (by omega)
      have hout := kat_snds (vs := vs) (ks := vs) rfl har
      rw [hout]
      refine wpAny_bind (seqEpoch_at oH rfl ?_)
      refine wpAny_bind (listUpdate_at oH rfl ?_ (Nat.zero_le _) (by rw [List.size_toArray, List.length_map, Array.length_toList, hp, sizeLine_eq]; omega))
      rw [hf]
      simp only [bne_self_eq_false, Bool.false_eq_true, if_false]
      exact wpAny_pure (fin _ _ o1 o2 rfl)

theorem wp_sorted {v : Value} {n : Nat} {VP : List Value → Prop} {R : Nat → Nat → Bool} {κ : SortKind} {Q : Value → Shared → Prop} (h64 : n < 64) (hw : Weak R) (hlen : ∀ vs, VP vs → vs.length = n)
    (hcol : ∀ (Q : List Value → Shared → Prop), (∀ vs h' tk, VP vs → Keeps s.heap h' → Q vs { s with heap := h', toks := tk }) → wpAny (model prog w) A.in1 (collect v) Q E s)
    (hk : ∀ vs, VP vs → 2 ≤ vs.length → ∀ (s' : Shared) (Q : SortKind → Shared → Prop) (E : Value → Shared → Prop), Keeps s.heap s'.heap → Q κ s' → wpAny (model prog w) A.in1.in1 (keyKind' vs.toArray) Q E s')
    (hc : ∀ vs, VP vs → ∀ i j (s' : Shared) (C : Bool → Shared → Prop) (E : Value → Shared → Prop), i < n → j < n → Keeps s.heap s'.heap → C (R i j) s' → wpAny (model prog w) A.in1.in1 (keyLt' κ (vs.getD i Value.none) (vs.getD j Value.none)) C E s')
    (h : ∀ vs, VP vs → ∀ (p : Array Nat) h' tk a, p.Perm (List.range n).toArray → SP R p n → Keeps s.heap h' → s.heap.get? a = none → h'.PlainList a (p.toList.map fun i => vs.getD i Value.none).toArray → Q (.ref a) { s with heap := h', toks := tk }) :
    wpAny (model prog w) A (call (.builtin "sorted") [v]) Q E s := by
  refine call_function_entry kind_sorted plain_sorted entry_sorted (args_sorted1 _) ?_
  unfold Builtin.«sorted»
  refine wpAny_bind (m := checkCount "sorted" 1 1 _) (wpAny_pure ?_)
  refine wpAny_bind (hcol _ fun vs h1 tk1 vp k1 => ?_)
  have hl := hlen vs vp
  subst hl
  refine wpAny_bind (wpAny_newList ?_ (by rw [sizeLine_eq]; omega))
  have ho : (h1.push (seqObj "list" vs.toArray 0)).get? h1.objs.size = some (seqObj "list" vs.toArray 0) := Heap.get?_push_size _ rfl
  have below : ∀ b o, s.heap.get? b = some o → b ≠ h1.objs.size := fun b o e => Nat.ne_of_lt (Heap.lt_size (k1 b o e))
  have kk : ∀ {h' : Heap}, KeepsBut (· = h1.objs.size) (h1.push (seqObj "list" vs.toArray 0)) h' → Keeps s.heap h' := fun {h'} k b o e => k b o (below b o e) (Heap.get?_push_of_some _ (k1 b o e))
  have hle : s.heap.get? h1.objs.size = none := by
    cases e : s.heap.get? h1.objs.size with
    | some o => exact absurd rfl (below _ o e)
    | none => rfl
  refine wpAny_bind (wpAny_holding (wpAny_call_entry slot_list_sort ⟨_, ho, rfl⟩ entry_list_sort (list_sort_at (s := { s with heap := h1.push (seqObj "list" vs.toArray 0), toks := tk1 }) ho h64 (fun h2 s' Q E k q => hk vs vp h2 s' Q E (kk k) q) (fun i j s' C E hi hj k q => hc vs vp i j s' C E hi hj (kk k) q) hw
    fun p h' tk c hp hs k hl => ⟨_, rfl, wpAny_pure ⟨_, rfl, h vs vp p h' tk h1.objs.size hp hs (kk k) hle ⟨_, hl⟩⟩⟩) (args_list_sort _)))
end
end Mine

end
-- part S3
section
open PySem PySem.W PyProof.Rows PySem.Calls PySem.Spec
set_option maxRecDepth 100000
set_option maxHeartbeats 4000000
set_option linter.unusedVariables false
namespace Mine

-- the order of tuples of ints
theorem lexLt_irrefl : ∀ x, lexLt x x = false
  | [] => rfl
  | a :: x => by simp [lexLt, lexLt_irrefl x]
theorem lexLt_asym : ∀ x y, lexLt x y = true → lexLt y x = false
  | [], [], h => by simp [lexLt] at h
  | [], _ :: _, _ => rfl
  | _ :: _, [], h => by simp [lexLt] at h
  | a :: x, b :: y, h => by
    by_cases e : a = b
    · subst e; simp [lexLt] at h ⊢; exact lexLt_asym x y h
    · simp [lexLt, e, Ne.symm e] at h ⊢; omega
theorem lexLt_total : ∀ x y, lexLt x y = false → lexLt y x = false → x = y
  | [], [], _, _ => rfl
  | [], _ :: _, h, _ => by simp [lexLt] at h
  | _ :: _, [], _, h => by simp [lexLt] at h
  | a :: x, b :: y, h, g => by
    by_cases e : a = b
    · subst e; simp [lexLt] at h g; rw [lexLt_total x y h g]
    · simp [lexLt, e, Ne.symm e] at h g; omega
theorem lexLt_trans : ∀ x y z, lexLt x y = true → lexLt y z = true → lexLt x z = true
  | [], [], _, h, _ => by simp [lexLt] at h
  | [], _ :: _, [], _, h => by simp [lexLt] at h
  | [], _ :: _, _ :: _, _, _ => rfl
  | _ :: _, [], _, h, _ => by simp [lexLt] at h
  | _ :: _, _ :: _, [], _, h => by simp [lexLt] at h
  | a :: x, b :: y, c :: z, h, g => by
    by_cases e : a = b
    · subst e
      by_cases e2 : a = c
      · subst e2; simp [lexLt] at h g ⊢; exact lexLt_trans x y z h g
      · simp [lexLt, e2] at h g ⊢; exact g
    · by_cases e2 : b = c
      · subst e2; simp [lexLt, e] at h g ⊢; exact h
      · simp [lexLt, e, e2] at h g
        have : a ≠ c := by omega
        simp [lexLt, this]; omega
theorem lexLt_weak (x y z : List Int) (h : lexLt y x = false) (g : lexLt z y = false) : lexLt z x = false := by
  cases e : lexLt z x with
  | false => rfl
  | true =>
    exfalso
    by_cases e1 : lexLt x y = true
    · have := lexLt_trans _ _ _ e e1; rw [g] at this; cases this
    · have : x = y := lexLt_total _ _ (by simpa using e1) h
      subst this; rw [g] at e; cases e

/-- sorting by insertion -/
def ins {α : Type} (lt : α → α → Bool) (x : α) : List α → List α
  | [] => [x]
  | y :: ys => if lt x y then x :: y :: ys else y :: ins lt x ys
def srtBy {α : Type} (lt : α → α → Bool) : List α → List α
  | [] => []
  | x :: xs => ins lt x (srtBy lt xs)
abbrev srt := srtBy lexLt
abbrev srtI := srtBy fun (a b : Int) => decide (a < b)

structure Tot {α : Type} (lt : α → α → Bool) : Prop where
  asym : ∀ x y, lt x y = true → lt y x = false
  weak : ∀ x y z, lt y x = false → lt z y = false → lt z x = false
  anti : ∀ x y, lt x y = false → lt y x = false → x = y
theorem tot_lex : Tot lexLt := ⟨lexLt_asym, lexLt_weak, lexLt_total⟩
theorem tot_int : Tot fun (a b : Int) => decide (a < b) := ⟨fun x y h => by simp at h ⊢; omega, fun x y z h g => by simp at h g ⊢; omega, fun x y h g => by simp at h g; omega⟩
section
variable {α : Type} {lt : α → α → Bool}
def Ord (lt : α → α → Bool) (l : List α) : Prop := l.Pairwise fun a b => lt b a = false
theorem ins_perm (x : α) : ∀ l, (ins lt x l).Perm (x :: l)
  | [] => .refl _
  | y :: ys => by
    unfold ins
    split
    · exact .refl _
    · exact ((ins_perm x ys).cons y).trans (.swap x y ys)
theorem srt_perm : ∀ l : List α, (srtBy lt l).Perm l
  | [] => .refl _
  | x :: xs => (ins_perm x _).trans ((srt_perm xs).cons x)
theorem ins_ord (t : Tot lt) (x : α) : ∀ l, Ord lt l → Ord lt (ins lt x l)
  | [], _ => by unfold Ord ins; simp
  | y :: ys, h => by
    unfold Ord at h ⊢
    rw [List.pairwise_cons] at h
    unfold ins
    split
    · rename_i e
      refine List.pairwise_cons.mpr ⟨fun z hz => ?_, List.pairwise_cons.mpr h⟩
      rcases List.mem_cons.mp hz with rfl | hz
      · exact t.asym _ _ e
      · exact t.weak _ _ _ (t.asym _ _ e) (h.1 z hz)
    · rename_i e
      refine List.pairwise_cons.mpr ⟨fun z hz => ?_, ins_ord t x ys h.2⟩
      rcases List.mem_cons.mp ((ins_perm x ys).mem_iff.mp hz) with rfl | hz
      · simpa using e
      · exact h.1 z hz
theorem srt_ord (t : Tot lt) : ∀ l : List α, Ord lt (srtBy lt l)
  | [] => List.Pairwise.nil
  | x :: xs => ins_ord t x _ (srt_ord t xs)
theorem ord_eq (t : Tot lt) : ∀ l m : List α, l.Perm m → Ord lt l → Ord lt m → l = m
  | [], m, p, _, _ => by simpa using p.nil_eq
  | x :: l, [], p, _, _ => by simpa using p.eq_nil
  | x :: l, y :: m, p, h, g => by
    unfold Ord at h g
    rw [List.pairwise_cons] at h g
    have irr : ∀ x, lt x x = false := fun x => by
      cases q : lt x x with
      | false => rfl
      | true => have := t.asym _ _ q; rw [q] at this; exact this
    have e : x = y := by
      refine t.anti _ _ ?_ ?_
      · rcases List.mem_cons.mp (p.mem_iff.mp List.mem_cons_self) with e | hx
        · rw [e]; exact irr _
        · exact g.1 x hx
      · rcases List.mem_cons.mp (p.mem_iff.mpr List.mem_cons_self) with e | hy
        · rw [e]; exact irr _
        · exact h.1 y hy
    subst e
    rw [ord_eq t l m (List.perm_cons x |>.mp p) h.2 g.2]
theorem srt_eq (t : Tot lt) {l m : List α} (p : m.Perm l) (h : Ord lt m) : m = srtBy lt l := ord_eq t _ _ (p.trans (srt_perm l).symm) h (srt_ord t l)

theorem weak_of (t : Tot lt) (f : Nat → α) : Weak fun i j => lt (f i) (f j) := ⟨fun i j h => t.asym _ _ h, fun i j k h g => t.weak _ _ _ h g⟩
/-- what the sort's places give -/
theorem places_srt (t : Tot lt) {xs : List α} {z : α} {p : Array Nat} (hp : p.Perm (List.range xs.length).toArray) (hs : SP (fun i j => lt (xs.getD i z) (xs.getD j z)) p xs.length) : p.toList.map (fun i => xs.getD i z) = srtBy lt xs := by
  refine srt_eq t ?_ ?_
  · have h1 := (Array.perm_iff_toList_perm.mp hp).map fun i => xs.getD i z
    refine h1.trans (List.Perm.of_eq ?_)
    refine List.ext_getElem (by simp) fun i h1 h2 => ?_
    simp at h1 h2 ⊢
    simp [h1]
  · unfold Ord
    rw [List.pairwise_map, List.pairwise_iff_getElem]
    intro i j hi hj hij
    have hsz : p.size = xs.length := by rw [hp.size_eq]; simp
    have := hs i j hij (by rw [← hsz]; simpa using hj)
    have e : ∀ k (hk : k < p.toList.length), gt p k = p.toList[k] := fun k hk => by
      have hk' : k < p.size := by simpa using hk
      rw [gt_get?, Array.getElem?_eq_getElem hk']; simp
    rw [e i hi, e j hj] at this
    exact this
end
end Mine

end
-- part S4
section
open PySem PySem.W PyProof.Rows PySem.Calls PySem.Spec
set_option maxRecDepth 100000
set_option maxHeartbeats 4000000
set_option linter.unusedVariables false
namespace Mine

section
variable {prog : Program} {w : World} {A : Around} {E : Value → Shared → Prop} {s : Shared}
/-- a dict by its entries -/
def RawD (h : Heap) (d : Addr) (es : Array DictEntry) (ep : Nat) : Prop := ∃ o, h.get? d = some o ∧ o.ExactDict ∧ o.data = .dict es ep
theorem RawD.at' {h h' : Heap} {d : Addr} {es : Array DictEntry} {ep : Nat} (x : RawD h d es ep) (e : ∀ o, h.get? d = some o → h'.get? d = some o) : RawD h' d es ep := let ⟨o, ho, r⟩ := x; ⟨o, e o ho, r⟩
theorem RawD.typeIs {s : Shared} {d : Addr} {es : Array DictEntry} {ep : Nat} (x : RawD s.heap d es ep) : s.TypeIs (.ref d) "dict" := let ⟨o, ho, hx, _⟩ := x; ⟨o, ho, hx.1⟩
theorem raw_iter {d : Addr} {es : Array DictEntry} {ep : Nat} {Q : Value → Shared → Prop} (hd : (d == sysModules) = false) (hm : RawD s.heap d es ep)
    (hQ : Q (.ref s.heap.objs.size) { s with heap := s.heap.push { cls := .type "dict_keyiterator", data := .fields #[.ref d, .int 0 0, .int es.size 0, .int ep 0] } }) : wpAny (model prog w) A (pyIter (.ref d)) Q E s := by
  obtain ⟨o, ho, hc, hdat⟩ := id hm
  have hT := hm.typeIs
  refine wpAny_pyIter_slot hT F.slot_dict_iter (wpAny_call_entry F.slot_dict_iter hT F.entry_dict_iter ?_ (F.args_dict_iter_1 _))
  unfold Builtin.«dict.__iter__»
  refine wpAny_bind ?_
  unfold Builtin.Dict.dictSlotNone
  refine wpAny_bind (wpAny_notOrdered_dict hT ?_)
  show wpAny _ _ (pure (Value.ref d)) _ _ s
  refine wpAny_pure ?_
  show wpAny _ _ (Builtin.Dict.showsAll d >>= _) _ _ s
  unfold Builtin.Dict.showsAll
  rw [if_neg (by rw [hd]; exact Bool.false_ne_true)]
  refine wpAny_bind (wpAny_pure ?_)
  refine wpAny_bind (wpAny_dictEntries ho hdat ?_)
  refine wpAny_bind (wpAny_dictEpoch ho hdat ?_)
  refine wpAny_bind (wpAny_newObj_type (wpAny_pure ⟨_, rfl, "dict_keyiterator", _, ⟨_, Heap.get?_push_size _ rfl, rfl⟩, F.slot_dict_keyiterator_next.lookup, ?_⟩))
  simpa [rawInt] using hQ
theorem raw_item {it d : Addr} {i ep : Nat} {es : Array DictEntry} {Q : Option Value → Shared → Prop} (hit : s.heap.IsKeyIter it d i es.size ep) (hm : RawD s.heap d es ep) (hlt' : i < es.size)
    (hQ : ∀ h', h'.IsKeyIter it d (i + 1) es.size ep → Heap.SameBut it s.heap h' → Q (some es[i].key) { s with heap := h' }) : wpAny (model prog w) A (pyNext (.ref it)) Q E s := by
  obtain ⟨o, ho, hc, hd⟩ := id hit
  obtain ⟨od, hod, hcd, hdd⟩ := id hm
  unfold pyNext
  refine wpAny_bind (wpAny_attempt (wpAny_callSpecial?_slot (name := Str.ofString "__next__") hit.typeIs F.slot_dict_keyiterator_next
    (wpAny_call_entry F.slot_dict_keyiterator_next hit.typeIs F.entry_dict_keyiterator_next ?_ (F.args_dict_keyiterator_next_1 _))))
  refine wpAny_bind (wpAny_pure ?_)
  refine wpAny_bind ?_
  refine wpAny_bind ?_
  first | refine wpAny_bind (wpAny_typeNameOfWhole_keyiter hit.typeIs (wpAny_pure ?_)) | refine wpAny_bind (wpAny_typeNameOf_keyiter hit.typeIs (wpAny_pure ?_))
  refine wpAny_bind (wpAny_fieldsOf ho hd ?_)
  have hown : Builtin.Dict_items.ownsTuple "dict_keyiterator" = false := by decide
  simp only [hown, Bool.false_eq_true, if_false]
  show wpAny _ _ (if (Value.ref d == Value.none) = true then _ else _) _ _ s
  rw [if_neg (show ¬ ((Value.ref d == Value.none) = true) from Bool.false_ne_true)]
  refine wpAny_bind (wpAny_pure ?_)
  refine wpAny_bind (wpAny_dictEntries hod hdd ?_)
  rw [if_neg (by simp)]
  refine wpAny_bind (wpAny_pure ?_)
  refine wpAny_bind (wpAny_dictEpoch hod hdd ?_)
  rw [if_neg (by simp)]
  refine wpAny_pure ?_
  simp only [show ¬ ((i : Int) < 0) from by omega, if_false, Int.toNat_natCast, Array.getElem?_eq_getElem hlt']
  refine wpAny_bind ?_
  first | refine wpAny_bind (wpAny_typeNameOfWhole_keyiter hit.typeIs (wpAny_pure ?_)) | refine wpAny_bind (wpAny_typeNameOf_keyiter hit.typeIs (wpAny_pure ?_))
  refine wpAny_bind (wpAny_isOneOf_keyiter hit.typeIs ?_)
  show wpAny _ _ (setField (.ref it) 1 (rawInt ((i : Int) + 1)) >>= _) _ _ s
  refine wpAny_bind (wpAny_setField ho hd (by simp) ?_)
  have hit' : (s.heap.update it (Obj.mapFields (·.setIfInBounds 1 (rawInt ((i : Int) + 1))))).IsKeyIter it d (i + 1) es.size ep :=
    ⟨_, Heap.get?_update_self _ ho (Obj.isFreed_of_fields (Obj.data_mapFields hd _)), (Obj.cls_mapFields ..).trans hc, by rw [Obj.data_mapFields hd]; simp [rawInt]⟩
  refine wpAny_bind (wpAny_holding ?_)
  refine wpAny_bind (wpAny_isOneOf_keyiter (s := { s with heap := s.heap.update it (Obj.mapFields (·.setIfInBounds 1 (rawInt ((i : Int) + 1)))) }) hit'.typeIs ?_)
  show wpAny _ _ (pure es[i].key) _ _ _
  exact wpAny_pure (wpAny_pure ⟨_, rfl, wpAny_pure (hQ _ hit' (Heap.SameBut.update ..))⟩)
theorem raw_end {it d : Addr} {ep : Nat} {es : Array DictEntry} {Q : Option Value → Shared → Prop} (hh : A.handled = none) (hit : s.heap.IsKeyIter it d es.size es.size ep) (hm : RawD s.heap d es ep)
    (hQ : ∀ h', Heap.ExtBut it s.heap h' → Q none { s with heap := h' }) : wpAny (model prog w) A (pyNext (.ref it)) Q E s := by
  obtain ⟨o, ho, hc, hd⟩ := id hit
  obtain ⟨od, hod, hcd, hdd⟩ := id hm
  unfold pyNext
  refine wpAny_bind (wpAny_attempt (wpAny_callSpecial?_slot (name := Str.ofString "__next__") hit.typeIs F.slot_dict_keyiterator_next
    (wpAny_call_entry F.slot_dict_keyiterator_next hit.typeIs F.entry_dict_keyiterator_next ?_ (F.args_dict_keyiterator_next_1 _))))
  refine wpAny_bind (wpAny_pure ?_)
  refine wpAny_bind ?_
  refine wpAny_bind ?_
  first | refine wpAny_bind (wpAny_typeNameOfWhole_keyiter hit.typeIs (wpAny_pure ?_)) | refine wpAny_bind (wpAny_typeNameOf_keyiter hit.typeIs (wpAny_pure ?_))
  refine wpAny_bind (wpAny_fieldsOf ho hd ?_)
  have hown : Builtin.Dict_items.ownsTuple "dict_keyiterator" = false := by decide
  simp only [hown, Bool.false_eq_true, if_false]
  show wpAny _ _ (if (Value.ref d == Value.none) = true then _ else _) _ _ s
  rw [if_neg (show ¬ ((Value.ref d == Value.none) = true) from Bool.false_ne_true)]
  refine wpAny_bind (wpAny_pure ?_)
  refine wpAny_bind (wpAny_dictEntries hod hdd ?_)
  rw [if_neg (by simp)]
  refine wpAny_bind (wpAny_pure ?_)
  refine wpAny_bind (wpAny_dictEpoch hod hdd ?_)
  rw [if_neg (by simp)]
  refine wpAny_pure ?_
  simp only [show ¬ ((es.size : Int) < 0) from by omega, if_false, Int.toNat_natCast, Array.getElem?_eq_none (Nat.le_refl es.size)]
  refine wpAny_bind ?_
  first | refine wpAny_bind (wpAny_typeNameOfWhole_keyiter hit.typeIs (wpAny_pure ?_)) | refine wpAny_bind (wpAny_typeNameOf_keyiter hit.typeIs (wpAny_pure ?_))
  show wpAny _ _ (setField (.ref it) 0 .none >>= _) _ _ s
  refine wpAny_bind (wpAny_setField ho hd (by simp) ?_)
  show wpAny _ _ (newExc (.type "StopIteration") [] >>= _) _ _ _
  refine wpAny_bind ?_
  simp only [newExc, newTuple]
  refine wpAny_bind (wpAny_newObj_type ?_ (by size_fits))
  refine wpAny_bind (m := firstArgMember _ _) (wpAny_of_eq (a := Value.none) (by first | rfl | (simp only [firstArgMember]; rfl)) ?_)
  refine wpAny_newObj_type ?_ (by size_fits)
  simp only [raiseNew]
  refine wpAny_bind (wpAny_handled ?_)
  rw [show A.in1.handled = none from hh]
  refine wpAny_bind (wpAny_pure (wpAny_throw ?_))
  refine wpAny_bind (wpAny_isInstance (T := "StopIteration") (b := true) ⟨_, Heap.get?_push_size _ rfl, rfl⟩ isSubtype_stop ?_)
  exact wpAny_pure (hQ _ (((Heap.SameBut.update ..).extBut.push _).push _))
theorem walks_raw (hh : A.handled = none) (I d : Addr) (hne : d ≠ I) (es : Array DictEntry) (ep : Nat) :
    Walks prog w A I [I, d] [I] es.size (fun i v => ∃ e, es[i]? = some e ∧ v = e.key) (fun i h => h.IsKeyIter I d i es.size ep ∧ RawD h d es ep) where
  sub := fun b hb => by simp at hb; simp [hb]
  frame := fun _ _ _ st hk => ⟨st.1.at fun o e => hk I (by simp) o e, st.2.at' fun o e => hk d (by simp) o e⟩
  item := fun i s Q E hi st hQ => raw_item st.1 st.2 hi fun h' hit' hs' => hQ _ h' s.toks ⟨es[i], Array.getElem?_eq_getElem hi, rfl⟩ ⟨hit', st.2.at' fun o e => hs'.extBut d o hne e⟩ fun b o hb e => hs'.extBut b o (fun h => hb (by simp [h])) e
  done := fun s Q E st hQ => raw_end hh st.1 st.2 fun h' he' => hQ h' s.toks fun b o hb e => he' b o (fun h => hb (by simp [h])) e
  self := fun _ _ _ _ st hQ => wpAny_pyIter_keyiter st.1 hQ
theorem kdl_raw {d : Addr} {es : Array DictEntry} {ep : Nat} (lo : (d == sysModules) = false) : KdlSrc prog w "dict" d d es.size (fun i v => ∃ e, es[i]? = some e ∧ v = e.key) (fun h => RawD h d es ep) where
  type := fun _ hm => hm.typeIs
  there := fun _ hm => let ⟨_, ho, _⟩ := hm; ⟨Heap.lt_size ho, Heap.lt_size ho⟩
  keep := fun _ _ hm hk => hm.at' fun o e => hk d (.inl rfl) o e
  notList := by decide
  notTuple := by decide
  hint := fun _ _ _ _ hm hq => kdl_hint_dict hm.typeIs hq
  iter := fun _ _ hh hm => ⟨_, _, (fun _ _ hq => raw_iter lo hm hq), walks_raw hh _ d (let ⟨_, ho, _⟩ := hm; Nat.ne_of_lt (Heap.lt_size ho)) es ep, ⟨⟨_, Heap.get?_push_size _ rfl, rfl, rfl⟩, hm.at' fun o e => Heap.get?_push_of_some _ e⟩⟩
end

section
variable {W : Wd} {n : Nat} {env : Env} {X Z : Addr → Prop} {V : Addr → Prop} {T T' T1 T2 T3 : HP V} {ρ : Env1}

theorem reps_getD {h : Heap} {vs : List Value} {xss : List (List Int)} (r : Reps W X h vs (tups xss)) {i : Nat} (hi : i < xss.length) : Rep W X h (vs.getD i .none) (.tup ((xss.getD i []).map .int)) := by
  obtain ⟨v, hv, q⟩ := r.get (i := i) (d := .tup ((xss.getD i []).map .int)) (by simp [hi])
  rw [List.getD_eq_getElem?_getD, hv]; exact q
theorem reps_ofD {h : Heap} {vs : List Value} {xss : List (List Int)} (r : Reps W X h vs (tups xss)) : ∀ (l : List Nat), (∀ i ∈ l, i < xss.length) → Reps W X h (l.map fun i => vs.getD i .none) (tups (l.map fun i => xss.getD i []))
  | [], _ => .nil
  | i :: l, hl => .cons (reps_getD r (hl i List.mem_cons_self)) (reps_ofD r l fun j hj => hl j (List.mem_cons_of_mem _ hj))
theorem perm_lt {p : Array Nat} {n : Nat} (hp : p.Perm (List.range n).toArray) : ∀ i ∈ p.toList, i < n := fun i hi => by
  have := (Array.perm_iff_toList_perm.mp hp).mem_iff.mp hi
  simpa using this

theorem katTups_of {h : Heap} : ∀ {vs : List Value} {xss : List (List Int)}, (∀ xs ∈ xss, xs.length = 2) → Reps W X h vs (tups xss) → ∃ fs, fs.length = xss.length ∧ KatTups h vs fs ∧ ∀ f ∈ fs, ∃ i t, f = .int i t
  | _, [], _, r => by cases r; exact ⟨[], rfl, KatTups.nil, by simp⟩
  | _, xs :: xss, h2, r => by
    cases r with
    | cons a r =>
      obtain ⟨fs, e1, e2, e3⟩ := katTups_of (fun x hx => h2 x (List.mem_cons_of_mem _ hx)) r
      have hl := h2 xs List.mem_cons_self
      match xs, hl with
      | [x, y], _ =>
        cases a using Rep.tupC with
        | tup na ht rs =>
          cases rs with
          | cons q rs =>
            cases q using Rep.intC with
            | int t =>
              obtain ⟨o, ho, hc, nn, hd⟩ := ht
              exact ⟨.int x t :: fs, by simp [e1], KatTups.cons ho hc hd rfl e2, fun f hf => by
                rcases List.mem_cons.mp hf with rfl | hf
                · exact ⟨_, _, rfl⟩
                · exact e3 f hf⟩
theorem kat_pair {A : Around} {s : Shared} {u v : Value} {xs ys : List Int} {C : Bool → Shared → Prop} {E : Value → Shared → Prop} (hx : xs.length = 2) (hy : ys.length = 2) (ru : Rep W X s.heap u (.tup (xs.map .int))) (rv : Rep W X s.heap v (.tup (ys.map .int)))
    (h : C (lexLt xs ys) s) : wpAny W.M A (keyLt' (tuples' true) u v) C E s := by
  match xs, hx, ys, hy with
  | [a, b], _, [c, d], _ =>
    cases ru using Rep.tupC with
    | tup na ha ra =>
      cases rv using Rep.tupC with
      | tup nb hb rb =>
        cases ra using Reps.consC with
        | cons q1 ra => cases ra using Reps.consC with
          | cons q2 ra => cases ra using Reps.nilC with
            | nil => cases rb using Reps.consC with
              | cons q3 rb => cases rb using Reps.consC with
                | cons q4 rb => cases rb using Reps.nilC with
                  | nil =>
                    cases q1 using Rep.intC with
                    | int t1 => cases q2 using Rep.intC with
                      | int t2 => cases q3 using Rep.intC with
                        | int t3 => cases q4 using Rep.intC with
                          | int t4 =>
                            obtain ⟨o1, ho1, _, n1, hd1⟩ := ha
                            obtain ⟨o2, ho2, _, n2, hd2⟩ := hb
                            refine kat_lt ho1 hd1 ho2 hd2 (kat_cons (wpAny_eqBool_int (kat_go (fun e => kat_yes (kat_cons (wpAny_eqBool_int (kat_go (fun e2 => kat_yes (kat_nil ?_)) fun e2 => kat_no (kat_one _ _ (lt_int ?_)))))) fun e => kat_no (oneLt_int ?_))))
                            · have e' : a = c := by simpa using e
                              have e2' : b = d := by simpa using e2
                              subst e'; subst e2'
                              have : lexLt [a, b] [a, b] = false := lexLt_irrefl _
                              rw [this] at h; exact h
                            · have e' : a = c := by simpa using e
                              have e2' : b ≠ d := by simpa using e2
                              subst e'
                              have : lexLt [a, b] [a, d] = decide (b < d) := by simp [lexLt, e2']
                              rw [this] at h; exact h
                            · have e' : a ≠ c := by simpa using e
                              have : lexLt [a, b] [c, d] = decide (a < c) := by simp [lexLt, e']
                              rw [this] at h; exact h

theorem reps_items {h : Heap} {prog : Program} {w : World} : ∀ {ks : List Int} {vs : List Value}, ItemsAre (PySem.intKind prog w) ks vs → Reps W X h vs (ks.map .int)
  | _, _, .nil => .nil
  | _, _, .cons (k := k) (v := v) q r => by
    refine .cons ?_ (reps_items r)
    have q' : Value.isInt k v = true := q
    unfold Value.isInt at q'
    cases v <;> simp at q'
    subst q'
    exact .int _ _
/-- sorting what stands for pairs of ints -/
theorem sorted_pairs {A : Around} {s : Shared} {v : Value} {xss : List (List Int)} {Q : Value → Shared → Prop} {E : Value → Shared → Prop} (h2 : ∀ xs ∈ xss, xs.length = 2) (hl : xss.length < 64) (xt : ∀ a, X a → ∃ o, s.heap.get? a = some o)
    (hcol : ∀ (Q : List Value → Shared → Prop), (∀ vs h' tk, Reps W X s.heap vs (tups xss) → Keeps s.heap h' → Q vs { s with heap := h', toks := tk }) → wpAny W.M A.in1 (collect v) Q E s)
    (h : ∀ v h tk, Keeps s.heap h → Rep W X h v (.lst (tups (srt xss))) → Q v { s with heap := h, toks := tk }) : wpAny W.M A (call (.builtin "sorted") [v]) Q E s := by
  refine wp_sorted (n := xss.length) (VP := fun vs => Reps W X s.heap vs (tups xss)) (R := fun i j => lexLt (xss.getD i []) (xss.getD j [])) (κ := tuples' true) hl (weak_of tot_lex fun i => xss.getD i []) (fun vs r => by have := r.length; simpa using this) hcol ?_ ?_ ?_
  · intro vs r h2' s' Q E k q
    obtain ⟨fs, e1, e2, e3⟩ := katTups_of h2 (r.up (h' := s'.heap) fun b o _ e => k b o e)
    have hlen := r.length
    refine kat_kind (T := .type "int") e2 (by simp at hlen; omega) (fun f hf => ?_) rfl q
    obtain ⟨i, t, rfl⟩ := e3 f hf
    exact Looks.of_pure rfl
  · intro vs r i j s' C E hi hj k q
    have r' := r.up (h' := s'.heap) fun b o _ e => k b o e
    have mem : ∀ i, i < xss.length → xss.getD i [] ∈ xss := fun i hi => by simp [hi]
    exact kat_pair (h2 _ (mem i hi)) (h2 _ (mem j hj)) (reps_getD r' hi) (reps_getD r' hj) q
  · intro vs r p h' tk a hp hs k ha hlst
    have e : _ = srt xss := places_srt tot_lex (z := []) hp hs
    refine h (.ref a) h' tk k (.lst (fun x => by obtain ⟨o, e⟩ := xt a x; rw [ha] at e; cases e) hlst ?_)
    rw [← e]
    exact (reps_ofD r p.toList (perm_lt hp)).up fun b o _ e => k b o e
theorem on_sorted_lst {xss : List (List Int)} (h2 : ∀ xs ∈ xss, xs.length = 2) (hl : xss.length < 64) : OpN W n X T (fun vs => call (.builtin "sorted") vs) [.lst (tups xss)] (.lst (tups (srt xss))) := fun A s vs Q E r _ xt _ q h => by
  cases q using Reps.consC with
  | cons a r' =>
    cases r' using Reps.nilC
    cases a using Rep.lstC with
    | @lst l us na hl' rs =>
      have hl' := hl'.isList
      have hlen := rs.length
      refine sorted_pairs h2 hl xt (fun Q hq => collect_list hl' (hq us _ s.toks rs fun b o e => ?_) (by rw [sizeLine_eq]; simp at hlen; omega)) h
      have hlt := Heap.lt_size e
      rw [Heap.get?_update_ne _ _ _ _ (Nat.ne_of_lt hlt)]
      exact Heap.get?_push_of_some _ e
theorem on_sorted_tdict {xss : List (List Int)} {ds : List D} (h2 : ∀ xs ∈ xss, xs.length = 2) (hl : xss.length < 64) : OpN W n X T (fun vs => call (.builtin "sorted") vs) [.tdict xss ds] (.lst (tups (srt xss))) := fun A s vs Q E r _ xt _ q h => by
  cases q using Reps.consC with
  | cons a r' =>
    cases r' using Reps.nilC
    cases a using Rep.tdictC with
    | @tdict d as us na lo nb hm hl1 hl2 rs =>
      obtain ⟨o, es, ep, ho, hx, hd, hes, his, hnd⟩ := hm
      have hsz : es.size = xss.length := by rw [← Array.length_toList, hes]; simp; omega
      refine sorted_pairs h2 hl xt (fun Q hq => kdu_collect (kdl_raw (es := es) (ep := ep) lo) r.1 ⟨o, ho, hx, hd⟩ (by rw [sizeLine_eq]; omega) fun h' tk acc k hacc => hq acc.toList h' tk ?_ k) h
      have hal : acc.toList.length = xss.length := by
        have := hacc.1
        rw [Array.length_toList, this]; exact hsz
      have key : ∀ (m : Nat), m ≤ xss.length → Reps W X s.heap (acc.toList.drop (xss.length - m)) (tups (xss.drop (xss.length - m))) := by
        intro m
        induction m with
        | zero =>
          intro _
          have l1 : acc.toList.drop xss.length = [] := List.drop_eq_nil_of_le (by rw [hal]; omega)
          rw [show xss.length - 0 = xss.length from rfl, l1, List.drop_length]
          exact .nil
        | succ m ih =>
          intro hm
          have hi : xss.length - (m + 1) < xss.length := by omega
          have hia : xss.length - (m + 1) < acc.toList.length := by rw [hal]; omega
          rw [List.drop_eq_getElem_cons hia, List.drop_eq_getElem_cons hi, show xss.length - (m + 1) + 1 = xss.length - m by omega]
          refine .cons ?_ (ih (by omega))
          obtain ⟨e, he, hv⟩ := hacc.2 (xss.length - (m + 1)) acc.toList[xss.length - (m + 1)] (by rw [← Array.getElem?_toList]; exact List.getElem?_eq_getElem hia)
          rw [hv]
          have he2 : es.toList[xss.length - (m + 1)]? = some e := by rw [Array.getElem?_toList]; exact he
          rw [hes, List.getElem?_map] at he2
          obtain ⟨x, hx1, hx2⟩ := Option.map_eq_some_iff.mp he2
          have hia2 : xss.length - (m + 1) < as.length := by omega
          have hx3 : x.1 = xss[xss.length - (m + 1)] ∧ x.2.1 ∈ as := by
            have hz : (xss.zip (as.zip us))[xss.length - (m + 1)]? = some (xss[xss.length - (m + 1)], as[xss.length - (m + 1)], us[xss.length - (m + 1)]'(by omega)) := by
              rw [List.getElem?_eq_getElem (by simp; omega)]; simp
            rw [hz] at hx1
            cases hx1
            exact ⟨rfl, List.getElem_mem _⟩
          have kk := his x (List.mem_of_getElem? hx1)
          rw [← hx2, ← hx3.1]
          show Rep W X s.heap (.ref x.2.1) _
          obtain ⟨o2, its, n2, g1, g2, g3, g4⟩ := kk
          refine .tup (vs := its.toList) (nb _ hx3.2) ⟨o2, g1, g2, n2, by simpa using g3⟩ ?_
          exact reps_items g4
      have := key xss.length (Nat.le_refl _)
      simpa using this
end
end Mine

end
-- part B1
section
open PySem PySem.W PyProof.Rows PySem.Calls PySem.Spec
set_option maxRecDepth 100000
set_option maxHeartbeats 4000000
set_option linter.unusedVariables false
namespace Mine

section
variable {prog : Program} {w : World} {A : Around} {E : Value → Shared → Prop} {s : Shared}
theorem keys_miss : typeLookup (.type "list") "keys" = pure none := by rw [typeLookup_type, builtinLookup_eq_fast]; kernel_rfl
theorem keys_list {a : Addr} {xs : Array Value} {Q : Option Value → Shared → Prop} (hx : s.heap.PlainList a xs) (hA : A.handled = none) (h : ∀ h' tk, Keeps s.heap h' → Q none { s with heap := h', toks := tk }) : wpAny (model prog w) A (getAttr? (.ref a) "keys") Q E s := by
  obtain ⟨k, hx⟩ := hx
  obtain ⟨hp, g, d, tk, os⟩ := s
  have hT : ∀ tk', (⟨hp, g, d, tk', os⟩ : Shared).TypeIs (.ref a) "list" := fun _ => ⟨_, hx, rfl⟩
  have f1 := sub_AttributeError
  have f3 := F.slot_list_getattribute.lookup
  have f4 := F.slot_list_getattribute.bind (.ref a)
  have f5 := am_list_getattr_none
  unfold getAttr? getAttrBy? getAttrBy
  repeat (any_goals (first | assumption | exact hT _ | ((with_reducible show wpAny _ _ (call (Value.builtin "list.__getattribute__") _ _) _ _ _); refine call_meets F.slot_list_getattribute (hT _) am_entry_list_getattribute (F.args_list_getattribute_2 _ _) (meets_getattribute_miss_list a xs k #[] "keys" _ keys_miss (by decide) (by size_fits)) ⟨hx, hA, fun h' tk' e hx' => ?_⟩) | wp_step))
  obtain ⟨t', u', he⟩ := hx'.there
  show wpAny _ _ (getattributeRaised _ _ _ _ _ _ _) _ _ _
  unfold getattributeRaised
  repeat (any_goals (first | assumption | wp_step))
  exact h _ _ hx'.keeps
end
end Mine

end
-- part B2
section
open PySem PySem.W PyProof.Rows PySem.Calls PySem.Spec
set_option maxRecDepth 100000
set_option maxHeartbeats 4000000
set_option linter.unusedVariables false
namespace Mine

theorem entry_upd_loop : entryFor table "dict.update.loop" = some Builtin.«dict.update.loop» := entryFor_of_fast (by kernel_rfl)
theorem plain_upd_loop : plainId "dict.update.loop" = true := by decide +kernel
theorem repL_const {α : Type} {key : List Int} {c : Value} : ∀ {ks : List (List Int)} {as : List α}, ks.length = as.length → repL ks (as.map fun _ => c) key c = as.map fun _ => c
  | [], [], _ => rfl
  | k :: ks, a :: as, h => by simp only [List.map_cons, repL]; rw [repL_const (by simpa using h)]; simp
  | [], _ :: _, h => by simp at h
  | _ :: _, [], h => by simp at h
abbrev dpair (k : List Int) : D := .tup [.tup (k.map .int), .bool true]

section
variable {W : Wd} {X : Addr → Prop}
theorem upd_loop {A : Around} {d I l : Addr} (hh : A.handled = none) (hu : A.units + 1 < cLine) (ndI : d ≠ I) (xd : X d) (xI : X I) (xl : ¬ X l) : ∀ (rest : List (List Int)) (i : Nat) (vs : List Value) (ks : List (List Int)) (kas : List Addr) (s : Shared) (R : Result → Shared → Prop),
    s.heap.IsListIter I l i → s.heap.IsList l vs.toArray → Reps W X s.heap (vs.drop i) (rest.map dpair) → s.heap.DictOfH W.tk d (ks.zip (kas.zip (kas.map fun _ => Value.bool true))) → ks.length = kas.length → (∀ b ∈ kas, ¬ X b) → ks.length + rest.length ≤ 1000 →
    (∀ h tk (kas' : List Addr), KeepsBut (fun b => b = d ∨ b = I) s.heap h → h.DictOfH W.tk d ((rest.foldl setK ks).zip (kas'.zip (kas'.map fun _ => Value.bool true))) → (rest.foldl setK ks).length = kas'.length → (∀ b ∈ kas', ¬ X b) → R (.ok (.ret .none)) { s with heap := h, toks := tk }) →
    codeAny W.M A (.builtin "dict.update.loop" ⟨[.ref d, .ref I, rawInt i, .none], []⟩) R s
  | [], i, vs, ks, kas, s, R, hit, hl, rs, hD, hlen, nb, hsz, hR => by
    have hd : vs.drop i = [] := by cases hd : vs.drop i with | nil => rfl | cons _ _ => rw [hd] at rs; cases rs
    refine codeAny_builtin entry_upd_loop ?_
    rw [Around.under_plainId plain_upd_loop _]
    show wpAny _ A.in1 (pyNext (.ref I) >>= _) _ _ s
    refine wpAny_bind (wpAny_pyNext_list_end hh hit hl (by simpa using List.drop_eq_nil_iff.mp hd) fun h' he' => ?_)
    show wpAny _ A.in1 (Builtin.Dict.addKeywords d [] >>= _) _ _ _
    refine wpAny_bind (wpAny_pure (wpAny_pure (hR h' s.toks kas (fun b o n e => he' b o (fun q => n (.inr q)) e) (dictOfH_at hD (fun o e => he' d o ndI e) fun x hx o e => he' _ o (fun q => nb _ (mem_zip3 hx) (q ▸ xI)) e) hlen nb)))
  | key :: rest, i, vs, ks, kas, s, R, hit, hl, rs, hD, hlen, nb, hsz, hR => by
    cases hd : vs.drop i with
    | nil => rw [hd] at rs; cases rs
    | cons v vrest =>
      rw [hd] at rs
      cases rs with
      | cons a rs =>
        have hv : vs[i]? = some v := by have := congrArg (·[0]?) hd; simpa using this
        have hr : vs.drop (i + 1) = vrest := by have := congrArg List.tail hd; simpa using this
        refine codeAny_builtin entry_upd_loop ?_
        rw [Around.under_plainId plain_upd_loop _]
        show wpAny _ A.in1 (pyNext (.ref I) >>= _) _ _ s
        refine wpAny_bind (wpAny_pyNext_list_item hit hl (x := v) (by simpa using hv) fun h1 hit1 sb1 => ?_)
        have k1 : ∀ b o, b ≠ I → s.heap.get? b = some o → h1.get? b = some o := fun b o n e => (sb1.2 b n).trans e
        have ku1 : ∀ b o, ¬ X b → s.heap.get? b = some o → h1.get? b = some o := fun b o n e => k1 b o (fun q => n (q ▸ xI)) e
        have a1 := a.up ku1
        cases a1 using Rep.tupC with
        | @tup t its nt ht rt =>
          cases rt using Reps.consC with
          | @cons kv _ rk rt => cases rt using Reps.consC with
            | @cons bv _ rb rt =>
              cases rt using Reps.nilC
              cases rb using Rep.boolC
              obtain ⟨ka, rfl, nk, kk⟩ := tk_is rk
              have hD1 := dictOfH_at hD (h' := h1) (fun o e => k1 d o ndI e) fun x hx o e => k1 _ o (fun q => nb _ (mem_zip3 hx) (q ▸ xI)) e
              obtain ⟨ot, hot, hct, nn, hdt⟩ := ht
              refine wpAny_bind (wpAny_holding (wpAny_bind (wpAny_tryCatch ?_)))
              unfold Builtin.Dict.pairItems
              refine wpAny_bind (wpAny_typeOf (T := "tuple") ⟨ot, hot, hct⟩ ?_)
              rw [if_pos (by decide)]
              refine wpAny_bind (wpAny_seqItems hot hdt (wpAny_pure ?_))
              show wpAny _ A.in1 (holding [_, _] (dictSet d (.ref ka) (.bool true))) _ _ _
              refine wpAny_holding (wpAny_dictSet_heap (knd := W.tk) (show A.in1.units < cLine from hu) kk hD1 (fun h2 hD2 sb2 => ?_) (by rw [sizeLine_eq]; simp at hsz ⊢; omega))
              have k2 : ∀ b o, b ≠ d → h1.get? b = some o → h2.get? b = some o := fun b o n e => (sb2.2 b n).trans e
              have ku2 : ∀ b o, ¬ X b → h1.get? b = some o → h2.get? b = some o := fun b o n e => k2 b o (fun q => n (q ▸ xd)) e
              have fin : ∃ kas2 : List Addr, h2.DictOfH W.tk d ((setK ks key).zip (kas2.zip (kas2.map fun _ => Value.bool true))) ∧ (setK ks key).length = kas2.length ∧ ∀ b ∈ kas2, ¬ X b := by
                have hm := atKey_mem (key := key) (vs := kas.map fun _ => Value.bool true) hlen (by simp)
                unfold setK
                by_cases hk : key ∈ ks
                · rw [if_pos hk] at hm ⊢
                  obtain ⟨p, hp⟩ := hm
                  rw [storedH_old hp, map_putAt hlen (by simp), repL_const hlen] at hD2
                  exact ⟨kas, hD2, hlen, nb⟩
                · rw [if_neg hk] at hm ⊢
                  rw [storedH_new hm] at hD2
                  refine ⟨kas ++ [ka], ?_, by simp [hlen], fun b hb => ?_⟩
                  · rw [List.map_append, List.zip_append (by simp), List.zip_append (by simp; omega)]
                    exact hD2
                  · rcases List.mem_append.mp hb with hb | hb
                    · exact nb b hb
                    · simp at hb; exact hb ▸ nk
              obtain ⟨kas2, hD3, hlen3, nb3⟩ := fin
              have nlI : l ≠ I := fun e => xl (e ▸ xI)
              have nld : l ≠ d := fun e => xl (e ▸ xd)
              refine wpAny_pure ⟨plainId_quiet plain_upd_loop _, upd_loop hh hu ndI xd xI xl rest (i + 1) vs (setK ks key) kas2 _ R (hit1.at fun o e => k2 I o ndI.symm e) ((hl.at fun o e => k1 l o nlI e).at fun o e => k2 l o nld e) ?_ hD3 hlen3 nb3 ?_ fun h3 tk3 kas4 k3 hD4 hlen4 nb4 => ?_⟩
              · rw [hr]; exact (rs.up ku1).up ku2
              · have : (setK ks key).length ≤ ks.length + 1 := by unfold setK; split <;> simp
                simp at hsz; omega
              · exact hR h3 tk3 kas4 (fun b o n e => k3 b o n (k2 b o (fun q => n (.inl q)) (k1 b o (fun q => n (.inr q)) e))) hD4 hlen4 nb4

variable {n : Nat} {env : Env} {Z : Addr → Prop} {V : Addr → Prop} {T T' T1 T2 T3 : HP V} {ρ : Env1}
theorem reps_const : ∀ {h : Heap} (kas : List Addr) (ks : List (List Int)), ks.length = kas.length → Reps W X h (kas.map fun _ => Value.bool true) (ks.map fun _ => D.bool true)
  | _, [], [], _ => .nil
  | _, _ :: kas, _ :: ks, h => .cons (.bool true) (reps_const kas ks (by simpa using h))
  | _, [], _ :: _, h => by simp at h
  | _, _ :: _, [], h => by simp at h
theorem on_dict {ks : List (List Int)} (hl : ks.length ≤ 1000) : OpN W n X T (fun vs => call (.type "dict") vs) [.lst (ks.map dpair)] (.tdict (ks.foldl setK []) ((ks.foldl setK []).map fun _ => .bool true)) := fun A s vs Q E r kb xt _ q h => by
  cases q using Reps.consC with
  | cons a r' =>
    cases r' using Reps.nilC
    cases a using Rep.lstC with
    | @lst l us na hl' rs =>
      have hN := size_none s.heap
      refine callType_codes (Q₁ := fun obj s₁ => obj = .ref s.heap.objs.size ∧ s₁ = { s with heap := s.heap.push { cls := .type "dict", data := .dict #[] } }) F.kt_called_dict (F.kt_typeCall_dict_1 _) F.entry_dict_init (kt_code_dict_new _ ⟨rfl, rfl⟩) ?_
      rintro obj s₁ ⟨rfl, rfl⟩
      have kp := keeps_push s.heap { cls := .type "dict", data := .dict #[] }
      have hnew : (s.heap.push { cls := .type "dict", data := .dict #[] }).DictOfH W.tk s.heap.objs.size [] := Heap.DictOfH.new s.heap
      have hTd : Shared.TypeIs { s with heap := s.heap.push { cls := .type "dict", data := .dict #[] } } (.ref s.heap.objs.size) "dict" := hnew.typeIs
      have hlp := hl'.at (h' := s.heap.push { cls := .type "dict", data := .dict #[] }) fun o e => kp _ o e
      refine ⟨hTd, F.args_dict_init_2 _ _, ?_⟩
      unfold Builtin.«dict.__init__»
      refine wpAny_bind ?_
      unfold Builtin.Dict.selfAndRest
      refine wpAny_bind (wpAny_notOrdered_dict hTd ?_)
      show wpAny _ _ (pure (s.heap.objs.size, [Value.ref l])) _ _ _
      refine wpAny_pure ?_
      show wpAny _ _ (Builtin.Dict.updateFrom "dict.__init__" s.heap.objs.size (.ref l) [] .none) _ _ _
      unfold Builtin.Dict.updateFrom
      refine wpAny_bind (wpAny_typeOf (T := "list") hlp.isList.typeIs ?_)
      rw [if_pos (by decide)]
      refine wpAny_bind (keys_list (A := A.in1.in1) hlp r.1 fun h1 tk1 k1 => ?_)
      simp only [Option.isNone_none, if_true]
      have hl1 := (hlp.at fun o e => k1 _ o e).isList
      refine wpAny_bind (wpAny_rule (wpAny_bind (wpAny_pyIter_list (s := { s with heap := h1, toks := tk1 }) hl1 ?_)))
      have hdI : s.heap.objs.size ≠ h1.objs.size := Nat.ne_of_lt (Heap.lt_size (k1 _ _ (Heap.get?_push_size _ rfl)))
      have k2 := keeps_push h1 { cls := .type "list_iterator", data := .fields #[.ref l, .int 0 0] }
      have kall : Keeps s.heap (h1.push { cls := .type "list_iterator", data := .fields #[.ref l, .int 0 0] }) := kp.trans (k1.trans k2)
      let X' : Addr → Prop := fun b => X b ∨ b = s.heap.objs.size ∨ b = h1.objs.size
      have nI : ∀ o, s.heap.get? h1.objs.size ≠ some o := fun o e => Nat.lt_irrefl _ (Heap.lt_size (k1 _ _ (kp _ _ e)))
      have w : ∀ b, X' b → (∃ o, s.heap.get? b = some o) → X b := fun b q ⟨o, e⟩ => by
        rcases q with q | rfl | rfl
        · exact q
        · rw [hN] at e; cases e
        · exact absurd e (nI o)
      have hll : ¬ X' l := fun q => by
        obtain ⟨_, e⟩ := hl'
        exact na (w l q ⟨_, e⟩)
      refine wpAny_pure ⟨plainId_quiet plain_upd_loop _, upd_loop (X := X') (d := s.heap.objs.size) (I := h1.objs.size) (l := l) (A := A.in1) r.1 (by show A.units + 1 + 1 < cLine; have := r.2.2; omega) hdI (.inr (.inl rfl)) (.inr (.inr rfl)) hll ks 0 us [] [] _ _ ⟨_, Heap.get?_push_size _ rfl, rfl, rfl⟩ (hl1.at fun o e => k2 _ o e) ((rs.weak w).up fun b o _ e => kall b o e) ?_ rfl (by simp) (by simpa using hl) fun h3 tk3 kas k3 hD3 hlen3 nb3 => ?_⟩
      · exact dictOfH_at hnew (fun o e => k2 _ o (k1 _ o e)) (by simp)
      · have kf : Keeps s.heap h3 := fun b o e => k3 b o (fun q => by
          rcases q with rfl | rfl
          · rw [hN] at e; cases e
          · exact nI o e) (kall b o e)
        refine ⟨rfl, h _ h3 tk3 kf (.tdict (fun x => by obtain ⟨o, e⟩ := xt _ x; rw [hN] at e; cases e) (lo_new kb) (fun b hb x => nb3 b hb (.inl x)) hD3 hlen3 (by simp) (reps_const _ _ hlen3))⟩

-- str in a tuple of strs
theorem reps_strs {h : Heap} : ∀ {vs : List Value} {ys : List Str}, Reps W X h vs (ys.map .str) → StrsAre vs ys
  | _, [], r => by cases r; exact .nil
  | _, y :: ys, r => by
    cases r with
    | cons a r => cases a using Rep.strC; exact .cons _ _ (reps_strs r)
theorem op_notInS {x : Str} {ys : List Str} : Op2 W n X T (compareOp .NotIn) (.str x) (.tup (ys.map .str)) (.bool (!(ys.any (· == x)))) := fun A s v1 v2 Q E r _ _ _ q1 q2 h => by
  cases q1 using Rep.strC
  cases q2 using Rep.tupC with
  | tup na ht rs => exact notin_tuple_strs ht (by simpa using reps_strs rs) (h _ s.heap s.toks (keeps_refl _) (.bool _))

-- equal data are equal
mutual
def D.dep : D → Nat
  | .tup ds => D.deps ds + 1
  | .lst ds => D.deps ds + 1
  | _ => 0
def D.deps : List D → Nat
  | [] => 0
  | d :: ds => max (D.dep d) (D.deps ds)
end
mutual
theorem eqAt_same {s : Shared} : ∀ {d : D} {a b : Value} {A : Around}, d.flat = true → A.units + d.dep < cLine → Rep W X s.heap a d → Rep W X s.heap b d → SeqAt.EqAt A s a b true
  | .none, _, _, A, _, _, .none, .none => SeqAt.EqAt.same _
  | .bool x, _, _, A, _, _, .bool _, .bool _ => SeqAt.EqAt.same _
  | .int i, _, _, A, _, _, .int _ t, .int _ u => by
    have := (MeetsSeq.EqGives.int i i t u).at A s
    simpa using this
  | .str x, _, _, A, _, _, .str _ t, .str _ u => fun prog w E Q q => eqBool_str (by simpa using q)
  | .tup ds, _, _, A, f, hu, ra, rb => by
    cases ra using Rep.tupC with
    | @tup a vs na ha rsa =>
      cases rb using Rep.tupC with
      | @tup b us nb hb rsb =>
        by_cases e : a = b
        · subst e; exact SeqAt.EqAt.same _
        · have hl1 := rsa.length
          have hl2 := rsb.length
          have := SeqAt.RcAt.tuples (A := A) (e := fun _ => true) ha hb (by omega) fun j h1 h2 => ?_
          · rw [show ((List.range (min vs.toArray.size us.toArray.size)).all (fun _ => true) && vs.toArray.size == us.toArray.size) = true by simp; omega] at this
            exact SeqAt.EqAt.of_refs e this
          · have hj : j < ds.length := by simp at h1; omega
            exact eqAt_sames (A := A.in1) (by simpa [D.flat] using f) (by show A.units + 1 + _ < cLine; simp only [D.dep] at hu; omega) rsa rsb j (by simpa using h1) (by simpa using h2)
  | .lst ds, _, _, A, f, hu, ra, rb => by
    cases ra using Rep.lstC with
    | @lst a vs na ha rsa =>
      cases rb using Rep.lstC with
      | @lst b us nb hb rsb =>
        by_cases e : a = b
        · subst e; exact SeqAt.EqAt.same _
        · have hl1 := rsa.length
          have hl2 := rsb.length
          have := SeqAt.RcAt.lists (A := A) (e := fun _ => true) ha.isList hb.isList (by simp; omega) (by omega) fun j h1 h2 => ?_
          · rw [show ((List.range vs.toArray.size).all (fun _ => true)) = true by simp] at this
            exact SeqAt.EqAt.of_refs e this
          · have hj : j < ds.length := by simp at h1; omega
            exact eqAt_sames (A := A.in1) (by simpa [D.flat] using f) (by show A.units + 1 + _ < cLine; simp only [D.dep] at hu; omega) rsa rsb j (by simpa using h1) (by simpa using h2)
  | .idict .., _, _, _, f, _, _, _ => by simp [D.flat] at f
  | .tdict .., _, _, _, f, _, _, _ => by simp [D.flat] at f
  | .ptr .., _, _, _, f, _, _, _ => by simp [D.flat] at f
  | .upto .., _, _, _, f, _, _, _ => by simp [D.flat] at f
theorem eqAt_sames {s : Shared} : ∀ {ds : List D} {vs us : List Value} {A : Around}, D.flats ds = true → A.units + D.deps ds < cLine → Reps W X s.heap vs ds → Reps W X s.heap us ds → ∀ j (h1 : j < vs.length) (h2 : j < us.length), SeqAt.EqAt A s vs[j] us[j] true
  | [], _, _, _, _, _, .nil, .nil, j, h1, _ => by simp at h1
  | d :: ds, _, _, A, f, hu, .cons a ra, .cons b rb, j, h1, h2 => by
    simp only [D.flats, Bool.and_eq_true] at f
    cases j with
    | zero => exact eqAt_same f.1 (by simp only [D.deps] at hu; omega) a b
    | succ j => exact eqAt_sames f.2 (by simp only [D.deps] at hu; omega) ra rb j (by simpa using h1) (by simpa using h2)
end
theorem op_eqL {ds : List D} (hf : D.flats ds = true) (hd : D.deps ds ≤ 20) : Op2 W n X T (compareOp .Eq) (.lst ds) (.lst ds) (.bool true) := fun A s v1 v2 Q E r _ _ _ q1 q2 h => by
  cases q1 using Rep.lstC with
  | @lst a vs na ha rsa =>
    cases q2 using Rep.lstC with
    | @lst b us nb hb rsb =>
      have hl1 := rsa.length
      have hl2 := rsb.length
      have := SeqAt.RcAt.lists (A := A) (e := fun _ => true) ha.isList hb.isList (by simp; omega) (by have := r.2.2; omega) fun j h1 h2 => eqAt_sames (A := A.in1) hf (by show A.units + 1 + _ < cLine; have := r.2.2; omega) rsa rsb j (by simpa using h1) (by simpa using h2)
      rw [show ((List.range vs.toArray.size).all (fun _ => true)) = true by simp] at this
      exact this W.prog W.w E Q (h _ s.heap s.toks (keeps_refl _) (.bool _))
end
end Mine

end
-- part B3
section
open PySem PySem.W PyProof.Rows PySem.Calls PySem.Spec
set_option maxRecDepth 100000
set_option maxHeartbeats 4000000
set_option linter.unusedVariables false
namespace Mine
def minT (best : List Int) (rest : List (List Int)) : List Int := rest.foldl (fun b x => if lexLt x b then x else b) best
section
variable {W : Wd} {X : Addr → Prop}
theorem rc_tlt {A : Around} {s : Shared} {u v : Value} {xs ys : List Int} {Q : Value → Shared → Prop} {E : Value → Shared → Prop} (hu : A.units < cLine) (q1 : Rep W X s.heap u (.tup (xs.map .int))) (q2 : Rep W X s.heap v (.tup (ys.map .int))) (h : Q (.bool (lexLt xs ys)) s) : wpAny W.M A (richCompare .Lt u v) Q E s := by
  cases q1 using Rep.tupC with
  | tup na ha ra =>
    cases q2 using Rep.tupC with
    | tup nb hb rb =>
      refine wpAny_richCompare_same_room (op := .Lt) ha.typeIs hb.typeIs F.slot_tuple_lt (wpAny_call_entry F.slot_tuple_lt ha.typeIs F.entry_tuple_lt (tlt_tree ha hb (reps_ints ra) (reps_ints rb) ⟨_, rfl, (fun e => nomatch e), ?_⟩) (F.args_tuple_lt_2 _ _)) hu
      exact h
theorem min_loop {A : Around} {I l S : Addr} (hh : A.handled = none) (hu : A.units + 1 < cLine) (nSI : S ≠ I) (xS : X S) (xI : X I) (xl : ¬ X l) : ∀ (rest : List (List Int)) (i : Nat) (vs : List Value) (best : List Int) (vb : Value) (c : Nat) (s : Shared) (R : Result → Shared → Prop),
    s.heap.IsListIter I l i → s.heap.IsList l vs.toArray → Reps W X s.heap (vs.drop i) (tups rest) → Rep W X s.heap vb (.tup (best.map .int)) → s.heap.get? S = some { cls := .type "list", dict := none, data := .seq #[vb, vb] c, slots := #[] } →
    (∀ v h tk, KeepsBut (fun b => b = S ∨ b = I) s.heap h → Rep W X h v (.tup ((minT best rest).map .int)) → R (.ok (.ret v)) { s with heap := h, toks := tk }) →
    codeAny W.M A (.builtin "min.loop" ⟨[.ref I, .none, .ref S], []⟩) R s
  | [], i, vs, best, vb, c, s, R, hit, hl, rs, rb, hS, hR => by
    have hd : vs.drop i = [] := by cases hd : vs.drop i with | nil => rfl | cons _ _ => rw [hd] at rs; cases rs
    refine codeAny_builtin F.entry_min_loop ?_
    rw [Around.under_plainId F.plain_min_loop _]
    show wpAny _ A.in1 (seqItems? (.ref S) >>= _) _ _ s
    refine wpAny_bind (wpAny_seqItems hS rfl ?_)
    show wpAny _ A.in1 (tryCatch (pyNext (.ref I)) _ >>= _) _ _ s
    refine wpAny_bind (wpAny_tryCatch (wpAny_pyNext_list_end hh hit hl (by simpa using List.drop_eq_nil_iff.mp hd) fun h' he' => ?_))
    have hS' := he' S _ nSI hS
    show wpAny _ A.in1 (updateSeq S (fun _ => #[]) >>= _) _ _ _
    refine wpAny_bind ?_
    refine wpAny_updateSeq hS' rfl (wpAny_bind (wpAny_letGo (wpAny_pure ?_)))
    have k : KeepsBut (fun b => b = S ∨ b = I) s.heap (h'.update S (Obj.mapSeq fun _ => #[])) := fun b o n e => (Heap.get?_update_other _ _ (fun q => n (.inl q.symm))).trans (he' b o (fun q => n (.inr q)) e)
    exact hR vb _ s.toks k (rb.up fun b o n e => k b o (fun q => by rcases q with rfl | rfl; exact n xS; exact n xI) e)
  | key :: rest, i, vs, best, vb, c, s, R, hit, hl, rs, rb, hS, hR => by
    have hname : (toString "min" ++ toString ".loop" : String) = "min.loop" := by decide
    cases hd : vs.drop i with
    | nil => rw [hd] at rs; cases rs
    | cons v vrest =>
      rw [hd] at rs
      cases rs with
      | cons a rs =>
        have hv : vs[i]? = some v := by have := congrArg (·[0]?) hd; simpa using this
        have hr : vs.drop (i + 1) = vrest := by have := congrArg List.tail hd; simpa using this
        have nlI : l ≠ I := fun e => xl (e ▸ xI)
        have nlS : l ≠ S := fun e => xl (e ▸ xS)
        refine codeAny_builtin F.entry_min_loop ?_
        rw [Around.under_plainId F.plain_min_loop _]
        show wpAny _ A.in1 (seqItems? (.ref S) >>= _) _ _ s
        refine wpAny_bind (wpAny_seqItems hS rfl ?_)
        show wpAny _ A.in1 (tryCatch (pyNext (.ref I)) _ >>= _) _ _ s
        refine wpAny_bind (wpAny_tryCatch (wpAny_pyNext_list_item hit hl (x := v) (by simpa using hv) fun h1 hit1 sb1 => ?_))
        have k1 : ∀ b o, b ≠ I → s.heap.get? b = some o → h1.get? b = some o := fun b o n e => (sb1.2 b n).trans e
        have ku1 : ∀ b o, ¬ X b → s.heap.get? b = some o → h1.get? b = some o := fun b o n e => k1 b o (fun q => n (q ▸ xI)) e
        have hS' := k1 S _ nSI hS
        have a1 := a.up ku1
        have rb1 := rb.up ku1
        show wpAny _ A.in1 (tryCatch (holding [v, v] (richCompare .Lt v vb >>= _)) _ >>= _) _ _ _
        refine wpAny_bind (wpAny_tryCatch (wpAny_holding (wpAny_bind (rc_tlt (W := W) (X := X) (A := A.in1) (show A.in1.units < cLine from hu) a1 rb1 ?_))))
        refine wpAny_bind (wpAny_holding (wpAny_truthy_bool ?_))
        refine wpAny_bind (wpAny_letGo (wpAny_pure ?_))
        cases hb : lexLt key best with
        | true =>
          simp only [if_true]
          refine wpAny_bind ?_
          refine wpAny_updateSeq hS' rfl (wpAny_bind (wpAny_letGo ?_))
          rw [hname]
          have k2 : ∀ b o, b ≠ S → h1.get? b = some o → (h1.update S (Obj.mapSeq fun _ => #[v, v])).get? b = some o := fun b o n e => (Heap.get?_update_other _ _ n.symm).trans e
          have ku2 : ∀ b o, ¬ X b → h1.get? b = some o → (h1.update S (Obj.mapSeq fun _ => #[v, v])).get? b = some o := fun b o n e => k2 b o (fun q => n (q ▸ xS)) e
          refine wpAny_pure ⟨plainId_quiet F.plain_min_loop _, min_loop hh hu nSI xS xI xl rest (i + 1) vs key v _ _ R (hit1.at fun o e => k2 I o nSI.symm e) ((hl.at fun o e => k1 l o nlI e).at fun o e => k2 l o nlS e) (by rw [hr]; exact (rs.up ku1).up ku2) (a1.up ku2) (Heap.get?_update_self _ hS' rfl) fun v' h3 tk3 k3 r3 => ?_⟩
          refine hR v' h3 tk3 (fun b o n e => k3 b o n (k2 b o (fun q => n (.inl q)) (k1 b o (fun q => n (.inr q)) e))) ?_
          have : minT best (key :: rest) = minT key rest := by simp [minT, hb]
          rw [this]; exact r3
        | false =>
          simp only [Bool.false_eq_true, if_false]
          refine wpAny_bind (wpAny_letGo ?_)
          rw [hname]
          refine wpAny_pure ⟨plainId_quiet F.plain_min_loop _, min_loop hh hu nSI xS xI xl rest (i + 1) vs best vb c _ R hit1 (hl.at fun o e => k1 l o nlI e) (by rw [hr]; exact rs.up ku1) rb1 hS' fun v' h3 tk3 k3 r3 => ?_⟩
          refine hR v' h3 tk3 (fun b o n e => k3 b o n (k1 b o (fun q => n (.inr q)) e)) ?_
          have : minT best (key :: rest) = minT best rest := by simp [minT, hb]
          rw [this]; exact r3
variable {n : Nat} {env : Env} {Z : Addr → Prop} {V : Addr → Prop} {T T' T1 T2 T3 : HP V} {ρ : Env1}
theorem on_min {best : List Int} {rest : List (List Int)} : OpN W n X T (fun vs => call (.builtin "min") vs) [.lst (tups (best :: rest))] (.tup ((minT best rest).map .int)) := fun A s vs Q E r kb xt _ q h => by
  cases q using Reps.consC with
  | cons a r' =>
    cases r' using Reps.nilC
    cases a using Rep.lstC with
    | @lst l us na hl' rs =>
      have hname : (toString "min" ++ toString ".loop" : String) = "min.loop" := by decide
      cases rs with
      | @cons v vrest _ _ a rs =>
        have hl := hl'.isList
        refine call_function_tree F.kind_min F.plain_min F.entry_min (F.args_min1 _) ?_
        show wpAny _ A.in1 (Builtin.Builtins.bindParams "min" ["key", "default"] 0 ⟨[], []⟩ >>= _) _ _ s
        refine wpAny_bind (wpAny_of_eq (show Builtin.Builtins.bindParams "min" ["key", "default"] 0 ⟨[], []⟩ = pure [none, none] from rfl) ?_)
        refine wpAny_bind (wpAny_pure ?_)
        refine wpAny_bind (wpAny_pyIter_list hl ?_)
        refine wpAny_bind (wpAny_newObj_type ?_)
        rw [hname]
        have kp1 := keeps_push s.heap { cls := .type "list_iterator", data := .fields #[.ref l, .int 0 0] }
        have kp2 := keeps_push (s.heap.push { cls := .type "list_iterator", data := .fields #[.ref l, .int 0 0] }) { cls := .type "list", data := .seq ([] : List Value).toArray }
        have kp := kp1.trans kp2
        have hS : ((s.heap.push { cls := .type "list_iterator", data := .fields #[.ref l, .int 0 0] }).push { cls := .type "list", data := .seq ([] : List Value).toArray }).get? (s.heap.objs.size + 1) = some { cls := .type "list", data := .seq #[] } := by
          have := Heap.get?_push_size (s.heap.push { cls := .type "list_iterator", data := .fields #[.ref l, .int 0 0] }) (o := { cls := .type "list", data := .seq ([] : List Value).toArray }) rfl
          rw [Heap.size_push] at this; exact this
        rw [show (s.heap.push { cls := .type "list_iterator", data := .fields #[.ref l, .int 0 0] }).objs.size = s.heap.objs.size + 1 from Heap.size_push ..]
        have hI : ((s.heap.push { cls := .type "list_iterator", data := .fields #[.ref l, .int 0 0] }).push { cls := .type "list", data := .seq ([] : List Value).toArray }).IsListIter s.heap.objs.size l 0 := ⟨_, kp2 _ _ (Heap.get?_push_size _ rfl), rfl, rfl⟩
        generalize hH : (s.heap.push { cls := .type "list_iterator", data := .fields #[.ref l, .int 0 0] }).push { cls := .type "list", data := .seq ([] : List Value).toArray } = H at hS hI kp ⊢
        let X' : Addr → Prop := fun b => X b ∨ b = s.heap.objs.size ∨ b = s.heap.objs.size + 1
        have w : ∀ b, X' b → (∃ o, s.heap.get? b = some o) → X b := fun b q ⟨o, e⟩ => by
          have := Heap.lt_size e
          rcases q with q | q | q
          · exact q
          · exact absurd q (Nat.ne_of_lt this)
          · exact absurd q (Nat.ne_of_lt (Nat.lt_succ_of_lt this))
        have nI : s.heap.objs.size + 1 ≠ s.heap.objs.size := Nat.succ_ne_self _
        have nlI : l ≠ s.heap.objs.size := by obtain ⟨o, e, _⟩ := hl; exact Nat.ne_of_lt (Heap.lt_size e)
        have nlS : l ≠ s.heap.objs.size + 1 := by obtain ⟨o, e, _⟩ := hl; exact Nat.ne_of_lt (Nat.lt_succ_of_lt (Heap.lt_size e))
        have xl : ¬ X' l := fun q => by
          rcases q with q | q | q
          · exact na q
          · exact nlI q
          · exact nlS q
        have hlH := hl.at fun o e => kp l o e
        have aH := (a.weak w).up fun b o _ e => kp b o e
        have rsH := (rs.weak w).up fun b o _ e => kp b o e
        refine wpAny_pure ⟨plainId_quiet F.plain_min_loop _, codeAny_builtin F.entry_min_loop ?_⟩
        rw [Around.under_plainId F.plain_min_loop _]
        show wpAny _ A.in1 (seqItems? (.ref (s.heap.objs.size + 1)) >>= _) _ _ _
        refine wpAny_bind (wpAny_seqItems hS rfl ?_)
        show wpAny _ A.in1 (tryCatch (pyNext (.ref s.heap.objs.size)) _ >>= _) _ _ _
        refine wpAny_bind (wpAny_tryCatch (wpAny_pyNext_list_item (s := { s with heap := H }) hI hlH (x := v) (by simp) fun h1 hit1 sb1 => ?_))
        have k1 : ∀ b o, b ≠ s.heap.objs.size → H.get? b = some o → h1.get? b = some o := fun b o n e => (sb1.2 b n).trans e
        have ku1 : ∀ b o, ¬ X' b → H.get? b = some o → h1.get? b = some o := fun b o n e => k1 b o (fun q => n (.inr (.inl q))) e
        have hS' := k1 _ _ nI hS
        show wpAny _ A.in1 (updateSeq (s.heap.objs.size + 1) (fun _ => #[v, v]) >>= _) _ _ _
        refine wpAny_bind ?_
        refine wpAny_updateSeq hS' rfl ?_
        rw [hname]
        have k2 : ∀ b o, b ≠ s.heap.objs.size + 1 → h1.get? b = some o → (h1.update (s.heap.objs.size + 1) (Obj.mapSeq fun _ => #[v, v])).get? b = some o := fun b o n e => (Heap.get?_update_other _ _ n.symm).trans e
        have ku2 : ∀ b o, ¬ X' b → h1.get? b = some o → (h1.update (s.heap.objs.size + 1) (Obj.mapSeq fun _ => #[v, v])).get? b = some o := fun b o n e => k2 b o (fun q => n (.inr (.inr q))) e
        refine wpAny_pure ⟨plainId_quiet F.plain_min_loop _, min_loop (X := X') (l := l) (I := s.heap.objs.size) (S := s.heap.objs.size + 1) r.1 (by have := r.2.2; omega) nI (.inr (.inr rfl)) (.inr (.inl rfl)) xl rest 1 (v :: vrest) best v _ _ _ (hit1.at fun o e => k2 _ o nI.symm e) ((hlH.at fun o e => k1 l o nlI e).at fun o e => k2 l o nlS e) ((rsH.up ku1).up ku2) ((aH.up ku1).up ku2) (Heap.get?_update_self _ hS' rfl) fun v' h3 tk3 k3 r3 => ?_⟩
        refine h v' h3 tk3 (fun b o e => ?_) (r3.weak fun b x _ => .inl x)
        have hb := Heap.lt_size e
        have n1 : b ≠ s.heap.objs.size := Nat.ne_of_lt hb
        have n2 : b ≠ s.heap.objs.size + 1 := Nat.ne_of_lt (Nat.lt_succ_of_lt hb)
        exact k3 b o (fun q => q.elim n2 n1) (k2 b o n2 (k1 b o n1 (kp b o e)))

-- sorted() of a dict of ints
theorem intsAre_of : ∀ {ks : List Int} {vs : List Value}, vs.length = ks.length → (∀ (j : Nat) v, vs[j]? = some v → ∃ k t, ks[j]? = some k ∧ v = .int k t) → IntsAre vs ks
  | [], [], _, _ => .nil
  | k :: ks, v :: vs, hl, h => by
    obtain ⟨k', t, e1, e2⟩ := h 0 v rfl
    simp at e1
    subst e1; subst e2
    exact .cons _ _ (intsAre_of (by simpa using hl) fun j u hu => by simpa using h (j + 1) u (by simpa using hu))
  | [], _ :: _, hl, _ => by simp at hl
  | _ :: _, [], hl, _ => by simp at hl
theorem intsAre_get {vs : List Value} {ks : List Int} (h : IntsAre vs ks) : ∀ {i : Nat}, i < ks.length → ∃ t, vs.getD i .none = .int (ks.getD i 0) t := by
  induction h with
  | nil => intro i hi; simp at hi
  | cons n t r ih =>
    intro i hi
    cases i with
    | zero => exact ⟨t, rfl⟩
    | succ i =>
      obtain ⟨u, e⟩ := ih (i := i) (by simpa using hi)
      exact ⟨u, by simpa using e⟩
theorem on_sorted_idict {ks : List Int} {ds : List D} (hl : ks.length < 64) : OpN W n X T (fun vs => call (.builtin "sorted") vs) [.idict ks ds] (.lst ((srtI ks).map .int)) := fun A s vs Q E r _ xt _ q h => by
  cases q using Reps.consC with
  | cons a r' =>
    cases r' using Reps.nilC
    cases a using Rep.idictC with
    | @idict d us na lo hm hl1 rs =>
      obtain ⟨ep, hat⟩ := hm.dictAt
      have hsz : (ks.zip us).length = ks.length := by simp; omega
      refine wp_sorted (n := ks.length) (VP := fun vs => IntsAre vs ks) (R := fun i j => decide (ks.getD i 0 < ks.getD j 0)) (κ := oneType') hl (weak_of tot_int fun i => ks.getD i 0) (fun vs hi => hi.length) (fun Q hq => kdu_collect (kdl_dict (knd := W.ik) (kvs := ks.zip us) (ep := ep) lo) r.1 hat (by rw [hsz, sizeLine_eq]; omega) fun h' tk acc k hacc => hq acc.toList h' tk ?_ k) ?_ ?_ ?_
      · refine intsAre_of (by rw [Array.length_toList, hacc.1]; exact hsz) fun j v hv => ?_
        obtain ⟨k, x, e1, e2⟩ := hacc.2 j v (by rw [← Array.getElem?_toList]; exact hv)
        have e2' : Value.isInt k v = true := e2
        unfold Value.isInt at e2'
        cases v <;> simp at e2'
        subst e2'
        refine ⟨_, _, ?_, rfl⟩
        have := congrArg (Option.map Prod.fst) e1
        rw [← List.getElem?_map, List.map_fst_zip (by omega)] at this
        simpa using this
      · intro vs hi h2 s' Q E k q
        match vs, h2, hi with
        | v1 :: v2 :: rest, _, hi =>
          rw [keyKind_ints hi]
          exact wpAny_pure q
      · intro vs hi i j s' C E hi1 hj1 k q
        obtain ⟨t, e1⟩ := intsAre_get hi hi1
        obtain ⟨u, e2⟩ := intsAre_get hi hj1
        rw [e1, e2, keyLt'_oneType]
        exact oneLt_int q
      · intro vs hi p h' tk a hp hs k ha hlst
        have e : _ = srtI ks := places_srt tot_int (z := 0) hp hs
        refine h (.ref a) h' tk k (.lst (fun x => by obtain ⟨o, e⟩ := xt a x; rw [ha] at e; cases e) hlst ?_)
        rw [← e]
        have key : ∀ l : List Nat, (∀ i ∈ l, i < ks.length) → Reps W X h' (l.map fun i => vs.getD i .none) ((l.map fun i => ks.getD i 0).map .int) := by
          intro l
          induction l with
          | nil => intro _; exact .nil
          | cons i l ih =>
            intro hl
            obtain ⟨t, e⟩ := intsAre_get hi (hl i List.mem_cons_self)
            simp only [List.map_cons]
            rw [e]
            exact .cons (.int _ _) (ih fun j hj => hl j (List.mem_cons_of_mem _ hj))
        exact key p.toList (perm_lt hp)

-- displays of dicts
theorem ev_dict0 {pos : Pos} : Ev W n env X Z T ρ (.Dict [] [] pos) (.idict [] []) T := .mk fun A s Q E r L h =>
  wpAny_Dict_empty (h _ _ s.toks (.of_keeps (keeps_push _ _)) (T.st _ _ (keeps_push _ _) L.own) (.idict L.new (lo_new L.base) (Heap.DictOf.new _) rfl .nil))
theorem look_push {s : Shared} {o : Obj} (ho : o.isFreed = false) (L : Look W env X Z T ρ s.heap) : Look W env (fun b => X b ∨ b = s.heap.objs.size) Z T ρ (s.heap.push o) :=
  have k := keeps_push s.heap o
  have n0 := size_none s.heap
  { L.grown k with
    vars := fun x d e => let ⟨v, t, r⟩ := L.vars x d e; ⟨v, t.up (Z := fun _ => False) (.of_keeps k) id (fun _ _ _ => id), (r.weak fun b q ⟨o, e⟩ => q.elim id fun q => by rw [q, n0] at e; cases e).up fun b o _ e => k b o e⟩
    own := T.st _ _ k L.own
    zx := fun b z => .inl (L.zx b z)
    xb := fun b q => q.elim (L.xb b) fun q => by
      cases e : W.base.get? b with
      | none => rfl
      | some o => have := L.base b o e; rw [q, n0] at this; cases this
    xt := fun b q => q.elim (fun x => let ⟨o, e⟩ := L.xt b x; ⟨o, k b o e⟩) fun q => ⟨o, q ▸ Heap.get?_push_size _ ho⟩ }
theorem ev_tdict1 {k v : Expr} {pos : Pos} {key : List Int} {d : D} (x : ∀ X, Ev W n env X (fun _ => False) T ρ k (.tup (key.map .int)) T) (y : ∀ X, Ev W n env X (fun _ => False) T ρ v d T) : Ev W n env X (fun _ => False) T ρ (.Dict [some k] [v] pos) (.tdict [key] [d]) T := .mk fun A s Q E r L h => by
  refine wpAny_Dict_any rfl rfl (by simp) (by simp) (evalPairs_cons ((x _).run A _ _ E r (look_push rfl L) fun v1 h1 tk1 a1 t1 q1 => ?_))
  have L1 := (look_push (o := { cls := .type "dict", data := .dict #[] }) rfl L).next a1 t1
  show wpAny W.M A (eval v env >>= fun x => standAt pos >>= fun _ => pure x) _ E _
  refine wpAny_bind ((y _).run A _ _ E r L1 fun v2 h2 tk2 a2 t2 q2 => wpAny_bind (wpAny_standAt (wpAny_pure (evalPairs_nil ?_))))
  have a12 := a1.trans a2
  have nz : ¬ (fun _ : Addr => False) s.heap.objs.size := id
  have hD0 : h2.DictOfH W.tk s.heap.objs.size [] := dictOfH_at (Heap.DictOfH.new s.heap) (fun o e => a12.keep _ o nz e) (by simp)
  obtain ⟨ka, rfl, nk, kk⟩ := tk_is (q1.up (a2.up L1.zx))
  show wpAny W.M A (storeAll s.heap.objs.size [(.ref ka, v2)]) _ E _
  unfold storeAll
  simp only [List.forIn_cons, List.forIn_nil]
  refine wpAny_bind (wpAny_bind (wpAny_dictSet_heap (knd := W.tk) (show A.units < cLine from by have := r.2.2; omega) kk hD0 (fun h3 hD3 sb3 => wpAny_pure (wpAny_pure ?_)) (Nat.zero_le _)))
  have k3 : ∀ b o, b ≠ s.heap.objs.size → h2.get? b = some o → h3.get? b = some o := fun b o n e => (sb3.2 b n).trans e
  have ks : Keeps s.heap (s.heap.push { cls := .type "dict", data := .dict #[] }) := keeps_push _ _
  have old : ∀ b o, s.heap.get? b = some o → b ≠ s.heap.objs.size := fun b o e => Nat.ne_of_lt (Heap.lt_size e)
  have kall : Keeps s.heap h3 := fun b o e => k3 b o (old b o e) (a12.keep b o id (ks b o e))
  refine h _ h3 _ (.of_keeps kall) (T.st _ _ kall L.own) ?_
  · refine .tdict (as := [ka]) (vs := [v2]) L.new (lo_new L.base) (fun b hb x => nk (by simp at hb; exact hb ▸ .inl x)) (by simpa [storedH, atKey] using hD3) rfl rfl (.cons ((q2.up fun b o n e => k3 b o (fun q => n (.inr q)) e).weak fun b x _ => .inl x) .nil)
theorem ev_idict2 {k1 v1 k2 v2 : Expr} {pos : Pos} {i1 i2 : Int} {d1 d2 : D} (hne : i1 ≠ i2) (x1 : ∀ X, Ev W n env X (fun _ => False) T ρ k1 (.int i1) T) (y1 : ∀ X, Ev W n env X (fun _ => False) T ρ v1 d1 T) (x2 : ∀ X, Ev W n env X (fun _ => False) T ρ k2 (.int i2) T) (y2 : ∀ X, Ev W n env X (fun _ => False) T ρ v2 d2 T) :
    Ev W n env X (fun _ => False) T ρ (.Dict [some k1, some k2] [v1, v2] pos) (.idict [i1, i2] [d1, d2]) T := .mk fun A s Q E r L h => by
  refine wpAny_Dict_any rfl rfl (by simp) (by simp) (evalPairs_cons ((x1 _).run A _ _ E r (look_push rfl L) fun u1 h1 tk1 a1 t1 q1 => ?_))
  have L1 := (look_push (o := { cls := .type "dict", data := .dict #[] }) rfl L).next a1 t1
  show wpAny W.M A (eval v1 env >>= fun x => standAt pos >>= fun _ => pure x) _ E _
  refine wpAny_bind ((y1 _).run A _ _ E r L1 fun u2 h2 tk2 a2 t2 q2 => wpAny_bind (wpAny_standAt (wpAny_pure (evalPairs_cons ?_))))
  have L2 := L1.next a2 t2
  refine (x2 _).run A _ _ E r L2 fun u3 h3 tk3 a3 t3 q3 => ?_
  have L3 := L2.next a3 t3
  show wpAny W.M A (eval v2 env >>= fun x => standAt pos >>= fun _ => pure x) _ E _
  refine wpAny_bind ((y2 _).run A _ _ E r L3 fun u4 h4 tk4 a4 t4 q4 => wpAny_bind (wpAny_standAt (wpAny_pure (evalPairs_nil ?_))))
  have aa := a1.trans (a2.trans (a3.trans a4))
  have hD0 : h4.DictOf W.ik s.heap.objs.size [] := dictOf_at (Heap.DictOf.new s.heap) (fun o e => aa.keep _ o id e)
  have q2' := (q2.up (a3.up L2.zx)).up (a4.up L3.zx)
  cases q1 using Rep.intC with
  | int t1 => cases q3 using Rep.intC with
    | int t3 =>
      show wpAny W.M A (storeAll s.heap.objs.size [(.int i1 t1, u2), (.int i2 t3, u4)]) _ E _
      unfold storeAll
      simp only [List.forIn_cons, List.forIn_nil]
      refine wpAny_bind (wpAny_bind (wpAny_dictSet_pairs (ik_is W i1 t1) hD0 (fun h5 hD5 sb5 => wpAny_pure ?_) (hsz := Nat.zero_le _)))
      refine wpAny_bind (wpAny_bind (wpAny_dictSet_pairs (s := { s with heap := h5, toks := _ }) (ik_is W i2 t3) hD5 (fun h6 hD6 sb6 => wpAny_pure (wpAny_pure ?_)) (hsz := by simp [stored]; rw [sizeLine_eq]; omega)))
      have k6 : ∀ b o, b ≠ s.heap.objs.size → h4.get? b = some o → h6.get? b = some o := fun b o n e => (sb6.2 b n).trans ((sb5.2 b n).trans e)
      have ks : Keeps s.heap (s.heap.push { cls := .type "dict", data := .dict #[] }) := keeps_push _ _
      have kall : Keeps s.heap h6 := fun b o e => k6 b o (Nat.ne_of_lt (Heap.lt_size e)) (aa.keep b o id (ks b o e))
      have hst : stored (stored [] i1 u2) i2 u4 = [i1, i2].zip [u2, u4] := by simp [stored, hne]
      rw [hst] at hD6
      refine h _ h6 _ (.of_keeps kall) (T.st _ _ kall L.own) (.idict (vs := [u2, u4]) L.new (lo_new L.base) hD6 rfl ?_)
      have ku : ∀ {v d}, Rep W (fun b => X b ∨ b = s.heap.objs.size) h4 v d → Rep W X h6 v d := fun q => (q.up fun b o n e => k6 b o (fun q => n (.inr q)) e).weak fun b x _ => .inl x
      exact .cons (ku q2') (.cons (ku q4) .nil)
end
end Mine

end
-- part C1
section
open PySem PySem.W PyProof.Rows PySem.Calls PySem.Spec
set_option maxRecDepth 100000
set_option maxHeartbeats 4000000
set_option linter.unusedVariables false
namespace Mine
theorem lenS {α : Type} {vs : List α} {n : Nat} (h : vs.length = n + 1) : ∃ v us, vs = v :: us ∧ us.length = n := by
  cases vs with
  | nil => cases h
  | cons v us => exact ⟨v, us, rfl, Nat.succ.inj h⟩
theorem len1 {α : Type} {vs : List α} (h : vs.length = 1) : ∃ a, vs = [a] := by
  obtain ⟨a, us, rfl, q⟩ := lenS h; exact ⟨a, by rw [List.length_eq_zero_iff.mp q]⟩
theorem len2 {α : Type} {vs : List α} (h : vs.length = 2) : ∃ a b, vs = [a, b] := by
  obtain ⟨a, us, rfl, q⟩ := lenS h; obtain ⟨b, rfl⟩ := len1 q; exact ⟨a, b, rfl⟩
theorem len3 {α : Type} {vs : List α} (h : vs.length = 3) : ∃ a b c, vs = [a, b, c] := by
  obtain ⟨a, us, rfl, q⟩ := lenS h; obtain ⟨b, c, rfl⟩ := len2 q; exact ⟨a, b, c, rfl⟩
theorem len4 {α : Type} {vs : List α} (h : vs.length = 4) : ∃ a b c d, vs = [a, b, c, d] := by
  obtain ⟨a, us, rfl, q⟩ := lenS h; obtain ⟨b, c, d, rfl⟩ := len3 q; exact ⟨a, b, c, d, rfl⟩
theorem len5 {α : Type} {vs : List α} (h : vs.length = 5) : ∃ a b c d e, vs = [a, b, c, d, e] := by
  obtain ⟨a, us, rfl, q⟩ := lenS h; obtain ⟨b, c, d, e, rfl⟩ := len4 q; exact ⟨a, b, c, d, e, rfl⟩
noncomputable def its : List DefItem := List.map itemOf (recsOf Mine.vw)
def fdOf : Stmt → DefItem
  | .FunctionDef name args body _ _ _ scope _ _ pos => ⟨name, args, body, scope, pos⟩
  | _ => ⟨"", ⟨[], [], none, [], [], none, []⟩, [], { kind := .function, names := [], isGenerator := false, isCoroutine := false }, ⟨0,0,0,0⟩⟩
noncomputable def st (i : Nat) : Stmt := (Mine.vw.main.body)[i]?.getD (.Pass ⟨0,0,0,0⟩)
noncomputable def dd (i : Nat) : DefItem := fdOf (st i)
theorem in1 : dd 1 ∈ its := by
  unfold its
  refine List.mem_map.mpr ⟨⟨"mask_of", (dd 1).params, (dd 1).body, (dd 1).scope, (dd 1).pos⟩, ?_, ?_⟩
  · unfold recsOf
    exact List.mem_filterMap.mpr ⟨st 1, List.mem_iff_getElem?.mpr ⟨1, by rfl⟩, by rfl⟩
  · rfl
theorem in2 : dd 2 ∈ its := by
  unfold its
  refine List.mem_map.mpr ⟨⟨"prefix_at", (dd 2).params, (dd 2).body, (dd 2).scope, (dd 2).pos⟩, ?_, ?_⟩
  · unfold recsOf
    exact List.mem_filterMap.mpr ⟨st 2, List.mem_iff_getElem?.mpr ⟨2, by rfl⟩, by rfl⟩
  · rfl
theorem in3 : dd 3 ∈ its := by
  unfold its
  refine List.mem_map.mpr ⟨⟨"looked_up", (dd 3).params, (dd 3).body, (dd 3).scope, (dd 3).pos⟩, ?_, ?_⟩
  · unfold recsOf
    exact List.mem_filterMap.mpr ⟨st 3, List.mem_iff_getElem?.mpr ⟨3, by rfl⟩, by rfl⟩
  · rfl
theorem in8 : dd 8 ∈ its := by
  unfold its
  refine List.mem_map.mpr ⟨⟨"rank_of", (dd 8).params, (dd 8).body, (dd 8).scope, (dd 8).pos⟩, ?_, ?_⟩
  · unfold recsOf
    exact List.mem_filterMap.mpr ⟨st 8, List.mem_iff_getElem?.mpr ⟨8, by rfl⟩, by rfl⟩
  · rfl
theorem in9 : dd 9 ∈ its := by
  unfold its
  refine List.mem_map.mpr ⟨⟨"preferred_way", (dd 9).params, (dd 9).body, (dd 9).scope, (dd 9).pos⟩, ?_, ?_⟩
  · unfold recsOf
    exact List.mem_filterMap.mpr ⟨st 9, List.mem_iff_getElem?.mpr ⟨9, by rfl⟩, by rfl⟩
  · rfl
theorem in10 : dd 10 ∈ its := by
  unfold its
  refine List.mem_map.mpr ⟨⟨"way_out", (dd 10).params, (dd 10).body, (dd 10).scope, (dd 10).pos⟩, ?_, ?_⟩
  · unfold recsOf
    exact List.mem_filterMap.mpr ⟨st 10, List.mem_iff_getElem?.mpr ⟨10, by rfl⟩, by rfl⟩
  · rfl
theorem in11 : dd 11 ∈ its := by
  unfold its
  refine List.mem_map.mpr ⟨⟨"external_worth", (dd 11).params, (dd 11).body, (dd 11).scope, (dd 11).pos⟩, ?_, ?_⟩
  · unfold recsOf
    exact List.mem_filterMap.mpr ⟨st 11, List.mem_iff_getElem?.mpr ⟨11, by rfl⟩, by rfl⟩
  · rfl
theorem in12 : dd 12 ∈ its := by
  unfold its
  refine List.mem_map.mpr ⟨⟨"external_routes", (dd 12).params, (dd 12).body, (dd 12).scope, (dd 12).pos⟩, ?_, ?_⟩
  · unfold recsOf
    exact List.mem_filterMap.mpr ⟨st 12, List.mem_iff_getElem?.mpr ⟨12, by rfl⟩, by rfl⟩
  · rfl
theorem in13 : dd 13 ∈ its := by
  unfold its
  refine List.mem_map.mpr ⟨⟨"route_told", (dd 13).params, (dd 13).body, (dd 13).scope, (dd 13).pos⟩, ?_, ?_⟩
  · unfold recsOf
    exact List.mem_filterMap.mpr ⟨st 13, List.mem_iff_getElem?.mpr ⟨13, by rfl⟩, by rfl⟩
  · rfl
theorem in14 : dd 14 ∈ its := by
  unfold its
  refine List.mem_map.mpr ⟨⟨"ways_out", (dd 14).params, (dd 14).body, (dd 14).scope, (dd 14).pos⟩, ?_, ?_⟩
  · unfold recsOf
    exact List.mem_filterMap.mpr ⟨st 14, List.mem_iff_getElem?.mpr ⟨14, by rfl⟩, by rfl⟩
  · rfl
theorem in15 : dd 15 ∈ its := by
  unfold its
  refine List.mem_map.mpr ⟨⟨"_law_take", (dd 15).params, (dd 15).body, (dd 15).scope, (dd 15).pos⟩, ?_, ?_⟩
  · unfold recsOf
    exact List.mem_filterMap.mpr ⟨st 15, List.mem_iff_getElem?.mpr ⟨15, by rfl⟩, by rfl⟩
  · rfl
theorem in16 : dd 16 ∈ its := by
  unfold its
  refine List.mem_map.mpr ⟨⟨"_law_once", (dd 16).params, (dd 16).body, (dd 16).scope, (dd 16).pos⟩, ?_, ?_⟩
  · unfold recsOf
    exact List.mem_filterMap.mpr ⟨st 16, List.mem_iff_getElem?.mpr ⟨16, by rfl⟩, by rfl⟩
  · rfl
theorem in17 : dd 17 ∈ its := by
  unfold its
  refine List.mem_map.mpr ⟨⟨"law", (dd 17).params, (dd 17).body, (dd 17).scope, (dd 17).pos⟩, ?_, ?_⟩
  · unfold recsOf
    exact List.mem_filterMap.mpr ⟨st 17, List.mem_iff_getElem?.mpr ⟨17, by rfl⟩, by rfl⟩
  · rfl
structure Good (W : Wd) : Prop where
  defs : W.defs = its
  consts : W.consts = constsW Mine.vw
  names : W.names = namesW Mine.vw []

theorem cst_BACKBONE : (constsW Mine.vw).lookup ("BACKBONE" : Str) = some (PyData.int 0) := by rfl
theorem cst_EXTERNAL : (constsW Mine.vw).lookup ("EXTERNAL" : Str) = some (PyData.int 5) := by rfl
theorem cst_LEADS : (constsW Mine.vw).lookup ("LEADS_OUT" : Str) = some (PyData.int 2) := by rfl
theorem cst_AGE : (constsW Mine.vw).lookup ("MAX_AGE" : Str) = some (PyData.int 3600) := by rfl
theorem cst_INF : (constsW Mine.vw).lookup ("LS_INFINITY" : Str) = some (PyData.int 16777215) := by rfl
theorem free_nm : ∀ x ∈ ([("len" : Str), "abs", "range", "enumerate", "sorted", "list", "tuple", "dict", "min"] : List Str), x ∉ namesW Mine.vw [] := by decide +kernel
theorem Good.fr {W : Wd} (g : Good W) (x : Str) (h : x ∈ ([("len" : Str), "abs", "range", "enumerate", "sorted", "list", "tuple", "dict", "min"] : List Str)) : x ∉ W.names := g.names ▸ free_nm x h

section
variable {W : Wd} {n : Nat} {env : Env} {X Z : Addr → Prop} {V : Addr → Prop} {T T' T1 : HP V} {ρ : Env1}
theorem ev_to {e : Expr} {d d' : D} (x : Ev W n env X Z T ρ e d T') (h : d = d') : Ev W n env X Z T ρ e d' T' := h ▸ x
theorem ev_cst (g : Good W) {x : Str} {pos : Pos} {i : Int} (e : (constsW Mine.vw).lookup x = some (.int i)) (hx : env.kindOf x = some .globalImplicit := by rfl) (hd : (x == ("__debug__" : Str)) = false := by decide) :
    Ev W n env X Z T ρ (.Name x pos) (.int i) T := ev_const hx (g.consts ▸ e) hd
end


theorem fn_mask {W : Wd} (g : Good W) {n : Nat} {l b m : Int} (h0 : 0 ≤ l) (h1 : l ≤ b) (h2 : b ≤ 32) (hm : (1 * 2 ^ l.toNat - 1) * 2 ^ (b - l).toNat = m) (h3 : (1 * 2 ^ l.toNat - 1 : Int).natAbs < 2 ^ 64) : Fn W (n + 1) (dd 1).name [.int l, .int b] (.int m) :=
  fn_of (di := dd 1) ["length", "bits"] (g.defs ▸ in1) rfl rfl (fun pm cd doc vs hv => by obtain ⟨v0, v1, rfl⟩ := len2 hv; rfl) (by decide) (by decide) rfl rfl rfl fun L a cd => by
    refine ex_ret (ex1_return fun S => ?_)
    exact ev_to (ev_bin (ev_bin (ev_bin ev_int ev_name (op_shl h0 (by omega) (by decide))) ev_int op_sub) (ev_bin ev_name ev_name op_sub) (op_shl (by omega) (by omega) h3)) (by rw [hm])

theorem fn_prefix {W : Wd} (g : Good W) {n : Nat} {a l b m : Int} (h0 : 0 ≤ l) (h1 : l ≤ b) (h2 : b ≤ 32) (hm : (1 * 2 ^ l.toNat - 1) * 2 ^ (b - l).toNat = m) (h3 : (1 * 2 ^ l.toNat - 1 : Int).natAbs < 2 ^ 64) :
    Fn W (n + 2) (dd 2).name [.int a, .int l, .int b] (.tup ([Builtin.bitAnd a m, l].map .int)) :=
  fn_of (di := dd 2) ["address", "length", "bits"] (g.defs ▸ in2) rfl rfl (fun pm cd doc vs hv => by obtain ⟨v0, v1, v2, rfl⟩ := len3 hv; rfl) (by decide) (by decide) rfl rfl rfl fun L a cd => by
    refine ex_ret (ex1_return fun S => ?_)
    exact ev_tup (evs_cons (ev_bin ev_name (ev_callF (di := dd 1) (g.defs ▸ in1) rfl (evs_cons ev_name (evs_cons ev_name evs_nil)) (fn_mask g h0 h1 h2 hm h3)) op_and) (evs_cons ev_name evs_nil))

theorem fn_rank {W : Wd} (g : Good W) {n : Nat} : Fn W (n + 1) (dd 8).name [.int 1, .bool true] (.int 0) :=
  fn_of (di := dd 8) ["area", "is_intra"] (g.defs ▸ in8) rfl rfl (fun pm cd doc vs hv => by obtain ⟨v0, v1, rfl⟩ := len2 hv; rfl) (by decide) (by decide) rfl rfl rfl fun L a cd => by
    refine ex_ret (ex1_return fun S => ?_)
    exact ev_if_t (tv_and_t (tv_bool ev_name) (tv_and_t (tv_cmp ev_name (ev_cst g cst_BACKBONE) op_ne) tv_and_nil)) ev_int
end Mine

end
-- part C2
section
open PySem PySem.W PyProof.Rows PySem.Calls PySem.Spec
set_option maxRecDepth 100000
set_option maxHeartbeats 4000000
set_option linter.unusedVariables false
namespace Mine

theorem atT_miss {d : D} {x l : Int} (hl : l ≠ 2) : (atT [[16, 2]] [d] [x, l]).getD .none = .none := by
  have : ¬ ([16, 2] : List Int) = [x, l] := fun e => by simp at e; exact hl e.2.symm
  simp [atT, this]
theorem fn_looked {W : Wd} (g : Good W) {n : Nat} {a : Int} {d : D} (ha : Builtin.bitAnd a 24 = 16) (hs : d.some = true) : Fn W (n + 3) (dd 3).name [.tdict [[16, 2]] [d], .int a, .int 5] d :=
  fn_of (di := dd 3) ["table", "address", "bits"] (g.defs ▸ in3) rfl rfl (fun pm cd doc vs hv => by obtain ⟨v0, v1, v2, rfl⟩ := len3 hv; rfl) (by decide) (by decide) rfl rfl rfl fun L aa cd => by
    have fr : ("range" : Str) ∉ W.names := g.fr _ (by decide)
    refine ex_ret (ex1_for (T1 := TT.tt) (ds := runs (5 : Nat) (-1) 6) (fun S => evit_down (m := 5) (evs_cons ev_name (evs_cons (ev_neg ev_int) (evs_cons (ev_neg ev_int) evs_nil))) fr (by decide)) ?_)
    refine .next (.name (.inl rfl)) (ex_cons (ex1_assign (fun S => ev_to (ev_tget (x := [Builtin.bitAnd a 31, 5]) ev_name (evs_cons (ev_callF (di := dd 2) (g.defs ▸ in2) rfl (evs_cons ev_name (evs_cons ev_name (evs_cons ev_name evs_nil))) (fn_prefix (m := 31) g (by decide) (by decide) (by decide) (by decide) (by decide))) evs_nil)) (atT_miss (by decide)))) (ex_cons (ex1_if_f (fun S => tv_cmp ev_name ev_none op_isNotNone) ex_nil) ex_nil)) ?_
    refine .next (.name (.inl rfl)) (ex_cons (ex1_assign (fun S => ev_to (ev_tget (x := [Builtin.bitAnd a 30, 4]) ev_name (evs_cons (ev_callF (di := dd 2) (g.defs ▸ in2) rfl (evs_cons ev_name (evs_cons ev_name (evs_cons ev_name evs_nil))) (fn_prefix (m := 30) g (by decide) (by decide) (by decide) (by decide) (by decide))) evs_nil)) (atT_miss (by decide)))) (ex_cons (ex1_if_f (fun S => tv_cmp ev_name ev_none op_isNotNone) ex_nil) ex_nil)) ?_
    refine .next (.name (.inl rfl)) (ex_cons (ex1_assign (fun S => ev_to (ev_tget (x := [Builtin.bitAnd a 28, 3]) ev_name (evs_cons (ev_callF (di := dd 2) (g.defs ▸ in2) rfl (evs_cons ev_name (evs_cons ev_name (evs_cons ev_name evs_nil))) (fn_prefix (m := 28) g (by decide) (by decide) (by decide) (by decide) (by decide))) evs_nil)) (atT_miss (by decide)))) (ex_cons (ex1_if_f (fun S => tv_cmp ev_name ev_none op_isNotNone) ex_nil) ex_nil)) ?_
    refine .ret (.name (.inl rfl)) (ex_cons (ex1_assign (fun S => ev_to (d' := d) (ev_tget (x := [Builtin.bitAnd a 24, 2]) ev_name (evs_cons (ev_callF (di := dd 2) (g.defs ▸ in2) rfl (evs_cons ev_name (evs_cons ev_name (evs_cons ev_name evs_nil))) (fn_prefix (m := 24) g (by decide) (by decide) (by decide) (by decide) (by decide))) evs_nil)) (by rw [ha]; rfl))) (ex_ret (ex1_if_t (fun S => ?_) (ex_ret (ex1_return fun S => ev_name)))))
    exact tv_cmp ev_name ev_none (hs ▸ op_isNotNone)
end Mine

end
-- part C3
section
open PySem PySem.W PyProof.Rows PySem.Calls PySem.Spec
set_option maxRecDepth 100000
set_option maxHeartbeats 4000000
set_option linter.unusedVariables false
namespace Mine

def FreeOk (env : Env) (scope : Scope) (cl : List (Str × Addr)) (ρ ρ0 : Env1) : Prop :=
  ∀ C x d, ρ0.lookup x = some d → ρ.lookup x = some d ∧ (env.kindOf x = some .cell ∨ env.kindOf x = some .free) ∧ env.cells.lookup x = cl.lookup x ∧ ((compEnvC scope cl C env).kindOf x = some .cell ∨ (compEnvC scope cl C env).kindOf x = some .free)
theorem FreeOk.nil {env : Env} {scope : Scope} {cl : List (Str × Addr)} {ρ : Env1} : FreeOk env scope cl ρ [] := fun _ _ _ e => by cases e
theorem FreeOk.cons {env : Env} {scope : Scope} {cl : List (Str × Addr)} {ρ ρ0 : Env1} {x : Str} {d : D} (h : FreeOk env scope cl ρ ρ0) (h1 : ρ.lookup x = some d) (h2 : env.kindOf x = some .cell ∨ env.kindOf x = some .free) (h3 : env.cells.lookup x = cl.lookup x)
    (h4 : ∀ C, (compEnvC scope cl C env).kindOf x = some .cell ∨ (compEnvC scope cl C env).kindOf x = some .free) : FreeOk env scope cl ρ ((x, d) :: ρ0) := fun C y e hy => by
  by_cases q : y = x
  · subst q
    simp only [List.lookup_cons, beq_self_eq_true] at hy
    cases hy
    exact ⟨h1, h2, h3, h4 C⟩
  · rw [List.lookup_cons, beq_eq_false_iff_ne.mpr q] at hy
    exact h C y e hy
theorem hcl_of {cl : List (Str × Addr)} {ρ0 : Env1} (h : (cl.map (·.1)).all (fun x => (ρ0.lookup x).isSome) = true) : ∀ x c, cl.lookup x = some c → (ρ0.lookup x).isSome = true := fun x c e =>
  List.all_eq_true.mp h x (List.mem_map.mpr ⟨_, PySem.mem_of_lookup e, rfl⟩)

section
variable {W : Wd} {n : Nat} {env : Env} {Z : Addr → Prop} {T T1 T2 : TT (Vof env)} {ρ ρ0 ρ1 : Env1}
theorem xcons {st : Stmt} {rest : List Stmt} {o : Oc} (x : Ex1 W n env Z T ρ st (.next ρ1) T) (y : Ex W n env Z T ρ1 rest o T2) : Ex W n env Z T ρ (st :: rest) o T2 := ex_cons x y
theorem xret {st : Stmt} {rest : List Stmt} {d : D} (x : Ex1 W n env Z T ρ st (.ret d) T1) : Ex W n env Z T ρ (st :: rest) (.ret d) T1 := ex_ret x
theorem xassign {x : Str} {npos pos : Pos} {e : Expr} {d : D} (y : EvS W n env Z T ρ e d T) (hx : env.kindOf x = some .local ∨ env.kindOf x = some .cell := by first | exact .inl rfl | exact .inr rfl)
    (hs : swapsWith e (some (.Name x npos)) pos.line env = pure false := by rfl) : Ex1 W n env Z T ρ (.Assign [.Name x npos] e pos) (.next ((x, d) :: ρ)) T := ex1_assign y hx hs
theorem xreturn {e : Expr} {pos : Pos} {d : D} (y : EvS W n env Z T ρ e d T) : Ex1 W n env Z T ρ (.Return (some e) pos) (.ret d) T := ex1_return y
theorem xif_t {c : Expr} {b1 b2 : List Stmt} {pos : Pos} {o : Oc} (x : TvS W n env Z T ρ c true T) (y : Ex W n env Z T ρ b1 o T2) : Ex1 W n env Z T ρ (.If c b1 b2 pos) o T2 := ex1_if_t x y
theorem xif_f {c : Expr} {b1 b2 : List Stmt} {pos : Pos} {o : Oc} (x : TvS W n env Z T ρ c false T) (y : Ex W n env Z T ρ b2 o T2) : Ex1 W n env Z T ρ (.If c b1 b2 pos) o T2 := ex1_if_f x y
theorem xfor {target iter : Expr} {body : List Stmt} {pos : Pos} {ds : List D} {o : Oc} (it : EvItS W n env Z T ρ target iter ds T) (tn : Turns W n env Z target body T ρ ds o T2) (hs : ∀ x, foldedSetIterable iter env x = pure x := by intro _; rfl) :
    Ex1 W n env Z T ρ (.For target iter body [] pos) o T2 := ex1_for it tn hs
theorem xunpack {es : List Expr} {kk : Nat} {tpos pos : Pos} {e : Expr} {ds : List D} (xs : List Str) (y : EvS W n env Z T ρ e (.tup ds) T)
    (hf : Tgts env es xs) (hl : (assignEach es env).length = ds.length := by rfl) (hl2 : es.length = ds.length := by rfl) (hst : (assignEach es env).findIdx? (·.1) = none := by rfl)
    (hs : swapsWithSole [.Tuple es kk tpos] e pos.line env = pure false := by rfl) (hw : swappedStores [.Tuple es kk tpos] e env = pure none := by rfl) :
    Ex1 W n env Z T ρ (.Assign [.Tuple es kk tpos] e pos) (.next (zipIn xs ds ρ)) T := ex1_unpack xs y hf hl hl2 hst hs hw
theorem xnext {target : Expr} {body : List Stmt} {d : D} {ds : List D} {o : Oc} (b : Binds env target d ρ ρ0) (x : Ex W n env Z T ρ0 body (.next ρ1) T) (y : Turns W n env Z target body T ρ1 ds o T2) : Turns W n env Z target body T ρ (d :: ds) o T2 := .next b x y
end

section
variable {W : Wd} {n : Nat} {cenv : Env} {Z F : Addr → Prop} {U : HP (fun b => ¬ F b)} {ρ0 : Env1} {target elt : Expr} {ifs : List Expr}
def mapPre {α : Type} (dat : List α → α → D) : List α → List α → List D
  | _, [] => []
  | pre, x :: r => dat pre x :: mapPre dat (pre ++ [x]) r
def flatPre {α : Type} (res : List α → α → List D) : List α → List α → List D
  | _, [] => []
  | pre, x :: r => res pre x ++ flatPre res (pre ++ [x]) r
def CStep (W : Wd) (n : Nat) (cenv : Env) (Z F : Addr → Prop) (target : Expr) (ifs : List Expr) (elt : Expr) (ρ0 : Env1) (U : HP (fun b => ¬ F b)) (d : D) (es : List D) : Prop :=
  (∃ e ρ1, es = [e] ∧ BindL cenv target d ρ0 ρ1 ∧ CTest W n cenv Z F ifs ρ1 U true U ∧ ∀ X, Ev W n cenv X Z U ρ1 elt e U) ∨ (∃ ρ1, es = [] ∧ BindL cenv target d ρ0 ρ1 ∧ CTest W n cenv Z F ifs ρ1 U false U)
theorem cturns_go {α : Type} {dat : List α → α → D} {res : List α → α → List D} {xs : List α} (h : ∀ pre x rest, xs = pre ++ x :: rest → CStep W n cenv Z F target ifs elt ρ0 U (dat pre x) (res pre x)) : ∀ rest pre, xs = pre ++ rest →
    CTurns W n cenv Z F target ifs elt ρ0 ρ0 U (mapPre dat pre rest) (flatPre res pre rest) U
  | [], pre, _ => .nil
  | x :: rest, pre, e => by
    have ih := cturns_go h rest (pre ++ [x]) (by rw [e]; simp)
    unfold mapPre flatPre
    rcases h pre x rest e with ⟨e1, ρ1, h1, h2, h3, h4⟩ | ⟨ρ1, h1, h2, h3⟩
    · rw [h1]; exact .keep h2 h3 h4 ih
    · rw [h1]; exact .skip h2 h3 ih
theorem cturns_of {α : Type} (xs : List α) (dat : List α → α → D) (res : List α → α → List D) {ds es : List D} (e1 : mapPre dat [] xs = ds) (e2 : flatPre res [] xs = es) (h : ∀ pre x rest, xs = pre ++ x :: rest → CStep W n cenv Z F target ifs elt ρ0 U (dat pre x) (res pre x)) :
    CTurns W n cenv Z F target ifs elt ρ0 ρ0 U ds es U := e1 ▸ e2 ▸ cturns_go h xs [] rfl
theorem mapPre_map {α : Type} (f : α → D) (xs : List α) : ∀ pre, mapPre (fun _ x => f x) pre xs = xs.map f := by
  induction xs with
  | nil => intro _; rfl
  | cons x xs ih => intro pre; simp [mapPre, ih]
theorem flatPre_map {α : Type} (f : α → D) (xs : List α) : ∀ pre, flatPre (fun _ x => [f x]) pre xs = xs.map f := by
  induction xs with
  | nil => intro _; rfl
  | cons x xs ih => intro pre; simp [flatPre, ih]
end

-- preferred_way of one way
theorem fn_preferred {W : Wd} (g : Good W) {n : Nat} {hops : D} : Fn W (n + 2) (dd 9).name [.lst [.tup [.int 2, hops, .int 1, .bool true]]] (.tup [.int 2, hops, .int 1, .bool true]) :=
  fn_of (di := dd 9) ["ways"] (g.defs ▸ in9) rfl rfl (fun pm cd doc vs hv => by obtain ⟨v0, rfl⟩ := len1 hv; rfl) (by decide) (by decide) rfl rfl rfl fun L aa cd => by
    refine xcons (xassign (fun S => ev_none)) ?_
    refine xcons (xfor (fun S => evit_lst ev_name) (xnext (.name (.inl rfl)) (xcons (xassign (d := .tup [.int 0, .int 2, .int (-1)]) fun S => ?_) (xcons (xif_t (fun S => ?_) (xcons (xassign (fun S => ev_tup (evs_cons ev_name (evs_cons ev_name evs_nil)))) ex_nil)) ex_nil)) .nil)) ?_
    · exact ev_tup (evs_cons (ev_callF (di := dd 8) (g.defs ▸ in8) rfl (evs_cons (ev_sub ev_name ev_int (sb_tup (i := 2))) (evs_cons (ev_sub ev_name ev_int (sb_tup (i := 3))) evs_nil)) (fn_rank g)) (evs_cons (ev_sub ev_name ev_int (sb_tup (i := 0))) (evs_cons (ev_neg (ev_sub ev_name ev_int (sb_tup (i := 2)))) evs_nil)))
    · exact tv_or_t (tv_cmp ev_name ev_none op_isNone)
    · exact xret (xreturn fun S => ev_if_f (tv_cmp ev_name ev_none op_isNone) (ev_sub ev_name ev_int (sb_tup (i := 1))))

-- external_worth
def worthOf (far : Bool) (m : Int) : List Int := if far then [1, m, 0, 2] else [0, 0, 0, 2 + m]
theorem fn_worth {W : Wd} (g : Good W) {n : Nat} {far : Bool} {m : Int} {a b c e hops : D} : Fn W (n + 1) (dd 11).name [.tup [a, b, .bool far, .int m, c, e], .tup [.int 2, hops, .int 0]] (.tup ((worthOf far m).map .int)) :=
  fn_of (di := dd 11) ["body", "way"] (g.defs ▸ in11) rfl rfl (fun pm cd doc vs hv => by obtain ⟨v0, v1, rfl⟩ := len2 hv; rfl) (by decide) (by decide) rfl rfl rfl fun L aa cd => by
    cases far with
    | true =>
      exact xret (xif_t (fun S => tv_bool (ev_sub ev_name ev_int (sb_tup (i := 2)))) (xret (xreturn fun S => ev_tup (hl := by simp [worthOf]) (evs_cons ev_int (evs_cons (ev_sub ev_name ev_int (sb_tup (i := 3))) (evs_cons (ev_sub ev_name ev_int (sb_tup (i := 2))) (evs_cons (ev_sub ev_name ev_int (sb_tup (i := 0))) evs_nil)))))))
    | false =>
      exact xcons (xif_f (fun S => tv_bool (ev_sub ev_name ev_int (sb_tup (i := 2)))) ex_nil) (xret (xreturn fun S => ev_tup (hl := by simp [worthOf]) (evs_cons ev_int (evs_cons ev_int (evs_cons (ev_sub ev_name ev_int (sb_tup (i := 2))) (evs_cons (ev_bin (ev_sub ev_name ev_int (sb_tup (i := 0))) (ev_sub ev_name ev_int (sb_tup (i := 3))) op_add) evs_nil))))))

-- route_told
def toldOf (net : Int) (worth : List Int) (hops : List (List Int)) : D :=
  if worth.getD 0 0 = 1 then .tup [.tup ([net, 2].map .int), .str "ext2", .int (worth.getD 3 0), .int (worth.getD 1 0), .int 0, .tup (tups (srt hops))]
  else .tup [.tup ([net, 2].map .int), .str "ext1", .int (worth.getD 3 0), .int 0, .int 0, .tup (tups (srt hops))]
theorem fn_told {W : Wd} (g : Good W) {n : Nat} {net w0 w1 w2 w3 : Int} {hops : List (List Int)} (h2 : ∀ xs ∈ hops, xs.length = 2) (hl : hops.length < 64) :
    Fn W (n + 1) (dd 13).name [.tup ([net, 2].map .int), .tup [.tup ([w0, w1, w2, w3].map .int), .lst (tups hops)]] (toldOf net [w0, w1, w2, w3] hops) :=
  fn_of (di := dd 13) ["prefix", "found"] (g.defs ▸ in13) rfl rfl (fun pm cd doc vs hv => by obtain ⟨v0, v1, rfl⟩ := len2 hv; rfl) (by decide) (by decide) rfl rfl rfl fun L aa cd => by
    have hs : (srt hops).length ≤ 1000 := by rw [(srt_perm (lt := lexLt) hops).length_eq]; omega
    have hs' : (tups (srt hops)).length ≤ 1000 := by simpa using hs
    refine xcons (xunpack ["place", "hops"] (fun S => ev_name) (.cons rfl (.inl rfl) (.cons rfl (.inl rfl) .nil))) ?_
    unfold toldOf
    by_cases e : w0 = 1
    · simp only [List.getD_cons_zero, e, if_true]
      refine xret (xif_t (fun S => ?_) (xret (xreturn fun S => ?_)))
      · exact tv_cmp (ev_sub ev_name ev_int (sb_tup (i := 0))) ev_int (op_eq (a := 1) (b := 1))
      · exact ev_tup (evs_cons ev_name (evs_cons ev_str (evs_cons (ev_sub ev_name ev_int (sb_tup (i := 3))) (evs_cons (ev_sub ev_name ev_int (sb_tup (i := 1))) (evs_cons (ev_cst g cst_BACKBONE) (evs_cons (ev_callT (evs_cons (ev_callB (evs_cons ev_name evs_nil) (on_sorted_lst h2 hl) (g.fr _ (by decide)) rfl) evs_nil) (on_tuple_lst hs') (g.fr _ (by decide)) rfl) evs_nil))))))
    · simp only [List.getD_cons_zero, e, if_false]
      refine xcons (xif_f (fun S => ?_) ex_nil) (xret (xreturn fun S => ?_))
      · have : (w0 == 1) = false := by simpa using e
        exact tv_cmp (ev_sub ev_name ev_int (sb_tup (i := 0))) ev_int (this ▸ op_eq (a := w0) (b := 1))
      · exact ev_tup (evs_cons ev_name (evs_cons ev_str (evs_cons (ev_sub ev_name ev_int (sb_tup (i := 3))) (evs_cons ev_int (evs_cons (ev_cst g cst_BACKBONE) (evs_cons (ev_callT (evs_cons (ev_callB (evs_cons ev_name evs_nil) (on_sorted_lst h2 hl) (g.fr _ (by decide)) rfl) evs_nil) (on_tuple_lst hs') (g.fr _ (by decide)) rfl) evs_nil))))))
end Mine

end
-- part C4
section
open PySem PySem.W PyProof.Rows PySem.Calls PySem.Spec
set_option maxRecDepth 100000
set_option maxHeartbeats 4000000
set_option linter.unusedVariables false
namespace Mine

/-- the first of each in a sorted list -/
def firstsGo (pre : List (List Int)) : List (List Int) → List (List Int)
  | [] => []
  | x :: rest => if x ∈ pre then firstsGo (pre ++ [x]) rest else x :: firstsGo (pre ++ [x]) rest
def firsts (xs : List (List Int)) : List (List Int) := firstsGo [] xs
theorem firstsGo_len (pre rest : List (List Int)) : (firstsGo pre rest).length ≤ rest.length := by
  induction rest generalizing pre with
  | nil => simp [firstsGo]
  | cons x rest ih =>
    unfold firstsGo
    split
    · have := ih (pre ++ [x]); simp; omega
    · have := ih (pre ++ [x]); simp; omega

theorem enums_pre (rest : List (List Int)) : ∀ pre : List (List Int), mapPre (fun pre x => D.tup [.int (pre.length : Nat), .tup (x.map .int)]) pre rest = enums pre.length (tups rest) := by
  induction rest with
  | nil => intro _; rfl
  | cons x rest ih => intro pre; simp only [mapPre, List.map_cons, enums]; rw [ih]; simp
theorem firsts_pre (rest : List (List Int)) : ∀ pre : List (List Int), flatPre (fun pre x => if x ∈ pre then [] else [D.tup (x.map .int)]) pre rest = tups (firstsGo pre rest) := by
  induction rest with
  | nil => intro _; rfl
  | cons x rest ih =>
    intro pre
    simp only [flatPre, firstsGo]
    rw [ih]
    by_cases hx : x ∈ pre
    · simp [hx]
    · simp [hx]

theorem fn_once {W : Wd} (g : Good W) {n : Nat} {hops : List (List Int)} (h2 : ∀ xs ∈ hops, xs.length = 2) (hl : hops.length < 64) :
    Fn W (n + 1) (dd 16).name [.lst (tups hops)] (.tup (tups (firsts (srt hops)))) :=
  fn_of (di := dd 16) ["hops"] (g.defs ▸ in16) rfl rfl (fun pm cd doc vs hv => by obtain ⟨v0, rfl⟩ := len1 hv; rfl) (by decide) (by decide) rfl rfl rfl fun L aa cd => by
    have hs : (srt hops).length < 64 := by rw [(srt_perm (lt := lexLt) hops).length_eq]; exact hl
    have hs2 : (firsts (srt hops)).length < 64 := Nat.lt_of_le_of_lt (firstsGo_len _ _) hs
    refine xcons (xassign (fun S => ev_callB (evs_cons ev_name evs_nil) (on_sorted_lst h2 hl) (g.fr _ (by decide)) rfl)) ?_
    refine xret (xreturn fun S => ev_callT (evs_cons ?_ evs_nil) (on_tuple_lst (by simp; omega)) (g.fr _ (by decide)) rfl)
    refine ev_compP (ρ0 := [("some", .lst (tups (srt hops)))]) (es := tups (firsts (srt hops))) (evit_enum (evs_cons ev_name evs_nil) (g.fr _ (by decide))) (cl := [("some", L + 1)]) (by rfl) (FreeOk.cons FreeOk.nil rfl (.inl rfl) rfl fun C => .inl rfl) (hcl_of rfl) fun C => cloop_one ?_ (by simp; omega)
    refine cturns_of (srt hops) (fun pre x => .tup [.int (pre.length : Nat), .tup (x.map .int)]) (fun pre x => if x ∈ pre then [] else [.tup (x.map .int)]) (enums_pre (srt hops) []) (firsts_pre (srt hops) []) fun pre x rest e => ?_
    have tk : (tups (srt hops)).take pre.length = tups pre := by rw [← List.map_take, e]; simp
    by_cases hx : x ∈ pre
    · have hd : (!decide (x ∈ pre)) = false := by simp [hx]
      exact .inr ⟨_, by simp [hx], .tup (xs := ["at", "hop"]) (.cons rfl rfl (.cons rfl rfl .nil)) rfl rfl rfl, .one fun X => tv_cmp ev_name (ev_to (ev_sub ev_name (ev_slc ev_name) (sb_lstTo (by simp; omega))) (by rw [tk])) (hd ▸ op_notInT)⟩
    · have hd : (!decide (x ∈ pre)) = true := by simp [hx]
      exact .inl ⟨_, _, by simp [hx]; rfl, .tup (xs := ["at", "hop"]) (.cons rfl rfl (.cons rfl rfl .nil)) rfl rfl rfl, .one fun X => tv_cmp ev_name (ev_to (ev_sub ev_name (ev_slc ev_name) (sb_lstTo (by simp; omega))) (by rw [tk])) (hd ▸ op_notInT), fun X => ev_name⟩

/-- the hops of a row with a forward address -/
def fwdMap (f : Int) (hops : List (List Int)) : List (List Int) := hops.map fun x => [x.getD 0 0, if x.getD 1 0 = 0 then f else x.getD 1 0]
def wayHops (f : Int) (hops : List (List Int)) : List (List Int) := srt ((fwdMap f hops).foldl setK [])
abbrev routeOf (hops : List (List Int)) : D := .tup [.tup ([16, 2].map .int), .str "intra", .int 2, .int 0, .int 1, .tup (tups hops)]
abbrev bodyOf (far : Bool) (m f : Int) : D := .tup [.str "external", .int 2, .bool far, .int m, .int f, .int 0]
theorem setK_len (ks : List (List Int)) (k : List Int) : (setK ks k).length ≤ ks.length + 1 := by unfold setK; split <;> simp
theorem foldK_len (l : List (List Int)) : ∀ ks, (l.foldl setK ks).length ≤ ks.length + l.length := by
  induction l with
  | nil => intro ks; simp
  | cons k l ih => intro ks; have := ih (setK ks k); have := setK_len ks k; simp; omega
theorem foldK_mem {l : List (List Int)} : ∀ {ks : List (List Int)} {x : List Int}, x ∈ l.foldl setK ks ↔ x ∈ ks ∨ x ∈ l := by
  induction l with
  | nil => intro ks x; simp
  | cons k l ih =>
    intro ks x
    rw [List.foldl_cons, ih]
    unfold setK
    split
    · rename_i hk
      simp only [List.mem_cons]
      constructor
      · rintro (h | h)
        · exact .inl h
        · exact .inr (.inr h)
      · rintro (h | rfl | h)
        · exact .inl h
        · exact .inl hk
        · exact .inr h
    · simp only [List.mem_append, List.mem_cons, List.not_mem_nil, or_false, or_assoc]

theorem fn_out0 {W : Wd} (g : Good W) {n : Nat} {far : Bool} {m : Int} {hops : D} {t b : D} : Fn W (n + 4) (dd 10).name [bodyOf far m 0, .lst [.tup [.int 2, hops, .int 1, .bool true]], t, b] (.tup [.int 2, hops, .int 0]) :=
  fn_of (di := dd 10) ["body", "ways", "table", "bits"] (g.defs ▸ in10) rfl rfl (fun pm cd doc vs hv => by obtain ⟨v0, v1, v2, v3, rfl⟩ := len4 hv; rfl) (by decide) (by decide) rfl rfl rfl fun L aa cd => by
    refine xcons (xunpack ["kind", "length", "is_type2", "metric", "forward", "tag"] (fun S => ev_sub ev_name (ev_slc ev_int) (sb_tupTo (b := 6) (by simp))) (.cons rfl (.inl rfl) (.cons rfl (.inl rfl) (.cons rfl (.inl rfl) (.cons rfl (.inl rfl) (.cons rfl (.inr rfl) (.cons rfl (.inl rfl) .nil))))))) ?_
    refine xret (xif_t (fun S => tv_cmp ev_name ev_int op_eq) ?_)
    refine xcons (xassign (fun S => ev_callF (di := dd 9) (g.defs ▸ in9) rfl (evs_cons ev_name evs_nil) (fn_preferred g))) ?_
    exact xret (xreturn fun S => ev_if_f (tv_cmp ev_name ev_none op_isNone) (ev_tup (evs_cons (ev_sub ev_name ev_int (sb_tup (i := 0))) (evs_cons (ev_sub ev_name ev_int (sb_tup (i := 1))) (evs_cons (ev_callF (di := dd 8) (g.defs ▸ in8) rfl (evs_cons (ev_sub ev_name ev_int (sb_tup (i := 2))) (evs_cons (ev_sub ev_name ev_int (sb_tup (i := 3))) evs_nil)) (fn_rank g)) evs_nil)))))

theorem fn_outF {W : Wd} (g : Good W) {n : Nat} {far : Bool} {m f : Int} {hops : List (List Int)} {ways : D} (hf : f ≠ 0) (ha : Builtin.bitAnd f 24 = 16) (h2 : ∀ xs ∈ hops, xs.length = 2) (hl : hops.length < 64) (h0 : hops ≠ []) :
    Fn W (n + 4) (dd 10).name [bodyOf far m f, ways, .tdict [[16, 2]] [routeOf hops], .int 5] (.tup [.int 2, .tup (tups (wayHops f hops)), .int 0]) :=
  fn_of (di := dd 10) ["body", "ways", "table", "bits"] (g.defs ▸ in10) rfl rfl (fun pm cd doc vs hv => by obtain ⟨v0, v1, v2, v3, rfl⟩ := len4 hv; rfl) (by decide) (by decide) rfl rfl rfl fun L aa cd => by
    have hfw : (fwdMap f hops).length = hops.length := by simp [fwdMap]
    have hk : ((fwdMap f hops).foldl setK []).length < 64 := by have := foldK_len (fwdMap f hops) []; simp at this; omega
    have hk2 : ∀ xs ∈ (fwdMap f hops).foldl setK [], xs.length = 2 := fun xs hx => by
      rcases foldK_mem.mp hx with hx | hx
      · simp at hx
      · unfold fwdMap at hx; obtain ⟨y, _, rfl⟩ := List.mem_map.mp hx; rfl
    have hw : (tups (wayHops f hops)).length ≤ 1000 := by
      have : (wayHops f hops).length = ((fwdMap f hops).foldl setK []).length := (srt_perm (lt := lexLt) _).length_eq
      simp; omega
    refine xcons (xunpack ["kind", "length", "is_type2", "metric", "forward", "tag"] (fun S => ev_sub ev_name (ev_slc ev_int) (sb_tupTo (b := 6) (by simp))) (.cons rfl (.inl rfl) (.cons rfl (.inl rfl) (.cons rfl (.inl rfl) (.cons rfl (.inl rfl) (.cons rfl (.inr rfl) (.cons rfl (.inl rfl) .nil))))))) ?_
    have hf' : (f == 0) = false := by simpa using hf
    refine xcons (xif_f (fun S => tv_cmp ev_name ev_int (hf' ▸ op_eq)) ex_nil) ?_
    refine xcons (xassign (fun S => ev_callF (di := dd 3) (g.defs ▸ in3) rfl (evs_cons ev_name (evs_cons ev_name (evs_cons ev_name evs_nil))) (fn_looked g ha rfl))) ?_
    have hne : (((tups hops).length : Int) == 0) = false := by
      cases hops with
      | nil => exact absurd rfl h0
      | cons _ _ => simp; omega
    refine xcons (xif_f (fun S => tv_or_f (tv_cmp ev_name ev_none op_isNone) (tv_or_f (tv_cmp (ev_sub ev_name ev_int (sb_tup (i := 1))) (ev_tup (evs_cons ev_str (evs_cons ev_str evs_nil))) (op_notInS (x := "intra") (ys := ["intra", "inter"]))) (tv_or_f (tv_cmp (ev_callB (evs_cons (ev_sub ev_name ev_int (sb_tup (i := 5))) evs_nil) (on_len_tup (by simp; omega)) (g.fr _ (by decide)) rfl) ev_int (hne ▸ op_eq)) tv_or_nil))) ex_nil) ?_
    refine xcons (xassign (d := .tdict ((fwdMap f hops).foldl setK []) (((fwdMap f hops).foldl setK []).map fun _ => .bool true)) (fun S => ev_callT (ds := [.lst ((fwdMap f hops).map dpair)]) (evs_cons ?_ evs_nil) (on_dict (by omega)) (g.fr _ (by decide)) rfl)) ?_
    · refine ev_compP (ρ0 := [("forward", .int f)]) (ds := tups hops) (es := (fwdMap f hops).map dpair) (evit_tup (ev_sub ev_name ev_int (sb_tup (i := 5)))) (cl := [("forward", L + 1)]) (by rfl) (FreeOk.cons FreeOk.nil rfl (.inl rfl) rfl fun C => .inl rfl) (hcl_of rfl) fun C => cloop_one ?_ (by simp; omega)
      refine cturns_of hops (fun _ x => .tup (x.map .int)) (fun _ x => [dpair [x.getD 0 0, if x.getD 1 0 = 0 then f else x.getD 1 0]]) (mapPre_map _ hops []) ((flatPre_map (fun x => dpair [x.getD 0 0, if x.getD 1 0 = 0 then f else x.getD 1 0]) hops []).trans (by unfold fwdMap; rw [List.map_map]; rfl)) fun pre x rest e => ?_
      have hx := h2 x (by rw [e]; simp)
      match x, hx with
      | [a, b], _ =>
        by_cases hb : b = 0
        · have hb' : (b == 0) = true := by simpa using hb
          exact .inl ⟨_, _, rfl, .tup (xs := ["number", "address"]) (.cons rfl rfl (.cons rfl rfl .nil)) rfl rfl rfl, .none, fun X => ev_to (ev_tup (evs_cons (ev_tup (evs_cons ev_name (evs_cons (ev_if_t (tv_cmp ev_name ev_int (hb' ▸ op_eq)) ev_name) evs_nil))) (evs_cons ev_bool evs_nil))) (by simp [hb])⟩
        · have hb' : (b == 0) = false := by simpa using hb
          exact .inl ⟨_, _, rfl, .tup (xs := ["number", "address"]) (.cons rfl rfl (.cons rfl rfl .nil)) rfl rfl rfl, .none, fun X => ev_to (ev_tup (evs_cons (ev_tup (evs_cons ev_name (evs_cons (ev_if_f (tv_cmp ev_name ev_int (hb' ▸ op_eq)) ev_name) evs_nil))) (evs_cons ev_bool evs_nil))) (by simp [hb])⟩
    · refine xret (xreturn fun S => ev_tup (evs_cons (ev_sub ev_name ev_int (sb_tup (i := 2))) (evs_cons (ev_callT (evs_cons (ev_callB (evs_cons ev_name evs_nil) (on_sorted_tdict hk2 hk) (g.fr _ (by decide)) rfl) evs_nil) (on_tuple_lst hw) (g.fr _ (by decide)) rfl) (evs_cons (ev_callF (di := dd 8) (g.defs ▸ in8) rfl (evs_cons (ev_sub ev_name ev_int (sb_tup (i := 4))) (evs_cons ?_ evs_nil)) (fn_rank g)) evs_nil))))
      exact ev_to (ev_cmp (ev_sub ev_name ev_int (sb_tup (i := 1))) ev_str op_eqs) rfl
end Mine

end
-- part C5
section
open PySem PySem.W PyProof.Rows PySem.Calls PySem.Spec
set_option maxRecDepth 100000
set_option maxHeartbeats 4000000
set_option linter.unusedVariables false
namespace Mine

abbrev Ent := List Int × List (List Int)
abbrev entD (e : Ent) : D := .tup [.tup (e.1.map .int), .lst (tups e.2)]
def atP {α : Type} : List (List Int) → List α → List Int → Option α
  | k :: ks, d :: ds, x => if k = x then some d else atP ks ds x
  | _, _, _ => none
theorem atT_map {α : Type} (f : α → D) : ∀ (ks : List (List Int)) (es : List α) (x : List Int), atT ks (es.map f) x = (atP ks es x).map f
  | [], [], _ => rfl
  | [], _ :: _, _ => rfl
  | _ :: _, [], _ => rfl
  | k :: ks, e :: es, x => by
    simp only [List.map_cons, atT, atP]
    split
    · rfl
    · exact atT_map f ks es x
theorem repL_map {α : Type} (f : α → D) (key : List Int) (v : α) : ∀ (ks : List (List Int)) (es : List α), repL ks (es.map f) key (f v) = (repL ks es key v).map f
  | [], [] => rfl
  | [], _ :: _ => rfl
  | _ :: _, [] => rfl
  | k :: ks, e :: es => by
    simp only [List.map_cons, repL]
    rw [repL_map f key v ks es]
    split <;> rfl
theorem setL_map {α : Type} (f : α → D) (ks : List (List Int)) (es : List α) (key : List Int) (v : α) : setL ks (es.map f) key (f v) = (setL ks es key v).map f := by
  unfold setL
  split
  · exact repL_map f key v ks es
  · simp

theorem flats_ints (xs : List Int) : D.flats (xs.map .int) = true := by
  induction xs with
  | nil => rfl
  | cons x xs ih => simp [D.flats, D.flat, ih]
theorem flats_tups (xs : List (List Int)) : D.flats (tups xs) = true := by
  induction xs with
  | nil => rfl
  | cons x xs ih => simp only [List.map_cons, D.flats, D.flat, flats_ints, Bool.true_and]; exact ih
theorem flat_ent (e : Ent) : (entD e).flat = true := by simp [D.flat, D.flats, flats_ints, flats_tups]

/-- a row of the database -/
structure Row where
  far : Bool
  m : Int
  f : Int
  net : Int
  snd : Int
abbrev rowD (r : Row) : D := .tup [.tup [.int 0, .int 0, .int 5, .int r.net, .int r.snd, .int 1, .int 0], bodyOf r.far r.m r.f]
structure Row.Ok (r : Row) : Prop where
  m : r.m < 100
  f : r.f = 0 ∨ (r.f ≠ 0 ∧ Builtin.bitAnd r.f 24 = 16)
  net : Builtin.bitAnd r.net 24 = r.net
  snd : r.snd = 1 ∨ r.snd = 2
/-- the hops of the way by which a row is left -/
def wayOf (hops : List (List Int)) (r : Row) : List (List Int) := if r.f = 0 then [[r.snd, 17]] else wayHops r.f hops
structure Bst where
  ks : List (List Int)
  es : List Ent
def Bst.put (b : Bst) (key : List Int) (e : Ent) : Bst := ⟨setK b.ks key, setL b.ks b.es key e⟩
def Bst.step (hops : List (List Int)) (b : Bst) (r : Row) : Bst :=
  match atP b.ks b.es [r.net, 2] with
  | none => b.put [r.net, 2] (worthOf r.far r.m, wayOf hops r)
  | some e => if lexLt (worthOf r.far r.m) e.1 then b.put [r.net, 2] (worthOf r.far r.m, wayOf hops r)
    else if worthOf r.far r.m = e.1 then b.put [r.net, 2] (worthOf r.far r.m, e.2 ++ (wayOf hops r).filter fun x => !decide (x ∈ e.2)) else b
structure Bst.Ok (N : Nat) (b : Bst) : Prop where
  len : b.ks.length = b.es.length
  kn : b.ks.length ≤ N
  kf : ∀ k ∈ b.ks, ∃ net, k = [net, 2]
  ew : ∀ e ∈ b.es, (∃ w0 w1 w2 w3, e.1 = [w0, w1, w2, w3]) ∧ (∀ x ∈ e.2, x.length = 2) ∧ e.2.length ≤ 4 * N
theorem atP_mem {α : Type} {x : List Int} {e : α} : ∀ {ks : List (List Int)} {es : List α}, atP ks es x = some e → e ∈ es
  | k :: ks, d :: es, h => by
    unfold atP at h
    split at h
    · cases h; exact List.mem_cons_self
    · exact List.mem_cons_of_mem _ (atP_mem h)
  | [], [], h => by cases h
  | [], _ :: _, h => by cases h
  | _ :: _, [], h => by cases h
theorem repL_mem {α : Type} {key : List Int} {v e : α} : ∀ {ks : List (List Int)} {es : List α}, e ∈ repL ks es key v → e = v ∨ e ∈ es
  | k :: ks, d :: es, h => by
    unfold repL at h
    rcases List.mem_cons.mp h with h | h
    · split at h
      · exact .inl h
      · exact .inr (h ▸ List.mem_cons_self)
    · exact (repL_mem h).imp id (List.mem_cons_of_mem _)
  | [], [], h => by simp [repL] at h
  | [], _ :: _, h => by simp [repL] at h
  | _ :: _, [], h => by simp [repL] at h
theorem worthOf_four (far : Bool) (m : Int) : ∃ w0 w1 w2 w3, worthOf far m = [w0, w1, w2, w3] := by cases far <;> exact ⟨_, _, _, _, rfl⟩
theorem wayOf_ok {hops : List (List Int)} (h2 : ∀ x ∈ hops, x.length = 2) (h4 : hops.length ≤ 4) (r : Row) : (∀ x ∈ wayOf hops r, x.length = 2) ∧ (wayOf hops r).length ≤ 4 := by
  unfold wayOf
  split
  · exact ⟨fun x hx => by simp at hx; subst hx; rfl, by simp⟩
  · unfold wayHops
    refine ⟨fun x hx => ?_, ?_⟩
    · have hx' := (srt_perm (lt := lexLt) _).mem_iff.mp hx
      rcases foldK_mem.mp hx' with hx | hx
      · simp at hx
      · unfold fwdMap at hx; obtain ⟨y, _, rfl⟩ := List.mem_map.mp hx; rfl
    · rw [(srt_perm (lt := lexLt) _).length_eq]
      have := foldK_len (fwdMap r.f hops) []
      have hfl : (fwdMap r.f hops).length = hops.length := by simp [fwdMap]
      rw [hfl] at this
      simp only [List.length_nil, Nat.zero_add] at this
      omega
theorem put_ok {N : Nat} {b : Bst} (ok : b.Ok N) {net : Int} {e : Ent} (hw : ∃ w0 w1 w2 w3, e.1 = [w0, w1, w2, w3]) (h2 : ∀ x ∈ e.2, x.length = 2) (hl : e.2.length ≤ 4 * (N + 1)) : (b.put [net, 2] e).Ok (N + 1) where
  len := by
    unfold Bst.put setK setL
    split
    · simp only; rw [repL_length ok.len]; exact ok.len
    · simp [ok.len]
  kn := by have := setK_len b.ks [net, 2]; have := ok.kn; show (setK b.ks [net, 2]).length ≤ _; omega
  kf := fun k hk => by
    have hk' : k ∈ setK b.ks [net, 2] := hk
    unfold setK at hk'
    split at hk'
    · exact ok.kf k hk'
    · rcases List.mem_append.mp hk' with hk' | hk'
      · exact ok.kf k hk'
      · simp at hk'; exact ⟨net, hk'⟩
  ew := fun x hx => by
    have hx' : x ∈ setL b.ks b.es [net, 2] e := hx
    have old : ∀ x ∈ b.es, (∃ w0 w1 w2 w3, x.1 = [w0, w1, w2, w3]) ∧ (∀ y ∈ x.2, y.length = 2) ∧ x.2.length ≤ 4 * (N + 1) := fun x hx => let ⟨a, b', c⟩ := ok.ew x hx; ⟨a, b', by omega⟩
    unfold setL at hx'
    split at hx'
    · rcases repL_mem hx' with rfl | hx'
      · exact ⟨hw, h2, hl⟩
      · exact old x hx'
    · rcases List.mem_append.mp hx' with hx' | hx'
      · exact old x hx'
      · simp at hx'; subst hx'; exact ⟨hw, h2, hl⟩
theorem step_ok {N : Nat} {hops : List (List Int)} (h2 : ∀ x ∈ hops, x.length = 2) (h4 : hops.length ≤ 4) {b : Bst} (ok : b.Ok N) (r : Row) : (b.step hops r).Ok (N + 1) := by
  obtain ⟨w2, w4⟩ := wayOf_ok h2 h4 r
  unfold Bst.step
  split
  · exact put_ok ok (worthOf_four _ _) w2 (by show (wayOf hops r).length ≤ _; omega)
  · rename_i e he
    obtain ⟨e1, e2, e3⟩ := ok.ew e (atP_mem he)
    split
    · exact put_ok ok (worthOf_four _ _) w2 (by show (wayOf hops r).length ≤ _; omega)
    · split
      · refine put_ok ok (worthOf_four _ _) (fun x hx => ?_) ?_
        · rcases List.mem_append.mp hx with hx | hx
          · exact e2 x hx
          · exact w2 x (List.mem_filter.mp hx).1
        · have := List.length_filter_le (fun x => !decide (x ∈ e.2)) (wayOf hops r)
          simp only [List.length_append]; omega
      · exact ⟨ok.len, by have := ok.kn; omega, ok.kf, fun x hx => let ⟨a, b', c⟩ := ok.ew x hx; ⟨a, b', by omega⟩⟩

theorem ex_own0 {W : Wd} {n : Nat} {env : Env} {Z : Addr → Prop} {ρ : Env1} {ss : List Stmt} {o : Oc} {T2 : TT (Vof env)} (y : Ex W n env Z (own W []) ρ ss o T2) : Ex W n env Z TT.tt ρ ss o T2 := .mk fun A hb Y S s Q E r f k =>
  y.run A hb Y S s Q E r { f with look := { f.look with own := ⟨[], by simp, fun a v => f.mx a (f.vm a v), by simp, by simp⟩ } } k
end Mine

end
-- part C6
section
open PySem PySem.W PyProof.Rows PySem.Calls PySem.Spec
set_option maxRecDepth 100000
set_option maxHeartbeats 8000000
set_option linter.unusedVariables false
namespace Mine

abbrev leadD : D := .idict [1, 2] [.lst [.tup [.int 2, .tup (tups [[1, 17]]), .int 1, .bool true]], .lst [.tup [.int 2, .tup (tups [[2, 17]]), .int 1, .bool true]]]
abbrev tabD (hops : List (List Int)) : D := .tdict [[16, 2]] [routeOf hops]
/-- the way out of a row -/
theorem ev_way {W : Wd} (g : Good W) {n : Nat} {hops : List (List Int)} {r : Row} (ok : r.Ok) (h2 : ∀ x ∈ hops, x.length = 2) (hl : hops.length ≤ 4) (h0 : hops ≠ []) :
    ∃ ways : D, atI [1, 2] [.lst [.tup [.int 2, .tup (tups [[1, 17]]), .int 1, .bool true]], .lst [.tup [.int 2, .tup (tups [[2, 17]]), .int 1, .bool true]]] r.snd = some ways ∧ Fn W (n + 4) (dd 10).name [bodyOf r.far r.m r.f, ways, tabD hops, .int 5] (.tup [.int 2, .tup (tups (wayOf hops r)), .int 0]) := by
  rcases ok.snd with hs | hs
  · refine ⟨_, by rw [hs]; rfl, ?_⟩
    unfold wayOf
    rcases ok.f with hf | ⟨hf, ha⟩
    · rw [if_pos hf, hf, hs]; exact fn_out0 g
    · rw [if_neg hf]; exact fn_outF g hf ha h2 (by omega) h0
  · refine ⟨_, by rw [hs]; rfl, ?_⟩
    unfold wayOf
    rcases ok.f with hf | ⟨hf, ha⟩
    · rw [if_pos hf, hf, hs]; exact fn_out0 g
    · rw [if_neg hf]; exact fn_outF g hf ha h2 (by omega) h0

/-- what external_routes gives -/
def routesD (b : Bst) : List D := (srt b.ks).map fun key => match atP b.ks b.es key with
  | some e => toldOf (key.getD 0 0) e.1 e.2
  | none => .none

theorem turns_fold {W : Wd} {n : Nat} {env : Env} {Z : Addr → Prop} {target : Expr} {body : List Stmt} {ρ : Env1} {α σ : Type} (dat : α → D) (stp : σ → α → σ) (Ts : σ → TT (Vof env)) (I : σ → List α → Prop) (hI : ∀ s x rest, I s (x :: rest) → I (stp s x) rest)
    (h : ∀ s x rest, I s (x :: rest) → ∃ ρ0, Binds env target (dat x) ρ ρ0 ∧ Ex W n env Z (Ts s) ρ0 body (.next ρ) (Ts (stp s x))) : ∀ xs s, I s xs → Turns W n env Z target body (Ts s) ρ (xs.map dat) (.next ρ) (Ts (xs.foldl stp s))
  | [], s, _ => .nil
  | x :: xs, s, hi => by
    obtain ⟨ρ0, b, e⟩ := h s x xs hi
    exact .next b e (turns_fold dat stp Ts I hI h xs (stp s x) (hI s x xs hi))
theorem less_refl (ρ : Env1) : ∀ x d, ρ.lookup x = some d → ρ.lookup x = some d := fun _ _ e => e
theorem less_cons {ρ ρ1 : Env1} {y : Str} {e : D} (hy : ρ.lookup y = none) (h : ∀ x d, ρ.lookup x = some d → ρ1.lookup x = some d) : ∀ x d, ρ.lookup x = some d → List.lookup x ((y, e) :: ρ1) = some d := fun x d hx => by
  have : x ≠ y := fun q => by rw [q, hy] at hx; cases hx
  rw [List.lookup_cons, beq_eq_false_iff_ne.mpr this]
  exact h x d hx
theorem ex_last {W : Wd} {n : Nat} {env : Env} {Z : Addr → Prop} {T T1 : TT (Vof env)} {ρ ρ' : Env1} {st : Stmt} (hr : ∀ x d, ρ'.lookup x = some d → ρ.lookup x = some d) (x : Ex1 W n env Z T ρ st (.next ρ) T1) : Ex W n env Z T ρ [st] (.next ρ') T1 := ex_out hr (ex_cons x ex_nil)
theorem atP_some {α : Type} {x : List Int} : ∀ {ks : List (List Int)} {es : List α}, x ∈ ks → ks.length = es.length → ∃ e, atP ks es x = some e
  | k :: ks, d :: es, hm, hl => by
    unfold atP
    by_cases e : k = x
    · exact ⟨d, by simp [e]⟩
    · obtain ⟨e', h⟩ := atP_some (es := es) (by rcases List.mem_cons.mp hm with h | h; exact absurd h.symm e; exact h) (by simpa using hl)
      exact ⟨e', by simp [e, h]⟩
  | [], _, hm, _ => by simp at hm
  | _ :: _, [], _, hl => by simp at hl

theorem ev_wk {W : Wd} {n : Nat} {env : Env} {X Z : Addr → Prop} {V : Addr → Prop} {T T' : HP V} {ρ : Env1} {e : Expr} {d : D} {S : Sp} (x : Ev W n env X Z T ρ e d T') : Ev W n env X Z T ρ e d ((TT.tt (V := V)).at S) := .mk fun A s Q E r L h => x.run A s Q E r L fun v h1 tk a _ q => h v h1 tk a trivial q
theorem filt_pre (hs : List (List Int)) (xs : List (List Int)) : ∀ pre : List (List Int), flatPre (fun _ x => if x ∈ hs then [] else [D.tup (x.map .int)]) pre xs = tups (xs.filter fun x => !decide (x ∈ hs)) := by
  induction xs with
  | nil => intro _; rfl
  | cons x xs ih =>
    intro pre
    simp only [flatPre, List.filter_cons]
    rw [ih]
    by_cases hx : x ∈ hs <;> simp [hx]
theorem fn_routes {W : Wd} (g : Good W) {n : Nat} {hops : List (List Int)} {rows : List Row} (h2 : ∀ x ∈ hops, x.length = 2) (hl : hops.length ≤ 4) (h0 : hops ≠ []) (hr : ∀ r ∈ rows, r.Ok) (hn : rows.length ≤ 3) :
    Fn W (n + 5) (dd 12).name [.lst (rows.map rowD), .int 9, leadD, tabD hops, .int 5] (.lst (routesD (rows.foldl (Bst.step hops) ⟨[], []⟩))) :=
  fn_of (di := dd 12) ["rows", "own", "leading", "table", "bits"] (g.defs ▸ in12) rfl rfl (fun pm cd doc vs hv => by obtain ⟨v0, v1, v2, v3, v4, rfl⟩ := len5 hv; rfl) (by decide) (by decide) rfl rfl rfl fun L aa cd => by
    refine ex_own0 (ex_newdict (od := .tdict [] []) (.inl rfl) (.inr rfl) (by simp) fun a => ?_)
    refine ex_cons (ex1_for (T1 := own W [(a, .tdict [] [])]) (ds := rows.map rowD) (fun S => evit_lst ev_name) (turns_fold rowD (Bst.step hops) (fun b => own W [(a, .tdict b.ks (b.es.map entD))]) (fun b rest => (∀ r ∈ rest, r.Ok) ∧ ∃ N, b.Ok N ∧ N + rest.length ≤ 3) ?_ ?_ rows ⟨[], []⟩ ⟨hr, 0, ⟨rfl, Nat.le_refl _, by simp, by simp⟩, by omega⟩)) ?_
    · rintro b r rest ⟨h1, N, ok, hN⟩
      exact ⟨fun x hx => h1 x (List.mem_cons_of_mem _ hx), N + 1, step_ok h2 hl ok r, by simp at hN; omega⟩
    · rintro b r rest ⟨h1, N, ok, hN⟩
      have rok := h1 r List.mem_cons_self
      obtain ⟨ways, hways, fnw⟩ := ev_way g (n := n) rok h2 hl h0
      have b9 : (r.snd == 9) = false := by rcases rok.snd with h | h <;> rw [h] <;> rfl
      have bm : decide ((16777215 : Int) ≤ r.m) = false := by have := rok.m; simp; omega
      have bl : (!(atI [1, 2] [.lst [.tup [.int 2, .tup (tups [[1, 17]]), .int 1, .bool true]], .lst [.tup [.int 2, .tup (tups [[2, 17]]), .int 1, .bool true]]] r.snd).isSome) = false := by rw [hways]; rfl
      obtain ⟨wy2, wy4⟩ := wayOf_ok h2 hl r
      refine ⟨_, .tup (xs := ["head", "body"]) (.cons rfl (.inl rfl) (.cons rfl (.inl rfl) .nil)) rfl rfl rfl, ?_⟩
      refine xcons (xunpack ["age", "options", "sort", "ls_id", "adv"] (fun S => ev_sub ev_name (ev_slc ev_int) (sb_tupTo (b := 5) (by simp))) (.cons rfl (.inl rfl) (.cons rfl (.inl rfl) (.cons rfl (.inl rfl) (.cons rfl (.inl rfl) (.cons rfl (.inl rfl) .nil)))))) ?_
      refine xcons (xif_f (fun S => tv_or_f (tv_cmp ev_name (ev_cst g cst_EXTERNAL) op_ne) (tv_or_f (tv_cmp ev_name (ev_cst g cst_AGE) op_ge) (tv_or_f (tv_cmp ev_name ev_name (b9 ▸ op_eq)) (tv_or_f (tv_cmp (ev_sub ev_name ev_int (sb_tup (i := 3))) (ev_cst g cst_INF) (bm ▸ op_ge)) (tv_or_f (tv_cmp ev_name ev_name (bl ▸ op_notInI)) tv_or_nil))))) ex_nil) ?_
      refine xcons (xassign (fun S => ev_callF (di := dd 10) (g.defs ▸ in10) rfl (evs_cons ev_name (evs_cons (ev_sub ev_name ev_name (sb_idict hways)) (evs_cons ev_name (evs_cons ev_name evs_nil)))) fnw)) ?_
      refine xcons (xif_f (fun S => tv_cmp ev_name ev_none op_isNone) ex_nil) ?_
      refine xcons (xunpack ["prefix", "place"] (ds := [.tup ([r.net, 2].map .int), .tup ((worthOf r.far r.m).map .int)]) (fun S => ev_tup (evs_cons (ev_to (ev_callF (di := dd 2) (g.defs ▸ in2) rfl (evs_cons ev_name (evs_cons (ev_sub ev_name ev_int (sb_tup (i := 1))) (evs_cons ev_name evs_nil))) (fn_prefix (m := 24) g (by decide) (by decide) (by decide) (by decide) (by decide))) (by rw [rok.net])) (evs_cons (ev_callF (di := dd 11) (g.defs ▸ in11) rfl (evs_cons ev_name (evs_cons ev_name evs_nil)) (fn_worth g)) evs_nil))) (.cons rfl (.inr rfl) (.cons rfl (.inl rfl) .nil))) ?_
      refine ex_last (less_cons rfl (less_cons rfl (less_cons rfl (less_cons rfl (less_cons rfl (less_cons rfl (less_cons rfl (less_cons rfl (less_cons rfl (less_cons rfl (less_refl _))))))))))) ?_
      have kl : b.ks.length ≤ 1000 := by have := ok.kn; omega
      have wl : (tups (wayOf hops r)).length ≤ 1000 := by simp; omega
      cases he : atP b.ks b.es [r.net, 2] with
      | none =>
        have est : b.step hops r = b.put [r.net, 2] (worthOf r.far r.m, wayOf hops r) := by unfold Bst.step; rw [he]
        have hb : (!(atT b.ks (b.es.map entD) [r.net, 2]).isSome) = true := by rw [atT_map, he]; rfl
        rw [est]
        show Ex1 _ _ _ _ _ _ _ _ (own W [(a, .tdict (setK b.ks [r.net, 2]) ((setL b.ks b.es [r.net, 2] (worthOf r.far r.m, wayOf hops r)).map entD))])
        rw [← setL_map]
        exact ex1_if_t (tv_view (x := "best") (O1 := []) (O2 := []) rfl fun X => tv_or_t (tv_cmp ev_name ev_name (hb ▸ op_notInD))) (ex_cons (ex1_setT (O1 := []) (O2 := []) rfl (ev_view (x := "best") (O1 := []) (O2 := []) rfl (flat_ent (worthOf r.far r.m, wayOf hops r)) fun X => ev_tup (evs_cons ev_name (evs_cons (ev_callT (evs_cons (ev_sub ev_name ev_int (sb_tup (i := 1))) evs_nil) (on_list_tup wl) (g.fr _ (by decide)) rfl) evs_nil))) (fun S => ev_name) kl) ex_nil)
      | some e =>
        obtain ⟨⟨w0, w1, w2, w3, ew⟩, e2, e3⟩ := ok.ew e (atP_mem he)
        have hb : (!(atT b.ks (b.es.map entD) [r.net, 2]).isSome) = false := by rw [atT_map, he]; rfl
        have hd : atT b.ks (b.es.map entD) [r.net, 2] = some (entD e) := by rw [atT_map, he]; rfl
        by_cases hlt : lexLt (worthOf r.far r.m) e.1 = true
        · have est : b.step hops r = b.put [r.net, 2] (worthOf r.far r.m, wayOf hops r) := by unfold Bst.step; rw [he]; simp [hlt]
          rw [est]
          show Ex1 _ _ _ _ _ _ _ _ (own W [(a, .tdict (setK b.ks [r.net, 2]) ((setL b.ks b.es [r.net, 2] (worthOf r.far r.m, wayOf hops r)).map entD))])
          rw [← setL_map]
          exact ex1_if_t (tv_view (x := "best") (O1 := []) (O2 := []) rfl fun X => tv_or_f (tv_cmp ev_name ev_name (hb ▸ op_notInD)) (tv_or_t (tv_cmp ev_name (ev_sub (ev_sub ev_name ev_name (sb_tdict hd)) ev_int (sb_tup (i := 0))) (hlt ▸ op_tlt)))) (ex_cons (ex1_setT (O1 := []) (O2 := []) rfl (ev_view (x := "best") (O1 := []) (O2 := []) rfl (flat_ent (worthOf r.far r.m, wayOf hops r)) fun X => ev_tup (evs_cons ev_name (evs_cons (ev_callT (evs_cons (ev_sub ev_name ev_int (sb_tup (i := 1))) evs_nil) (on_list_tup wl) (g.fr _ (by decide)) rfl) evs_nil))) (fun S => ev_name) kl) ex_nil)
        · have hlf : lexLt (worthOf r.far r.m) e.1 = false := by simpa using hlt
          by_cases heq : worthOf r.far r.m = e.1
          · have est : b.step hops r = b.put [r.net, 2] (worthOf r.far r.m, e.2 ++ (wayOf hops r).filter fun x => !decide (x ∈ e.2)) := by unfold Bst.step; rw [he]; dsimp only; rw [if_neg hlt, if_pos heq]
            have fl : ((wayOf hops r).filter fun x => !decide (x ∈ e.2)).length ≤ 4 := Nat.le_trans (List.length_filter_le _ _) wy4
            rw [est]
            show Ex1 _ _ _ _ _ _ _ _ (own W [(a, .tdict (setK b.ks [r.net, 2]) ((setL b.ks b.es [r.net, 2] (worthOf r.far r.m, e.2 ++ (wayOf hops r).filter fun x => !decide (x ∈ e.2))).map entD))])
            rw [← setL_map]
            refine ex1_if_f (tv_view (x := "best") (O1 := []) (O2 := []) rfl fun X => tv_or_f (tv_cmp ev_name ev_name (hb ▸ op_notInD)) (tv_or_f (tv_cmp ev_name (ev_sub (ev_sub ev_name ev_name (sb_tdict hd)) ev_int (sb_tup (i := 0))) (hlf ▸ op_tlt)) tv_or_nil)) (ex_cons (ex1_if_t (tv_view (x := "best") (O1 := []) (O2 := []) rfl fun X => tv_cmp ev_name (ev_sub (ev_sub ev_name ev_name (sb_tdict hd)) ev_int (sb_tup (i := 0))) (op_teqb (by simp [heq]))) (ex_cons (ex1_setT (O1 := []) (O2 := []) rfl (ev_view (x := "best") (O1 := []) (O2 := []) rfl (flat_ent (worthOf r.far r.m, e.2 ++ (wayOf hops r).filter fun x => !decide (x ∈ e.2))) fun X => ?_) (fun S => ev_name) kl) ex_nil)) ex_nil)
            refine ev_tup (evs_cons ev_name (evs_cons (ev_to (ev_bin (ev_sub (ev_sub ev_name ev_name (sb_tdict hd)) ev_int (sb_tup (i := 1))) (ev_compP (ρ0 := [("best", .tdict b.ks (b.es.map entD)), ("prefix", .tup ([r.net, 2].map .int))]) (ds := tups (wayOf hops r)) (es := tups ((wayOf hops r).filter fun x => !decide (x ∈ e.2))) (evit_tup (ev_sub ev_name ev_int (sb_tup (i := 1)))) (cl := _) (by rfl) (FreeOk.cons (FreeOk.cons FreeOk.nil rfl (.inl rfl) rfl fun C => .inl rfl) rfl (.inl rfl) rfl fun C => .inl rfl) (hcl_of rfl) fun C => cloop_one ?_ (by simp; omega)) (op_cat (by simp; omega))) (by simp)) evs_nil))
            refine cturns_of (wayOf hops r) (fun _ x => .tup (x.map .int)) (fun _ x => if x ∈ e.2 then [] else [.tup (x.map .int)]) (mapPre_map _ _ []) (filt_pre e.2 (wayOf hops r) []) fun pre x rest _ => ?_
            by_cases hx : x ∈ e.2
            · have hd2 : (!decide (x ∈ e.2)) = false := by simp [hx]
              exact .inr ⟨_, by simp [hx], .name rfl, .one fun X => tv_cmp ev_name (ev_sub (ev_sub ev_name ev_name (sb_tdict hd)) ev_int (sb_tup (i := 1))) (hd2 ▸ op_notInT)⟩
            · have hd2 : (!decide (x ∈ e.2)) = true := by simp [hx]
              exact .inl ⟨_, _, by simp [hx]; rfl, .name rfl, .one fun X => tv_cmp ev_name (ev_sub (ev_sub ev_name ev_name (sb_tdict hd)) ev_int (sb_tup (i := 1))) (hd2 ▸ op_notInT), fun X => ev_name⟩
          · have est : b.step hops r = b := by unfold Bst.step; rw [he]; dsimp only; rw [if_neg hlt, if_neg heq]
            rw [est]
            exact ex1_if_f (tv_view (x := "best") (O1 := []) (O2 := []) rfl fun X => tv_or_f (tv_cmp ev_name ev_name (hb ▸ op_notInD)) (tv_or_f (tv_cmp ev_name (ev_sub (ev_sub ev_name ev_name (sb_tdict hd)) ev_int (sb_tup (i := 0))) (hlf ▸ op_tlt)) tv_or_nil)) (ex_cons (ex1_if_f (tv_view (x := "best") (O1 := []) (O2 := []) rfl fun X => tv_cmp ev_name (ev_sub (ev_sub ev_name ev_name (sb_tdict hd)) ev_int (sb_tup (i := 0))) (op_teqb (by simp [heq]))) ex_nil) ex_nil)
    · have fok : ∃ N, N ≤ 3 ∧ (rows.foldl (Bst.step hops) ⟨[], []⟩).Ok N := by
        have : ∀ (rest : List Row) (N : Nat) (b : Bst), b.Ok N → (rest.foldl (Bst.step hops) b).Ok (N + rest.length) := by
          intro rest
          induction rest with
          | nil => intro N b ok; exact ok
          | cons r rest ih => intro N b ok; have := ih (N + 1) _ (step_ok h2 hl ok r); rw [show N + 1 + rest.length = N + (r :: rest).length by simp; omega] at this; exact this
        exact ⟨rows.length, hn, by have := this rows 0 ⟨[], []⟩ ⟨rfl, Nat.le_refl _, by simp, by simp⟩; simpa using this⟩
      obtain ⟨N, hN, ok⟩ := fok
      generalize rows.foldl (Bst.step hops) ⟨[], []⟩ = b at ok ⊢
      refine ex_freeze (O1 := []) (O2 := []) (x := "best") rfl (by simp) (fun _ z => z.elim) ?_
      have kl2 : ∀ k ∈ b.ks, k.length = 2 := fun k hk => by obtain ⟨net, rfl⟩ := ok.kf k hk; rfl
      have kl : b.ks.length < 64 := by have := ok.kn; omega
      refine xret (ex1_return fun S => ev_wk (ev_compP (ρ0 := [("best", .tdict b.ks (b.es.map entD))]) (ds := tups (srt b.ks)) (es := routesD b) (evit_lst (ev_callB (evs_cons ev_name evs_nil) (on_sorted_tdict kl2 kl) (g.fr _ (by decide)) rfl)) (cl := [("best", L + 1)]) (by rfl) (FreeOk.cons FreeOk.nil rfl (.inl rfl) rfl fun C => .inl rfl) (hcl_of rfl) fun C => cloop_one ?_ (by unfold routesD; rw [List.length_map, (srt_perm (lt := lexLt) _).length_eq]; omega)))
      refine cturns_of (srt b.ks) (fun _ x => .tup (x.map .int)) (fun _ key => [match atP b.ks b.es key with | some e => toldOf (key.getD 0 0) e.1 e.2 | none => .none]) (mapPre_map _ _ []) (flatPre_map _ _ []) fun pre x rest e => ?_
      have hx : x ∈ b.ks := (srt_perm (lt := lexLt) b.ks).mem_iff.mp (by show x ∈ srt b.ks; rw [e]; simp)
      obtain ⟨net, rfl⟩ := ok.kf x hx
      obtain ⟨e, he⟩ := atP_some hx ok.len
      obtain ⟨⟨w0, w1, w2, w3, ew⟩, e2, e3⟩ := ok.ew e (atP_mem he)
      have hd : atT b.ks (b.es.map entD) [net, 2] = some (entD e) := by rw [atT_map, he]; rfl
      obtain ⟨ew1, ehops⟩ := e
      simp only at ew e2 e3
      subst ew
      refine .inl ⟨_, _, by rw [he], .name rfl, .none, fun X => ev_callF (di := dd 13) (g.defs ▸ in13) rfl (evs_cons ev_name (evs_cons (ev_sub ev_name ev_name (sb_tdict hd)) evs_nil)) (fn_told g e2 (by show ehops.length < 64; have : ehops.length ≤ 4 * N := e3; omega))⟩
end Mine

end
-- part C7
section
open PySem PySem.W PyProof.Rows PySem.Calls PySem.Spec
set_option maxRecDepth 100000
set_option maxHeartbeats 8000000
set_option linter.unusedVariables false
namespace Mine

-- the draws
/-- the box: a list of the draws' list and the count -/
def BoxAt (B Lr : Addr) (ns : List Int) (j : Nat) (h : Heap) : Prop := ∃ (t : Tok) (vs : List Value), B ≠ Lr ∧ h.PlainList B #[.ref Lr, .int (j : Int) t] ∧ h.PlainList Lr (List.toArray vs) ∧ IntsAre vs ns
def draw (ns : List Int) (j : Nat) (many : Int) : Int :=
  if j + 1 ≤ ns.length then (if ns.getD j 0 < 0 then -ns.getD j 0 else ns.getD j 0).fmod many else (7 * ((j : Int) + 1) + ((j : Int) + 1).fdiv 4).fmod many

theorem setItem_plain {prog : Program} {w : World} {A : Around} {E : Value → Shared → Prop} {s : Shared} {l : Addr} {items : Array Value} {k : Int} {t : Tok} {v : Value} {Q : Unit → Shared → Prop} (hl : s.heap.PlainList l items)
    (h0 : 0 ≤ k) (hfit : k < 2 ^ 63) (hn : k < items.size)
    (hQ : ∀ h', h'.PlainList l (items.setIfInBounds k.toNat v) → Heap.SameBut l s.heap h' → Q () { s with heap := h' }) : wpAny (model prog w) A (setItem (.ref l) (.int k t) v) Q E s := by
  obtain ⟨nn, ho⟩ := id hl
  have hT := hl.isList.typeIs
  unfold setItem
  try with_reducible refine wpAny_holding ?_
  first | refine wpAny_bind (wpAny_pure ?_) | skip
  refine wpAny_bind (wpAny_sequenceKey hT (by decide) ?_)
  refine wpAny_bind (wpAny_callSpecial?_slot (name := Str.ofString "__setitem__") hT slot_list_setitem
    (wpAny_call_entry slot_list_setitem hT entry_list_setitem ?_ (args_list_setitem _ _ _)))
  show wpAny _ _ (Builtin.List.listSubscript? (.int k t) >>= _) _ _ s
  refine wpAny_bind (wpAny_listSubscript_int (fitsIndex_of h0 hfit) ?_)
  clear hfit
  obtain ⟨j, rfl⟩ := Int.eq_ofNat_of_zero_le h0
  have hj : j < items.size := by omega
  have hx' : items[j]? = some items[j] := Array.getElem?_eq_getElem hj
  show wpAny _ _ ((seqItemAt l j >>= fun r => pure (r.map (j, ·))) >>= _) _ _ s
  refine wpAny_bind (wpAny_bind (wpAny_seqItemAt ho rfl (wpAny_pure ?_)))
  rw [hx']
  show wpAny _ _ (setSeqItemAt l j v >>= _) _ _ s
  have hfin : (s.heap.update l (Obj.mapSeq (·.setIfInBounds j v))).PlainList l (items.setIfInBounds j v) := ⟨_, get?_update_seq ho _⟩
  refine wpAny_bind (wpAny_setSeqItemAt ho rfl ?_)
  first
    | exact wpAny_bind (wpAny_pure (wpAny_pure ⟨.none, rfl, wpAny_pure (hQ _ hfin (Heap.SameBut.update ..))⟩))
    | exact wpAny_pure ⟨.none, rfl, wpAny_pure (hQ _ hfin (Heap.SameBut.update ..))⟩

theorem fn_take {W : Wd} (g : Good W) {n : Nat} {A : Around} {s : Shared} {a B Lr : Addr} {ns : List Int} {j : Nat} {many : Int} {mt : Tok} {Q : Value → Shared → Prop} {E : Value → Shared → Prop} (r : Room (n + 1) A) (hmg : W.mg (dd 15).name = some (.ref a)) (hbase : Keeps W.base s.heap)
    (hB : W.base.get? B = none) (hbx : BoxAt B Lr ns j s.heap) (hns : ns.length ≤ 24) (hj : j ≤ 100) (hmany : 0 < many)
    (h : ∀ h' tk t, KeepsBut (· = B) s.heap h' → BoxAt B Lr ns (j + 1) h' → Q (.int (draw ns j many) t) { s with heap := h', toks := tk }) : wpAny W.M A (call (.ref a) [.ref B, .int many mt]) Q E s := by
  obtain ⟨a', c', o, pm, doc, _, _, h1, ho, hdat, hcd⟩ := (W.glob.made (dd 15) (g.defs ▸ in15)).plain rfl
  rw [hmg] at h1
  cases h1
  have G := W.glob.keeps hbase
  refine wpAny_call (call_cells_ret (by have := r.2.1; omega) (hbase _ _ ho) hdat G.nolimit (hcd.keeps hbase) (by rfl : bindArgs (docDef (dd 15).name (dd 15).params (dd 15).body (dd 15).scope pm (Value.ref c') doc) ⟨[Value.ref B, Value.int many mt], []⟩ = pure [(("box" : Str), Value.ref B), (("many" : Str), Value.int many mt)]) ?_ (fun h₁ tk F C => ?_) rfl rfl rfl)
  · intro x hx
    simp at hx
    rcases hx with rfl | rfl
    · exact .inl rfl
    · exact .inl rfl
  · refine wpAny_mono (Q := fun f s' => ∃ h' tk t, f = .ret (.int (draw ns j many) t) ∧ s' = { s with heap := h', toks := tk } ∧ KeepsBut (· = B) s.heap h' ∧ BoxAt B Lr ns (j + 1) h') (E := fun _ _ => False) ?_ (fun f s' q => ?_) (fun _ _ q => q)
    · obtain ⟨t, vs, nBL, lB, lL, hI⟩ := hbx
      have hs0 : s.heap.get? s.heap.objs.size = none := size_none _
      have r' : Room n (A.deeper (envOfC (dd 15).name (dd 15).scope s.heap.objs.size a (.ref c'))) := r.deeper _
      have vge : ∀ b, Vof (envOfC (dd 15).name (dd 15).scope s.heap.objs.size a (.ref c')) b → s.heap.get? b = none := fun b q => Heap.get?_none_of_le (by
        rcases q with rfl | ⟨x, e⟩
        · exact Nat.le_refl _
        · exact Nat.le_of_lt (C.above _ _ (PySem.mem_of_lookup e)))
      have ne : ∀ {b o}, s.heap.get? b = some o → ¬ Vof (envOfC (dd 15).name (dd 15).scope s.heap.objs.size a (.ref c')) b := fun e v => by rw [vge _ v] at e; cases e
      have lB1 := lB.at (h' := h₁) fun o e => F.keep _ _ e
      have lL1 := lL.at (h' := h₁) fun o e => F.keep _ _ e
      have nVB : ¬ Vof (envOfC (dd 15).name (dd 15).scope s.heap.objs.size a (.ref c')) B := let ⟨_, e⟩ := lB; ne e
      have nVL : ¬ Vof (envOfC (dd 15).name (dd 15).scope s.heap.objs.size a (.ref c')) Lr := let ⟨_, e⟩ := lL; ne e
      -- the look at any later heap that keeps the frame, with the box's present value
      have mk : ∀ (h2 : Heap) (i : Int) (ti : Tok), KeepsBut (· = B) h₁ h2 → h2.PlainList B #[.ref Lr, .int i ti] →
          Look W (envOfC (dd 15).name (dd 15).scope s.heap.objs.size a (.ref c')) (Vof (envOfC (dd 15).name (dd 15).scope s.heap.objs.size a (.ref c'))) (fun _ => False) (HP.tt (V := fun _ => False)) [("box", .lst [.lst (ns.map .int), .int i]), ("many", .int many)] h2 := fun h2 i ti k2 l2 => by
        have nBl : B ≠ s.heap.objs.size := fun e => nVB (.inl e)
        have ns2 := F.ns.at' (h' := h2) fun o e => k2 _ o nBl.symm e
        exact {
          base := fun b o e => k2 b o (fun q => by rw [q, hB] at e; cases e) (F.keep b o (hbase b o e))
          vars := fun x d e => by
            by_cases q1 : x = ("box" : Str)
            · subst q1
              simp only [List.lookup_cons, beq_self_eq_true] at e
              cases e
              exact ⟨.ref B, .inl ⟨rfl, _, ns2, by rfl⟩, .lst nVB l2 (.cons (.lst nVL (lL1.at fun o e => k2 _ o nBL.symm e) (ints_rep hI)) (.cons (.int _ _) .nil))⟩
            · rw [List.lookup_cons, beq_eq_false_iff_ne.mpr q1] at e
              by_cases q2 : x = ("many" : Str)
              · subst q2
                simp only [List.lookup_cons, beq_self_eq_true] at e
                cases e
                exact ⟨.int many mt, .inl ⟨rfl, _, ns2, by rfl⟩, .int _ _⟩
              · rw [List.lookup_cons, beq_eq_false_iff_ne.mpr q2] at e
                cases e
          own := trivial
          zx := fun _ q => q.elim
          xb := fun b q => by
            cases e : W.base.get? b with
            | none => rfl
            | some o => have := hbase b o e; rw [vge b q] at this; cases this
          xt := fun b q => by
            rcases q with rfl | ⟨x, e⟩
            · obtain ⟨o, _, _, e, _⟩ := ns2; exact ⟨o, e⟩
            · obtain ⟨o, e', _⟩ := C.cell x b e
              exact ⟨o, k2 b o (fun q => nVB (q ▸ .inr ⟨x, e⟩)) e'⟩
          zl := id
          zc := fun _ _ _ => id
          kind := rfl
          gl := rfl
          bl := rfl }
      have k01 : KeepsBut (· = B) h₁ h₁ := fun _ _ _ e => e
      have hnl : (ns.map D.int).length ≤ 1000 := by simp; omega
      -- box[1] = box[1] + 1
      refine wpAny_execs_cons (wpAny_Assign_Subscript (((ev_bin (ev_sub ev_name ev_int (sb_lst (i := 1) (by decide) (by decide) rfl)) ev_int op_add) : Ev W n _ (Vof (envOfC (dd 15).name (dd 15).scope s.heap.objs.size a (.ref c'))) (fun _ => False) (HP.tt (V := fun _ => False)) [("box", .lst [.lst (ns.map .int), .int j]), ("many", .int many)] _ _ HP.tt).run (A.deeper (envOfC (dd 15).name (dd 15).scope s.heap.objs.size a (.ref c'))) _ _ _ r' (mk h₁ j t k01 lB1) fun v2 h2 tk2 a2 _ q2 => ?_))
      have k2 := a2.keeps fun _ => id
      have ns2 := F.ns.at' (h' := h2) fun o e => k2 _ o e
      refine wp_name rfl (.inl ⟨rfl, _, ns2, by rfl⟩) ?_ (by decide) (by decide)
      refine wpAny_Constant_int ?_
      cases q2 using Rep.intC with
      | int t2 =>
        refine setItem_plain (k := 1) (lB1.at fun o e => k2 _ o e) (by decide) (by decide) (by simp) fun h3 lB3 sb3 => ?_
        have k3 : KeepsBut (· = B) h₁ h3 := fun b o n e => (sb3.2 b n).trans (k2 b o e)
        have lB3' : h3.PlainList B #[.ref Lr, .int ((j : Int) + 1) t2] := lB3
        have L3 := mk h3 ((j : Int) + 1) t2 k3 lB3'
        have fin : ∀ (h5 : Heap) (tk5 : Nat) (v : Value), Keeps h3 h5 → Rep W (Vof (envOfC (dd 15).name (dd 15).scope s.heap.objs.size a (.ref c'))) h5 v (.int (draw ns j many)) →
            ∃ h' tk t, Flow.ret v = .ret (.int (draw ns j many) t) ∧ ({ s with heap := h5, toks := tk5 } : Shared) = { s with heap := h', toks := tk } ∧ KeepsBut (· = B) s.heap h' ∧ BoxAt B Lr ns (j + 1) h' := fun h5 tk5 v k5 q => by
          cases q using Rep.intC with
          | int t5 =>
            refine ⟨h5, tk5, t5, rfl, rfl, fun b o nb e => k5 b o (k3 b o nb (F.keep b o e)), t2, vs, nBL, ?_, lL1.at fun o e => k5 _ o (k3 _ o nBL.symm e), hI⟩
            have := lB3'.at (h' := h5) fun o e => k5 _ o e
            rw [show ((j + 1 : Nat) : Int) = (j : Int) + 1 by omega]; exact this
        refine wpAny_execs_cons (wpAny_If (((tv_cmp (ev_sub ev_name ev_int (sb_lst (i := 1) (by decide) (by decide) rfl)) (ev_callB (evs_cons (ev_sub ev_name ev_int (sb_lst (i := 0) (by decide) (by decide) rfl)) evs_nil) (on_len_lst hnl) (g.fr _ (by decide)) rfl) op_le) : Tv W n _ (Vof (envOfC (dd 15).name (dd 15).scope s.heap.objs.size a (.ref c'))) (fun _ => False) (HP.tt (V := fun _ => False)) [("box", .lst [.lst (ns.map .int), .int ((j : Int) + 1)]), ("many", .int many)] _ _ HP.tt).run (A.deeper (envOfC (dd 15).name (dd 15).scope s.heap.objs.size a (.ref c'))) _ _ _ r' L3 fun h4 tk4 a4 _ => ?_))
        have k4 := a4.keeps fun _ => id
        have L4 := L3.grown k4
        by_cases hle : j + 1 ≤ ns.length
        · have hb : decide ((j : Int) + 1 ≤ ((ns.map D.int).length : Int)) = true := by simp; omega
          rw [hb]
          simp only [if_true]
          have hd : (ns.map D.int)[((j : Int) + 1 - 1).toNat]? = some (.int (ns.getD j 0)) := by
            rw [show ((j : Int) + 1 - 1).toNat = j by omega]
            have : j < ns.length := by omega
            simp [this]
          refine wpAny_execs_cons (wpAny_Return_some (((ev_bin (ev_callB (evs_cons (ev_sub (ev_sub ev_name ev_int (sb_lst (i := 0) (by decide) (by decide) rfl)) (ev_bin (ev_sub ev_name ev_int (sb_lst (i := 1) (by decide) (by decide) rfl)) ev_int op_sub) (sb_lst (by omega) (by omega) hd)) evs_nil) on_abs (g.fr _ (by decide)) rfl) ev_name (op_mod (by omega))) : Ev W n _ (Vof (envOfC (dd 15).name (dd 15).scope s.heap.objs.size a (.ref c'))) (fun _ => False) (HP.tt (V := fun _ => False)) [("box", .lst [.lst (ns.map .int), .int ((j : Int) + 1)]), ("many", .int many)] _ _ HP.tt).run (A.deeper (envOfC (dd 15).name (dd 15).scope s.heap.objs.size a (.ref c'))) _ _ _ r' L4 fun v h5 tk5 a5 _ q5 => ?_))
          refine fin h5 tk5 v (k4.trans (a5.keeps fun _ => id)) ?_
          have : draw ns j many = (if ns.getD j 0 < 0 then -ns.getD j 0 else ns.getD j 0).fmod many := by unfold draw; rw [if_pos hle]
          rw [this]; exact q5
        · have hb : decide ((j : Int) + 1 ≤ ((ns.map D.int).length : Int)) = false := by simp; omega
          rw [hb]
          simp only [Bool.false_eq_true, if_false]
          refine wpAny_execs_nil (wpAny_execs_cons (wpAny_Return_some (((ev_bin (ev_bin (ev_bin ev_int (ev_sub ev_name ev_int (sb_lst (i := 1) (by decide) (by decide) rfl)) (op_mul (IntMulOk.of_left (by decide)))) (ev_bin (ev_sub ev_name ev_int (sb_lst (i := 1) (by decide) (by decide) rfl)) ev_int (op_div (by decide) (PyProof.noPylong_small (by decide)))) op_add) ev_name (op_mod (by omega))) : Ev W n _ (Vof (envOfC (dd 15).name (dd 15).scope s.heap.objs.size a (.ref c'))) (fun _ => False) (HP.tt (V := fun _ => False)) [("box", .lst [.lst (ns.map .int), .int ((j : Int) + 1)]), ("many", .int many)] _ _ HP.tt).run (A.deeper (envOfC (dd 15).name (dd 15).scope s.heap.objs.size a (.ref c'))) _ _ _ r' L4 fun v h5 tk5 a5 _ q5 => ?_)))
          refine fin h5 tk5 v (k4.trans (a5.keeps fun _ => id)) ?_
          have : draw ns j many = (7 * ((j : Int) + 1) + ((j : Int) + 1).fdiv 4).fmod many := by unfold draw; rw [if_neg hle]
          rw [this]; exact q5
    · obtain ⟨h', tk', t', rfl, rfl, k, q⟩ := q
      exact h h' tk' t' k q
end Mine

end
-- part C8
section
open PySem PySem.W PyProof.Rows PySem.Calls PySem.Spec
set_option maxRecDepth 100000
set_option maxHeartbeats 8000000
set_option linter.unusedVariables false
namespace Mine
abbrev rtD (i fl : Int) : D := .tup [.int 2, .tup (tups [[i, 17]]), .int fl]
theorem fn_ways {W : Wd} (g : Good W) {n : Nat} : Fn W (n + 1) (dd 14).name [.lst [.tup [.int 1, .idict [1, 2] [rtD 1 2, rtD 2 3], .idict [] []]]] leadD :=
  fn_of (di := dd 14) ["areas"] (g.defs ▸ in14) rfl rfl (fun pm cd doc vs hv => by obtain ⟨v0, rfl⟩ := len1 hv; rfl) (by decide) (by decide) rfl rfl rfl fun L aa cd => by
    refine ex_own0 (ex_newdict (od := .group []) (.inr rfl) (.inl rfl) (by simp) fun a => ?_)
    refine ex_cons (ex1_for (T1 := own W [(a, .group [])]) (fun S => evit_lst ev_name) (.next (.tup (xs := ["area", "routers", "others"]) (.cons rfl (.inl rfl) (.cons rfl (.inl rfl) (.cons rfl (.inl rfl) .nil))) rfl rfl rfl) (ex_cons (ex1_for (T1 := own W [(a, .group [])]) (ds := [.int 1, .int 2]) (fun S => evit_lst (ev_to (ev_callB (evs_cons ev_name evs_nil) (on_sorted_idict (by decide)) (g.fr _ (by decide)) rfl) (by rfl))) (.next (.name (.inl rfl)) (ex_cons (xunpack ["cost", "hops", "flags"] (fun S => ev_sub ev_name ev_name (sb_idict (d := rtD 1 2) rfl)) (.cons rfl (.inl rfl) (.cons rfl (.inl rfl) (.cons rfl (.inl rfl) .nil)))) (ex_cons (ex1_if_t (T1 := own W [(a, .group [])]) (fun S => tv_cmp (ev_bin ev_name (ev_cst g cst_LEADS) op_and) ev_int op_ne) (ex_cons (ex1_setdef (x := "found") (O1 := []) (O2 := []) rfl (by simp) (fun _ z => z.elim) (fun S => ev_name) (fun S => ev_tup (evs_cons ev_name (evs_cons ev_name (evs_cons ev_name (evs_cons ev_bool evs_nil))))) (by simp) (by simp)) ex_nil)) ex_nil))
      (.next (.name (.inl rfl)) (ex_cons (xunpack ["cost", "hops", "flags"] (fun S => ev_sub ev_name ev_name (sb_idict (d := rtD 2 3) rfl)) (.cons rfl (.inl rfl) (.cons rfl (.inl rfl) (.cons rfl (.inl rfl) .nil)))) (ex_cons (ex1_if_t (fun S => tv_cmp (ev_bin ev_name (ev_cst g cst_LEADS) op_and) ev_int op_ne) (ex_cons (ex1_setdef (x := "found") (O1 := []) (O2 := []) rfl (by simp) (fun _ z => z.elim) (fun S => ev_name) (fun S => ev_tup (evs_cons ev_name (evs_cons ev_name (evs_cons ev_name (evs_cons ev_bool evs_nil))))) (by decide) (by decide)) ex_nil)) ex_nil)) .nil)))
      (ex_cons (ex1_for (ds := []) (fun S => evit_lst (ev_to (ev_callB (evs_cons ev_name evs_nil) (on_sorted_idict (ks := []) (by decide)) (g.fr _ (by decide)) rfl) (by rfl))) .nil) ex_nil)) .nil)) ?_
    refine ex_freeze (O1 := []) (O2 := []) (x := "found") rfl (by simp) (fun _ z => z.elim) ?_
    exact xret (ex1_return fun S => ev_wk (ev_to ev_name (by rfl)))
end Mine

end
-- part C9
section
open PySem PySem.W PyProof.Rows PySem.Calls PySem.Spec
set_option maxRecDepth 100000
set_option maxHeartbeats 8000000
set_option linter.unusedVariables false
namespace Mine

section
variable {W : Wd} {n : Nat} {env : Env} {X Z : Addr → Prop} {V : Addr → Prop} {T T' T1 : HP V} {ρ : Env1}
theorem ev_take (g : Good W) {B Lr : Addr} {ns : List Int} {j : Nat} {many : Int} {npos pos : Pos} {e1 e2 : Expr} (hin : ∀ h, T.P h → BoxAt B Lr ns j h) (hout : ∀ h h', T.P h → KeepsBut (· = B) h h' → BoxAt B Lr ns (j + 1) h' → T'.P h') (zB : Z B) (hns : ns.length ≤ 24) (hj : j ≤ 100) (hmany : 0 < many)
    (y1 : Ev W (n + 1) env X Z T ρ e1 (.ptr B) T) (y2 : Ev W (n + 1) env X Z T ρ e2 (.int many) T) (hx : env.kindOf (dd 15).name = some .globalImplicit := by rfl)
    (he : starEach [e1, e2] env = (false, eval e1 env) :: starEach [e2] env := by rfl) (he2 : starEach [e2] env = (false, eval e2 env) :: starEach [] env := by rfl)
    (hc : eval (.Call (.Name (dd 15).name npos) [e1, e2] [] pos) env = (do callWith pos (← eval (.Name (dd 15).name npos) env) [] (backTo pos (starEach [e1, e2] env)) (backToKw pos (keywordEach [] env))) := by rfl) :
    Ev W (n + 1) env X Z T ρ (.Call (.Name (dd 15).name npos) [e1, e2] [] pos) (.int (draw ns j many)) T' := .mk fun A s Q E r L h => by
  obtain ⟨a', c', o, pm, doc, _, _, h1, ho, hdat, hcd⟩ := (W.glob.made (dd 15) (g.defs ▸ in15)).plain rfl
  refine Call_ (Name_function_global L.kind hx (loadGlobal_global (by rw [L.gl]; exact L.glob.g) h1 ?_) (by decide)) hc
  refine callWith_def hdat ((evs_cons y1 (evs_cons y2 evs_nil he2) he).run A s pos _ E r L fun vs h2 tk2 a2 t2 q2 => ⟨(L.next a2 t2).base _ _ ho, ?_⟩) he
  have L2 := L.next a2 t2
  cases q2 using Reps.consC with
  | cons q1 q2 => cases q2 using Reps.consC with
    | cons q2 q3 =>
      cases q3 using Reps.nilC
      cases q1 using Rep.ptrC
      cases q2 using Rep.intC
      refine fn_take g r h1 L2.base (L2.xb B (L.zx B zB)) (hin _ t2) hns hj hmany fun h3 tk3 t k3 b3 => ?_
      refine h _ h3 tk3 (a2.trans ⟨fun b o nz e => k3 b o (fun q => nz (q ▸ zB)) e, fun b ⟨o, e⟩ => ?_⟩) (hout _ _ t2 k3 b3) (.int _ _)
      by_cases q : b = B
      · obtain ⟨_, _, _, ⟨_, e2⟩, _⟩ := b3; exact ⟨_, q ▸ e2⟩
      · exact ⟨o, k3 b o q e⟩
end

section
variable {W : Wd} {n : Nat} {env : Env} {Z : Addr → Prop} {T T' T1 T2 : TT (Vof env)} {ρ ρ' ρ1 : Env1} {O O1 O2 : List (Addr × OD)}
theorem box_in {B Lr : Addr} {ns : List Int} {j : Nat} {S : Sp} {h : Heap} (t : ownP W (Vof env) (O1 ++ (B, .box Lr ns j) :: O2) S h) : BoxAt B Lr ns j h := by
  obtain ⟨as, nd, vx, ma, q⟩ := t
  obtain ⟨u, vs, l, l2, hI, nx⟩ := q (B, .box Lr ns j) (by simp)
  exact ⟨u, vs, fun e => nx (e ▸ (ma B (by simp)).2.1), l, l2, hI⟩
theorem box_out {B Lr : Addr} {ns : List Int} {j : Int} {i : Nat} {S : Sp} {h h' : Heap} (t : ownP W (Vof env) (O1 ++ (B, .box Lr ns j) :: O2) S h) (k : KeepsBut (· = B) h h') (b : BoxAt B Lr ns i h') : ownP W (Vof env) (O1 ++ (B, .box Lr ns i) :: O2) S h' := by
  refine ownP.turn t k fun as q => ?_
  obtain ⟨u, vs, l, l2, hI, nx⟩ := q
  obtain ⟨u2, vs2, _, m1, m2, hI2⟩ := b
  exact ⟨u2, vs2, m1, m2, hI2, nx⟩
theorem evs_take (g : Good W) {B Lr : Addr} {ns : List Int} {j : Nat} {many : Int} {npos pos : Pos} {e1 e2 : Expr} (zB : Z B) (hns : ns.length ≤ 24) (hj : j ≤ 100) (hmany : 0 < many)
    (y1 : EvS W (n + 1) env Z (own W (O1 ++ (B, .box Lr ns j) :: O2)) ρ e1 (.ptr B) (own W (O1 ++ (B, .box Lr ns j) :: O2))) (y2 : EvS W (n + 1) env Z (own W (O1 ++ (B, .box Lr ns j) :: O2)) ρ e2 (.int many) (own W (O1 ++ (B, .box Lr ns j) :: O2))) (hx : env.kindOf (dd 15).name = some .globalImplicit := by rfl)
    (he : starEach [e1, e2] env = (false, eval e1 env) :: starEach [e2] env := by rfl) (he2 : starEach [e2] env = (false, eval e2 env) :: starEach [] env := by rfl)
    (hc : eval (.Call (.Name (dd 15).name npos) [e1, e2] [] pos) env = (do callWith pos (← eval (.Name (dd 15).name npos) env) [] (backTo pos (starEach [e1, e2] env)) (backToKw pos (keywordEach [] env))) := by rfl) :
    EvS W (n + 1) env Z (own W (O1 ++ (B, .box Lr ns j) :: O2)) ρ (.Call (.Name (dd 15).name npos) [e1, e2] [] pos) (.int (draw ns j many)) (own W (O1 ++ (B, .box Lr ns ((j + 1 : Nat) : Int)) :: O2)) := fun S =>
  ev_take g (fun h t => box_in t) (fun h h' t k b => box_out t k b) zB hns hj hmany (y1 S) (y2 S) hx he he2 hc

/-- the four things that the law's first statement makes -/
theorem Fm.setZ {hb h : Heap} {Y Z' : Addr → Prop} {S : Sp} (f : Fm W env hb Y Z S T ρ h) (zm : ∀ a, Z' a → S.M a ∧ ¬ Vof env a) : Fm W env hb Y Z' S T ρ h :=
  { f with
    look := { f.look with
      zx := fun a z => f.mx a (zm a z).1
      zl := fun z => (zm _ z).2 (.inl rfl)
      zc := fun x c e z => (zm c z).2 (.inr ⟨x, e⟩) }
    zm := fun a z => (zm a z).1 }
end
end Mine

end
-- part CA
section
open PySem PySem.W PyProof.Rows PySem.Calls PySem.Spec
set_option maxRecDepth 100000
set_option maxHeartbeats 8000000
set_option linter.unusedVariables false
namespace Mine
section
variable {W : Wd} {n : Nat} {env : Env} {Z : Addr → Prop} {T T' T1 T2 : TT (Vof env)} {ρ ρ' ρ1 : Env1} {O O1 O2 : List (Addr × OD)}
theorem ownP.plusG {hb h h' : Heap} {Y : Addr → Prop} {S : Sp} {a : Addr} {od : OD} (f : Fm W env hb Y Z S (own W O) ρ h) (k : Keeps h h') (ha : h.get? a = none) (lo : (a == sysModules) = false) (ng : od.noGroup = true) (at' : od.At W (S.plus a).X h' [] a) :
    ownP W (Vof env) ((a, od) :: O) (S.plus a) h' := by
  obtain ⟨as, nd, vx, ma, q⟩ := f.look.own
  have na : ∀ b ∈ O.map (·.1) ++ as, b ≠ a := fun b hb e => by
    obtain ⟨o, e'⟩ := f.look.xt b (ma b hb).2.1
    rw [e, ha] at e'; cases e'
  have w : ∀ b, (S.X b ∨ b = a) → (∃ o, h.get? b = some o) → S.X b := fun b q ⟨o, e⟩ => q.elim id fun q => by rw [q, ha] at e; cases e
  refine ⟨as, ?_, fun b v => .inl (vx b v), fun b hb => ?_, fun p hp => ?_⟩
  · rw [List.map_cons, List.cons_append, List.nodup_cons]
    exact ⟨fun hm => na a hm rfl, nd⟩
  · rw [List.map_cons, List.cons_append] at hb
    rcases List.mem_cons.mp hb with rfl | hb
    · exact ⟨.inr rfl, .inr rfl, f.notV ha, lo⟩
    · have m := ma b hb
      exact ⟨.inl m.1, .inl m.2.1, m.2.2⟩
  · rcases List.mem_cons.mp hp with rfl | hp
    · exact at'.irrel ng
    · exact ((q p hp).weak w).up (fun b _ o e => k b o e) fun b o _ e => k b o e

theorem Fm.own0 {hb h : Heap} {Y : Addr → Prop} {S : Sp} (f : Fm W env hb Y Z S TT.tt ρ h) : Fm W env hb Y Z S (own W []) ρ h := { f with look := { f.look with own := ⟨[], by simp, fun a v => f.mx a (f.vm a v), by simp, by simp⟩ } }

abbrev bxO (v : Value) (t : Tok) : Obj := { cls := .type "list", data := .seq #[v, .int 0 t] }
abbrev leO : Obj := { cls := .type "list", data := .seq #[] }
abbrev deO : Obj := { cls := .type "dict", data := .dict #[] }
theorem four_mid {A : Around} {hb : Heap} {Y : Addr → Prop} {S : Sp} {s : Shared} {h1 : Heap} {tk : Nat} {v1 : Value} {t1 : Tok} {ns : List Int} {es : List Expr} {xs : List Str} {kk : Nat} {tpos : Pos} {Q : Unit → Shared → Prop} {E : Value → Shared → Prop} (hh : A.handled = none) (hf : Tgts env es xs) (hl : (assignEach es env).length = 4) (hl2 : es.length = 4) (hst : (assignEach es env).findIdx? (·.1) = none)
    (f : Fm W env hb Y (fun _ => False) S TT.tt ρ h1) (q1 : Rep W S.X h1 v1 (.lst (ns.map .int)))
    (k : ∀ B Lr R Of Du S' h' tk', Fm W env hb Y (fun b => b = B) S' (own W [(Du, .list []), (Of, .group []), (R, .list []), (B, .box Lr ns ((0 : Nat) : Int))]) (zipIn xs [.ptr B, .ptr R, .ptr Of, .ptr Du] ρ) h' → Q () { s with heap := h', toks := tk' }) :
    wpAny W.M A (assign (.Tuple es kk tpos) env (.ref ((((h1.push (bxO v1 t1)).push leO).push deO).push leO).objs.size)) Q E
      { s with heap := ((((h1.push (bxO v1 t1)).push leO).push deO).push leO).push { cls := .type "tuple", data := .seq #[.ref h1.objs.size, .ref (h1.push (bxO v1 t1)).objs.size, .ref ((h1.push (bxO v1 t1)).push leO).objs.size, .ref (((h1.push (bxO v1 t1)).push leO).push deO).objs.size] }, toks := tk } := by
  cases q1 using Rep.lstC with
  | @lst Lr vs nx l rs =>
    have f1 := f.own0
    have nL : Lr ≠ h1.objs.size := let ⟨_, e⟩ := l; Nat.ne_of_lt (Heap.lt_size e)
    obtain ⟨f2, b2⟩ := f1.alloc (T' := own W [(h1.objs.size, .box Lr ns ((0 : Nat) : Int))]) (keeps_push h1 (bxO (.ref Lr) t1)) (size_none _) ⟨_, Heap.get?_push_size _ rfl⟩ (ownP.plusG f1 (keeps_push _ _) (size_none _) (lo_new f1.look.base) rfl ⟨t1, vs, isList_new _ _, l.at fun o e => keeps_push _ _ _ o e, reps_ints rs, fun q => q.elim nx nL⟩)
    obtain ⟨f3, b3⟩ := f2.alloc (T' := own W [((h1.push (bxO (.ref Lr) t1)).objs.size, .list []), (h1.objs.size, .box Lr ns ((0 : Nat) : Int))]) (keeps_push _ leO) (size_none _) ⟨_, Heap.get?_push_size _ rfl⟩ (ownP.plusG f2 (keeps_push _ _) (size_none _) (lo_new f2.look.base) rfl ⟨[], isList_new _ _, .nil⟩)
    obtain ⟨f4, b4⟩ := f3.alloc (T' := own W [(((h1.push (bxO (.ref Lr) t1)).push leO).objs.size, .group []), ((h1.push (bxO (.ref Lr) t1)).objs.size, .list []), (h1.objs.size, .box Lr ns ((0 : Nat) : Int))]) (keeps_push _ deO) (size_none _) ⟨_, Heap.get?_push_size _ rfl⟩ (ownP.plus f3 (keeps_push _ _) (size_none _) (lo_new f3.look.base) (by simp [OD.noGroup]) ⟨Heap.DictOf.new _, trivial⟩)
    obtain ⟨f5, b5⟩ := f4.alloc (T' := own W [((((h1.push (bxO (.ref Lr) t1)).push leO).push deO).objs.size, .list []), (((h1.push (bxO (.ref Lr) t1)).push leO).objs.size, .group []), ((h1.push (bxO (.ref Lr) t1)).objs.size, .list []), (h1.objs.size, .box Lr ns ((0 : Nat) : Int))]) (keeps_push _ leO) (size_none _) ⟨_, Heap.get?_push_size _ rfl⟩ (ownP.plusG f4 (keeps_push _ _) (size_none _) (lo_new f4.look.base) rfl ⟨[], isList_new _ _, .nil⟩)
    have kt := keeps_push ((((h1.push (bxO (.ref Lr) t1)).push leO).push deO).push leO) { cls := .type "tuple", data := .seq #[.ref h1.objs.size, .ref (h1.push (bxO (.ref Lr) t1)).objs.size, .ref ((h1.push (bxO (.ref Lr) t1)).push leO).objs.size, .ref (((h1.push (bxO (.ref Lr) t1)).push leO).push deO).objs.size] }
    have ht : IsTup (((((h1.push (bxO (.ref Lr) t1)).push leO).push deO).push leO).push { cls := .type "tuple", data := .seq #[.ref h1.objs.size, .ref (h1.push (bxO (.ref Lr) t1)).objs.size, .ref ((h1.push (bxO (.ref Lr) t1)).push leO).objs.size, .ref (((h1.push (bxO (.ref Lr) t1)).push leO).push deO).objs.size] }) ((((h1.push (bxO (.ref Lr) t1)).push leO).push deO).push leO).objs.size #[.ref h1.objs.size, .ref (h1.push (bxO (.ref Lr) t1)).objs.size, .ref ((h1.push (bxO (.ref Lr) t1)).push leO).objs.size, .ref (((h1.push (bxO (.ref Lr) t1)).push leO).push deO).objs.size] := IsTup.new _ _
    refine assign_Tuple_tuple hh ht hl hst fun h7 he => ?_
    have k7 : Keeps ((((h1.push (bxO (.ref Lr) t1)).push leO).push deO).push leO) h7 := fun b o e => he b o (Nat.ne_of_lt (Heap.lt_size (kt b o e))) (kt b o e)
    have f7 := f5.next (.of_keeps k7) (((own W _).at _).st _ _ k7 f5.look.own)
    refine wp_inOrder (s := { s with heap := h7, toks := tk }) (ds := [.ptr _, .ptr _, .ptr _, .ptr _]) hf hl2 f7 (.cons (.ptr _) (.cons (.ptr _) (.cons (.ptr _) (.cons (.ptr _) .nil)))) fun h8 tk8 a8 f8 => ?_
    have mB := f8.look.own
    refine k _ Lr _ _ _ _ h8 tk8 (f8.setZ fun b e => ?_)
    obtain ⟨as, nd, vx, ma, q⟩ := mB
    have := ma b (by rw [show b = h1.objs.size from e]; simp)
    exact ⟨this.1, this.2.2.1⟩

theorem ex_four {ns : List Int} {e0 : Expr} {es : List Expr} {xs : List Str} {kk k0 k2 : Nat} {tpos pos p0 p1 p2 p3 p4 p5 : Pos} {rest : List Stmt} {d : D} (hf : Tgts env es xs) (y0 : EvS W n env (fun _ => False) TT.tt ρ e0 (.lst (ns.map .int)) TT.tt)
    (y : ∀ B Lr R Of Du, Ex W n env (fun b => b = B) (own W [(Du, .list []), (Of, .group []), (R, .list []), (B, .box Lr ns ((0 : Nat) : Int))]) (zipIn xs [.ptr B, .ptr R, .ptr Of, .ptr Du] ρ) rest (.ret d) TT.tt)
    (hl : (assignEach es env).length = 4 := by rfl) (hl2 : es.length = 4 := by rfl) (hst : (assignEach es env).findIdx? (·.1) = none := by rfl)
    (hs : swapsWithSole [.Tuple es kk tpos] (.Tuple [.List [e0, .Constant (.int 0) k0 p0] p1, .List [] p2, .Dict [] [] p3, .List [] p4] k2 p5) pos.line env = pure false := by rfl)
    (hw : swappedStores [.Tuple es kk tpos] (.Tuple [.List [e0, .Constant (.int 0) k0 p0] p1, .List [] p2, .Dict [] [] p3, .List [] p4] k2 p5) env = pure none := by rfl)
    (he0 : starEach [e0, .Constant (.int 0) k0 p0] env = (false, eval e0 env) :: starEach [.Constant (.int 0) k0 p0] env := by rfl) :
    Ex W n env (fun _ => False) TT.tt ρ (.Assign [.Tuple es kk tpos] (.Tuple [.List [e0, .Constant (.int 0) k0 p0] p1, .List [] p2, .Dict [] [] p3, .List [] p4] k2 p5) pos :: rest) (.ret d) TT.tt := .mk fun A hb Y S s Q E r f k => by
  refine wpAny_execs_cons (Assign_Tuple (Tuple_ (args_cons (List_ (args_cons ((y0 S).run A s _ E r f.look fun v1 h1 tk1 a1 _ q1 => args_cons (wpAny_Constant_int (args_nil (wpAny_newObj_type (args_cons (List_ (args_nil (wpAny_newObj_type (args_cons (wpAny_Dict_empty (args_cons (List_ (args_nil (wpAny_newObj_type (args_nil (wpAny_newObj_type ?_ (by show 4 ≤ sizeLine; rw [sizeLine_eq]; omega))) (Nat.zero_le _)))) rfl)) rfl) (Nat.zero_le _)))) rfl) (by show 2 ≤ sizeLine; rw [sizeLine_eq]; omega)))) rfl) he0)) rfl)) hs hw)
  exact four_mid r.1 hf hl hl2 hst (f.next a1 trivial) q1 fun B Lr R Of Du S' h' tk' f' => (y B Lr R Of Du).run A hb Y S' _ Q E r f' fun S2 h2 tk2 v2 f2 q2 => k S2 h2 tk2 v2 (f2.setZ fun _ q => q.elim) q2
end
end Mine

end
-- part CB
section
open PySem PySem.W PyProof.Rows PySem.Calls PySem.Spec
set_option maxRecDepth 100000
set_option maxHeartbeats 400000
set_option linter.unusedVariables false
namespace Mine

theorem draw_bd {ns : List Int} {j : Nat} {many : Int} (h : 0 < many) : 0 ≤ draw ns j many ∧ draw ns j many < many := by
  unfold draw
  split
  · exact ⟨Int.fmod_nonneg_of_pos _ h, Int.fmod_lt_of_pos _ h⟩
  · exact ⟨Int.fmod_nonneg_of_pos _ h, Int.fmod_lt_of_pos _ h⟩
def menuL : List (List Int) := [[1, 0], [1, 17], [1, 18], [2, 0], [2, 17], [2, 18]]
def menuAt (i : Int) : List Int := menuL.getD i.toNat []
def picks (ns : List Int) : Nat → Nat → List (List Int)
  | _, 0 => []
  | j, m + 1 => menuAt (draw ns j 6) :: picks ns (j + 1) m
theorem menu_get {i : Int} (h0 : 0 ≤ i) (h1 : i < 6) : (tups menuL)[i.toNat]? = some (.tup ((menuAt i).map .int)) := by
  have : i.toNat < 6 := by omega
  obtain ⟨k, hk⟩ : ∃ k : Nat, i.toNat = k := ⟨_, rfl⟩
  unfold menuAt
  rw [hk]
  rw [hk] at this
  match k, this with
  | 0, _ => rfl
  | 1, _ => rfl
  | 2, _ => rfl
  | 3, _ => rfl
  | 4, _ => rfl
  | 5, _ => rfl
theorem picks_len (ns : List Int) : ∀ m j, (picks ns j m).length = m
  | 0, _ => rfl
  | m + 1, j => by simp [picks, picks_len ns m]
theorem menuAt_two {i : Int} (h0 : 0 ≤ i) (h1 : i < 6) : (menuAt i).length = 2 ∧ ((menuAt i).getD 0 0 = 1 ∨ (menuAt i).getD 0 0 = 2) ∧ ((menuAt i).getD 1 0 = 0 ∨ (menuAt i).getD 1 0 = 17 ∨ (menuAt i).getD 1 0 = 18) := by
  have : i.toNat < 6 := by omega
  obtain ⟨k, hk⟩ : ∃ k : Nat, i.toNat = k := ⟨_, rfl⟩
  unfold menuAt
  rw [hk]
  rw [hk] at this
  match k, this with
  | 0, _ => decide
  | 1, _ => decide
  | 2, _ => decide
  | 3, _ => decide
  | 4, _ => decide
  | 5, _ => decide
theorem picks_two (ns : List Int) : ∀ m j, ∀ x ∈ picks ns j m, x.length = 2 ∧ (x.getD 1 0 = 0 ∨ x.getD 1 0 = 17 ∨ x.getD 1 0 = 18)
  | 0, _, x, hx => by simp [picks] at hx
  | m + 1, j, x, hx => by
    simp only [picks, List.mem_cons] at hx
    rcases hx with rfl | hx
    · have b := draw_bd (ns := ns) (j := j) (many := 6) (by decide)
      have := menuAt_two b.1 b.2
      exact ⟨this.1, this.2.2⟩
    · exact picks_two ns m (j + 1) x hx

/-- the box as the one thing that a comprehension turns -/
def boxU (B Lr : Addr) (ns : List Int) (j : Nat) : HP (fun b => ¬ (b = B ∨ b = Lr)) where
  P := BoxAt B Lr ns j
  turns := fun h h' k ⟨t, vs, ne, l, l2, hI⟩ => ⟨t, vs, ne, l.at fun o e => k B o (fun n => n (.inl rfl)) e, l2.at fun o e => k Lr o (fun n => n (.inr rfl)) e, hI⟩

theorem hops_turns {W : Wd} (g : Good W) {n : Nat} {cenv : Env} {B Lr : Addr} {ns : List Int} {target : Expr} {ρ0 : Env1} {ep : Expr} (hns : ns.length ≤ 24)
    (hb : ∀ d, ∃ ρ1, BindL cenv target d ρ0 ρ1 ∧ ∀ j X, j ≤ 100 → Ev W n cenv X (fun b => b = B) (boxU B Lr ns j) ρ1 ep (.tup ((menuAt (draw ns j 6)).map .int)) (boxU B Lr ns (j + 1))) :
    ∀ (m : Nat) (a : Int) (j : Nat), j + m ≤ 100 → CTurns W n cenv (fun b => b = B) (fun b => b = B ∨ b = Lr) target [] ep ρ0 ρ0 (boxU B Lr ns j) (runs a 1 m) (tups (picks ns j m)) (boxU B Lr ns (j + m))
  | 0, a, j, _ => .nil
  | m + 1, a, j, hj => by
    obtain ⟨ρ1, b1, e1⟩ := hb (.int a)
    have ih := hops_turns g hns hb m (a + 1) (j + 1) (by omega)
    rw [show j + 1 + m = j + (m + 1) by omega] at ih
    exact .keep b1 .none (fun X => e1 j X (by omega)) ih

end Mine

end
-- part CC
section
open PySem PySem.W PyProof.Rows PySem.Calls PySem.Spec
set_option maxRecDepth 100000
set_option maxHeartbeats 1000000
set_option linter.unusedVariables false
namespace Mine

/-- what the law owns -/
abbrev LT (W : Wd) (env : Env) (Du Of R B Lr : Addr) (ns : List Int) (du : List D) (gr : List (Int × List D)) (rows : List D) (j : Nat) : TT (Vof env) :=
  own W [(Du, .list du), (Of, .group gr), (R, .list rows), (B, .box Lr ns ((j : Nat) : Int))]

theorem tk {W : Wd} (g : Good W) {n : Nat} {env : Env} {S : Sp} {Du Of R B Lr : Addr} {ns : List Int} {du : List D} {gr : List (Int × List D)} {rows : List D} (j : Nat) (many : Int) {ρ : Env1} {npos pos p1 p2 : Pos} {k : Nat} (hns : ns.length ≤ 24) (hj : j ≤ 100) (hmany : 0 < many) (hb : ρ.lookup ("box" : Str) = some (.ptr B))
    (hx : env.kindOf (dd 15).name = some .globalImplicit := by rfl)
    (he : starEach [.Name "box" p1, .Constant (.int many) k p2] env = (false, eval (.Name "box" p1) env) :: starEach [.Constant (.int many) k p2] env := by rfl) (he2 : starEach [.Constant (.int many) k p2] env = (false, eval (.Constant (.int many) k p2) env) :: starEach [] env := by rfl)
    (hc : eval (.Call (.Name (dd 15).name npos) [.Name "box" p1, .Constant (.int many) k p2] [] pos) env = (do callWith pos (← eval (.Name (dd 15).name npos) env) [] (backTo pos (starEach [.Name "box" p1, .Constant (.int many) k p2] env)) (backToKw pos (keywordEach [] env))) := by rfl) :
    Ev W (n + 1) env S.X (fun b => b = B) ((LT W env Du Of R B Lr ns du gr rows j).at S) ρ (.Call (.Name (dd 15).name npos) [.Name "box" p1, .Constant (.int many) k p2] [] pos) (.int (draw ns j many)) ((LT W env Du Of R B Lr ns du gr rows (j + 1)).at S) :=
  evs_take (Z := fun b => b = B) (O1 := [(Du, .list du), (Of, .group gr), (R, .list rows)]) (O2 := []) (j := j) g rfl hns hj hmany (fun S => ev_name hb) (fun S => ev_int) hx he he2 hc S


abbrev scD (sc : List Int) : Env1 := [("script", .lst (sc.map .int))]
abbrev menuE : List D := [.tup [.int 1, .int 0], .tup [.int 1, .int 17], .tup [.int 1, .int 18], .tup [.int 2, .int 0], .tup [.int 2, .int 17], .tup [.int 2, .int 18]]
noncomputable abbrev envL (L aa : Addr) (cd : Value) : Env := envOfC (dd 17).name (dd 17).scope L aa cd

end Mine

end
-- part P0
section
open PySem PySem.W PyProof.Rows PySem.Calls PySem.Spec
set_option maxRecDepth 100000
set_option maxHeartbeats 400000
set_option linter.unusedVariables false
namespace Mine

def offP (r : Row) : List Int := if r.far then [1, r.m] else [0, 2 + r.m]
def offWay (hops : List (List Int)) (r : Row) : List (List Int) := if 0 < r.f then fwdMap r.f hops else [[r.snd, 17]]
abbrev offD (hops : List (List Int)) (r : Row) : D := .tup [.tup ((offP r).map .int), .lst (tups (offWay hops r))]
def grp (hops : List (List Int)) (rows : List Row) : List (Int × List D) := rows.foldl (fun g r => addTo (touch g r.net) r.net (offD hops r)) []
theorem grp_snoc (hops : List (List Int)) (rows : List Row) (r : Row) : grp hops (rows ++ [r]) = addTo (touch (grp hops rows) r.net) r.net (offD hops r) := by
  unfold grp; rw [List.foldl_append]; rfl
def ofNet (k : Int) (rows : List Row) : List Row := rows.filter fun r => decide (r.net = k)
theorem ofNet_snoc (k : Int) (rows : List Row) (r : Row) : ofNet k (rows ++ [r]) = ofNet k rows ++ (if r.net = k then [r] else []) := by
  unfold ofNet
  rw [List.filter_append]
  by_cases h : r.net = k <;> simp [h]
theorem ofNet_nil {k : Int} {rows : List Row} (h : ∀ r ∈ rows, r.net ≠ k) : ofNet k rows = [] := by
  unfold ofNet
  rw [List.filter_eq_nil_iff]
  intro r hr
  simpa using h r hr
structure GInv (hops : List (List Int)) (g : List (Int × List D)) (rows : List Row) : Prop where
  nd : (g.map (·.1)).Nodup
  val : ∀ p ∈ g, p.2 = (ofNet p.1 rows).map (offD hops)
  mem : ∀ k, k ∈ g.map (·.1) ↔ ∃ r ∈ rows, r.net = k
  len : g.length ≤ rows.length
theorem touch_keys (g : List (Int × List D)) (k : Int) : (touch g k).map (·.1) = if k ∈ g.map (·.1) then g.map (·.1) else g.map (·.1) ++ [k] := by
  unfold touch
  split <;> simp
theorem ginv_step {hops : List (List Int)} {g : List (Int × List D)} {rows : List Row} (v : GInv hops g rows) (r : Row) : GInv hops (addTo (touch g r.net) r.net (offD hops r)) (rows ++ [r]) where
  nd := by
    rw [addTo_keys, touch_keys]
    split
    · exact v.nd
    · rename_i h
      refine List.nodup_append.mpr ⟨v.nd, by simp, fun a ha b hb e => ?_⟩
      simp at hb
      exact h (hb ▸ e ▸ ha)
  val := fun p hp => by
    unfold addTo at hp
    obtain ⟨q, hq, rfl⟩ := List.mem_map.mp hp
    have hq' : q ∈ g ∨ (q = (r.net, []) ∧ r.net ∉ g.map (·.1)) := by
      unfold touch at hq
      split at hq
      · exact .inl hq
      · rename_i h
        rcases List.mem_append.mp hq with hq | hq
        · exact .inl hq
        · simp at hq; exact .inr ⟨hq, h⟩
    rcases hq' with hq' | ⟨rfl, h⟩
    · have e := v.val q hq'
      by_cases hk : q.1 = r.net
      · rw [if_pos hk]
        show q.2 ++ [offD hops r] = (ofNet q.1 (rows ++ [r])).map (offD hops)
        rw [ofNet_snoc, if_pos hk.symm, e, List.map_append]; rfl
      · rw [if_neg hk, ofNet_snoc, if_neg (fun e => hk e.symm), e, List.append_nil]
    · have hn : ofNet r.net rows = [] := ofNet_nil fun x hx e => h ((v.mem _).mpr ⟨x, hx, e⟩)
      simp only [if_true]
      rw [ofNet_snoc, if_pos rfl, hn]; rfl
  mem := fun k => by
    rw [addTo_keys, touch_keys]
    have := v.mem k
    split
    · rename_i h
      rw [this]
      constructor
      · rintro ⟨x, hx, e⟩; exact ⟨x, List.mem_append_left _ hx, e⟩
      · rintro ⟨x, hx, e⟩
        rcases List.mem_append.mp hx with hx | hx
        · exact ⟨x, hx, e⟩
        · simp at hx; subst hx; subst e; exact (v.mem _).mp h
    · rename_i h
      rw [List.mem_append, this]
      constructor
      · rintro (⟨x, hx, e⟩ | e)
        · exact ⟨x, List.mem_append_left _ hx, e⟩
        · simp at e; exact ⟨r, by simp, e.symm⟩
      · rintro ⟨x, hx, e⟩
        rcases List.mem_append.mp hx with hx | hx
        · exact .inl ⟨x, hx, e⟩
        · simp at hx; subst hx; exact .inr (by simp [e])
  len := by
    have h1 : (addTo (touch g r.net) r.net (offD hops r)).length = (touch g r.net).length := by unfold addTo; simp
    have h2 : (touch g r.net).length ≤ g.length + 1 := by unfold touch; split <;> simp
    have := v.len
    simp only [List.length_append, List.length_cons, List.length_nil]
    omega
theorem ginv_go {hops : List (List Int)} : ∀ (rest rows : List Row) (g : List (Int × List D)), GInv hops g rows → GInv hops (rest.foldl (fun g r => addTo (touch g r.net) r.net (offD hops r)) g) (rows ++ rest)
  | [], rows, g, v => by simpa using v
  | r :: rest, rows, g, v => by
    have := ginv_go rest (rows ++ [r]) _ (ginv_step v r)
    rw [List.append_assoc] at this
    exact this
theorem ginv (hops : List (List Int)) (rows : List Row) : GInv hops (grp hops rows) rows := by
  have := ginv_go (hops := hops) rows [] [] ⟨by simp, by simp, by simp, by simp⟩
  exact this
theorem atI_grp : ∀ {g : List (Int × List D)} {p : Int × List D}, (g.map (·.1)).Nodup → p ∈ g → atI (g.map (·.1)) (g.map fun p => .lst p.2) p.1 = some (.lst p.2)
  | q :: g, p, nd, hp => by
    simp only [List.map_cons, List.nodup_cons] at nd
    simp only [List.map_cons, atI]
    rcases List.mem_cons.mp hp with rfl | hp
    · simp
    · have : q.1 ≠ p.1 := fun e => nd.1 (e ▸ List.mem_map.mpr ⟨p, hp, rfl⟩)
      rw [if_neg this]
      exact atI_grp nd.2 hp
  | [], p, _, hp => by cases hp
theorem atI_net {hops : List (List Int)} {rows : List Row} {k : Int} (hk : k ∈ (grp hops rows).map (·.1)) :
    atI ((grp hops rows).map (·.1)) ((grp hops rows).map fun p => .lst p.2) k = some (.lst ((ofNet k rows).map (offD hops))) ∧ ofNet k rows ≠ [] := by
  have v := ginv hops rows
  obtain ⟨p, hp, rfl⟩ := List.mem_map.mp hk
  refine ⟨by rw [atI_grp v.nd hp, v.val p hp], fun e => ?_⟩
  obtain ⟨r, hr, e2⟩ := (v.mem _).mp hk
  have : r ∈ ofNet p.1 rows := by unfold ofNet; exact List.mem_filter.mpr ⟨hr, by simpa using e2⟩
  rw [e] at this; cases this

/-- what the law expects for a net -/
def leastOf (rs : List Row) : List Int := match rs.map offP with
  | [] => []
  | p :: ps => minT p ps
def toldL (hops : List (List Int)) (rs : List Row) : List (List Int) := firsts (srt ((rs.filter fun r => decide (offP r = leastOf rs)).flatMap (offWay hops)))
def dueOf (hops : List (List Int)) (k : Int) (rs : List Row) : D :=
  if (leastOf rs).getD 0 0 = 1 then .tup [.tup ([k, 2].map .int), .str "ext2", .int 2, .int ((leastOf rs).getD 1 0), .int 0, .tup (tups (toldL hops rs))]
  else .tup [.tup ([k, 2].map .int), .str "ext1", .int ((leastOf rs).getD 1 0), .int 0, .int 0, .tup (tups (toldL hops rs))]
theorem minT_mem : ∀ (ps : List (List Int)) (p : List Int), minT p ps ∈ p :: ps
  | [], p => by simp [minT]
  | q :: ps, p => by
    have := minT_mem ps (if lexLt q p then q else p)
    unfold minT at this ⊢
    rw [List.foldl_cons]
    rcases List.mem_cons.mp this with h | h
    · rw [h]; split <;> simp
    · exact List.mem_cons_of_mem _ (List.mem_cons_of_mem _ h)
theorem minT_le : ∀ (ps : List (List Int)) (p : List Int), ∀ x ∈ p :: ps, lexLt x (minT p ps) = false
  | [], p, x, hx => by simp at hx; subst hx; simp [minT, lexLt_irrefl]
  | q :: ps, p, x, hx => by
    have ih := minT_le ps (if lexLt q p then q else p)
    have e : minT p (q :: ps) = minT (if lexLt q p then q else p) ps := by unfold minT; rw [List.foldl_cons]
    rw [e]
    have h0 := ih _ List.mem_cons_self
    rcases List.mem_cons.mp hx with rfl | hx
    · split at h0
      · rename_i h
        rw [if_pos h]
        exact lexLt_weak _ _ _ h0 (lexLt_asym _ _ h)
      · rename_i h
        rw [if_neg h]; exact h0
    · rcases List.mem_cons.mp hx with rfl | hx
      · split at h0
        · rename_i h; rw [if_pos h]; exact h0
        · rename_i h
          rw [if_neg h]
          exact lexLt_weak _ _ _ h0 (by simpa using h)
      · exact ih _ (List.mem_cons_of_mem _ hx)
theorem leastOf_mem {rs : List Row} (h : rs ≠ []) : ∃ r ∈ rs, offP r = leastOf rs := by
  cases rs with
  | nil => exact absurd rfl h
  | cons r rs =>
    have := minT_mem (rs.map offP) (offP r)
    obtain ⟨x, hx, e⟩ := List.mem_map.mp (show minT (offP r) (rs.map offP) ∈ (r :: rs).map offP from this)
    exact ⟨x, hx, e⟩
theorem leastOf_le {rs : List Row} {r : Row} (hr : r ∈ rs) : lexLt (offP r) (leastOf rs) = false := by
  cases rs with
  | nil => cases hr
  | cons q rs => exact minT_le (rs.map offP) (offP q) (offP r) (show offP r ∈ (q :: rs).map offP from List.mem_map.mpr ⟨r, hr, rfl⟩)
theorem offP_two (r : Row) : (offP r).length = 2 := by unfold offP; split <;> rfl
end Mine

end
-- part CD
section
open PySem PySem.W PyProof.Rows PySem.Calls PySem.Spec
set_option maxRecDepth 100000
set_option maxHeartbeats 1000000
set_option linter.unusedVariables false
namespace Mine

section
variable {W : Wd} {n : Nat} {cenv : Env} {Z F : Addr → Prop} {U : HP (fun b => ¬ F b)} {ρ0 : Env1} {target target2 iter2 elt : Expr} {ifs : List Expr}
theorem cturns_id (b : ∀ ρ d, ∃ ρ1, BindL cenv target2 d ρ ρ1 ∧ ∀ X, Ev W n cenv X Z U ρ1 elt d U) : ∀ (ds : List D) (ρ : Env1), CTurns W n cenv Z F target2 [] elt ρ0 ρ U ds ds U
  | [], ρ => .nil
  | d :: ds, ρ => by
    obtain ⟨ρ1, h1, h2⟩ := b ρ d
    exact .keep h1 .none h2 (cturns_id b ds ρ0)
theorem cturns2_of {α : Type} (dat : α → D) (res : α → List D) : ∀ (xs : List α), (∀ x ∈ xs, (∃ ρ1 ds2, BindL cenv target (dat x) ρ0 ρ1 ∧ CTest W n cenv Z F ifs ρ1 U true U ∧ (∀ X, EvIt W n cenv X Z U ρ1 target2 iter2 ds2 U) ∧ CTurns W n cenv Z F target2 [] elt ρ0 ρ1 U ds2 (res x) U) ∨
      (∃ ρ1, res x = [] ∧ BindL cenv target (dat x) ρ0 ρ1 ∧ CTest W n cenv Z F ifs ρ1 U false U)) → CTurns2 W n cenv Z F target ifs target2 iter2 elt ρ0 ρ0 U (xs.map dat) (xs.flatMap res) U
  | [], _ => .nil
  | x :: xs, h => by
    have ih := cturns2_of dat res xs fun y hy => h y (List.mem_cons_of_mem _ hy)
    rw [List.map_cons, List.flatMap_cons]
    rcases h x List.mem_cons_self with ⟨ρ1, ds2, h1, h2, h3, h4⟩ | ⟨ρ1, h0, h1, h2⟩
    · exact .keep h1 h2 h3 h4 ih
    · rw [h0]; exact .skip h1 h2 ih
end
theorem foldl_snoc {α β : Type} (f : α → β) : ∀ (xs : List α) (acc : List β), xs.foldl (fun a x => a ++ [f x]) acc = acc ++ xs.map f
  | [], acc => by simp
  | x :: xs, acc => by rw [List.foldl_cons, foldl_snoc f xs]; simp
theorem told_flat (hops : List (List Int)) (l : List Int) (rs : List Row) : tups ((rs.filter fun r => decide (offP r = l)).flatMap (offWay hops)) = rs.flatMap fun r => if offP r = l then tups (offWay hops r) else [] := by
  induction rs with
  | nil => rfl
  | cons r rs ih =>
    rw [List.filter_cons, List.flatMap_cons, ← ih]
    by_cases h : offP r = l <;> simp [h]
theorem offWay_len {hops : List (List Int)} (h4 : hops.length ≤ 4) (r : Row) : (offWay hops r).length ≤ 4 := by
  unfold offWay fwdMap
  split
  · simpa using h4
  · simp
theorem offWay_two (hops : List (List Int)) (r : Row) : ∀ x ∈ offWay hops r, x.length = 2 := fun x hx => by
  unfold offWay fwdMap at hx
  split at hx
  · obtain ⟨y, _, rfl⟩ := List.mem_map.mp hx; rfl
  · simp at hx; subst hx; rfl
theorem toldPre_len {hops : List (List Int)} (h4 : hops.length ≤ 4) (p : Row → Bool) : ∀ rs : List Row, ((rs.filter p).flatMap (offWay hops)).length ≤ 4 * rs.length
  | [] => by simp
  | r :: rs => by
    have ih := toldPre_len h4 p rs
    have := offWay_len h4 r
    rw [List.filter_cons]
    split
    · rw [List.flatMap_cons, List.length_append, List.length_cons]; omega
    · rw [List.length_cons]; omega

abbrev rho5 (sc : List Int) (hops : List (List Int)) (Du Of R B : Addr) : Env1 :=
  ("outward", leadD) :: ("table", tabD hops) :: ("hops", .tup (tups hops)) :: ("menu", .lst (tups menuL)) :: ("due", .ptr Du) :: ("offers", .ptr Of) :: ("rows", .ptr R) :: ("box", .ptr B) :: [("script", .lst (sc.map .int))]

theorem flats_of : ∀ {ds : List D}, (∀ d ∈ ds, d.flat = true) → D.flats ds = true
  | [], _ => rfl
  | d :: ds, h => by
    simp only [D.flats, Bool.and_eq_true]
    exact ⟨h d List.mem_cons_self, flats_of fun x hx => h x (List.mem_cons_of_mem _ hx)⟩
theorem due_flat (hops : List (List Int)) (k : Int) (rs : List Row) : (dueOf hops k rs).flat = true := by
  unfold dueOf
  split <;> simp [D.flat, D.flats, flats_tups]
theorem deps_of {n : Nat} : ∀ {ds : List D}, (∀ d ∈ ds, d.dep ≤ n) → D.deps ds ≤ n
  | [], _ => by simp [D.deps]
  | d :: ds, h => by
    have h1 := h d List.mem_cons_self
    have h2 := deps_of (n := n) (ds := ds) fun x hx => h x (List.mem_cons_of_mem _ hx)
    simp only [D.deps]; omega
theorem deps_ints (xs : List Int) : D.deps (xs.map .int) ≤ 1 := deps_of fun d hd => by obtain ⟨x, _, rfl⟩ := List.mem_map.mp hd; simp [D.dep]
theorem deps_tups (xs : List (List Int)) : D.deps (tups xs) ≤ 3 := deps_of fun d hd => by
  obtain ⟨x, _, rfl⟩ := List.mem_map.mp hd
  have := deps_ints x
  simp only [D.dep]; omega
theorem due_dep (hops : List (List Int)) (k : Int) (rs : List Row) : (dueOf hops k rs).dep ≤ 10 := by
  have := deps_tups (toldL hops rs)
  unfold dueOf
  split <;> simp [D.dep, D.deps] <;> omega
end Mine

end
-- part CE
section
open PySem PySem.W PyProof.Rows PySem.Calls PySem.Spec
set_option maxRecDepth 100000
set_option maxHeartbeats 1000000
set_option linter.unusedVariables false
namespace Mine

theorem least_pair {rs : List Row} (h : rs ≠ []) : ∃ a b, leastOf rs = [a, b] := by
  obtain ⟨r, _, e⟩ := leastOf_mem h
  rw [← e]
  unfold offP
  split <;> exact ⟨_, _, rfl⟩

theorem tail6 {W : Wd} (g : Good W) {n : Nat} {L aa : Addr} {cd : Value} {Du Of R B Lr : Addr} {ns : List Int} {sc : List Int} {hops : List (List Int)} {rows : List Row} {j : Nat} (h2 : ∀ x ∈ hops, x.length = 2) (h4 : hops.length ≤ 4) (h0 : hops ≠ []) (hr : ∀ r ∈ rows, r.Ok) (hn : rows.length ≤ 3)
    (pure : routesD (rows.foldl (Bst.step hops) ⟨[], []⟩) = (srtI ((grp hops rows).map (·.1))).map fun k => dueOf hops k (ofNet k rows)) :
    Ex W (n + 7) (envL L aa cd) (fun b => b = B) (LT W _ Du Of R B Lr ns [] (grp hops rows) (rows.map rowD) j) (rho5 sc hops Du Of R B) ((dd 17).body.drop 6) (.ret (.bool true)) TT.tt := by
  have gl := (ginv hops rows).len
  refine ex_freeze (x := "offers") (O1 := [(Du, .list [])]) (O2 := [(R, .list (rows.map rowD)), (B, .box Lr ns ((j : Nat) : Int))]) rfl (by simp [OD.noGroup]) (fun b z => by simp [show b = B from z]) ?_
  refine ex_freeze (x := "rows") (O1 := [(Du, .list [])]) (O2 := [(B, .box Lr ns ((j : Nat) : Int))]) rfl (by simp [OD.noGroup]) (fun b z => by simp [show b = B from z]) ?_
  refine ex_cons (ex1_for (T1 := own W [(Du, .list []), (B, .box Lr ns ((j : Nat) : Int))]) (ds := (srtI ((grp hops rows).map (·.1))).map .int) (fun S => evit_lst (ev_callB (evs_cons ev_name evs_nil) (on_sorted_idict (by simp; omega)) (g.fr _ (by decide)) rfl))
    (turns_fold (fun i => D.int i) (fun du k => du ++ [dueOf hops k (ofNet k rows)]) (fun du => own W [(Du, .list du), (B, .box Lr ns ((j : Nat) : Int))]) (fun du rest => du.length + rest.length ≤ 10 ∧ ∀ k ∈ rest, k ∈ (grp hops rows).map (·.1)) ?_ ?_ (srtI ((grp hops rows).map (·.1))) [] ⟨?_, ?_⟩)) ?_
  · rintro du k rest ⟨h1, h3⟩
    exact ⟨by simp at h1 ⊢; omega, fun x hx => h3 x (List.mem_cons_of_mem _ hx)⟩
  · rintro du k rest ⟨h1, h3⟩
    obtain ⟨hat, hne⟩ := atI_net (h3 k List.mem_cons_self)
    have hle : (ofNet k rows).length ≤ 3 := Nat.le_trans (List.length_filter_le _ _) hn
    generalize hrs : ofNet k rows = rs at hat hne hle ⊢
    obtain ⟨a, b, hab⟩ := least_pair hne
    refine ⟨_, .name (.inl rfl), ?_⟩
    refine xcons (xassign (d := .tup ([a, b].map .int)) (fun S => ev_z0 (ev_callB (id := "min") (ds := [.lst (tups (rs.map offP))]) (evs_cons (ev_compP (ρ0 := []) (ds := rs.map (offD hops)) (es := tups (rs.map offP)) (evit_lst (ev_sub ev_name ev_name (sb_idict hat))) (cl := []) (by rfl) FreeOk.nil (hcl_of rfl) fun C => cloop_one ?_ (by simp; omega)) evs_nil) ?_ (g.fr _ (by decide)) rfl)) (.inr rfl)) ?_
    · refine cturns_of rs (fun _ r => offD hops r) (fun _ r => [.tup ((offP r).map .int)]) (mapPre_map _ _ []) ((flatPre_map (fun r => .tup ((offP r).map .int)) rs []).trans (by simp)) fun pre x rest _ => ?_
      exact .inl ⟨_, _, rfl, .tup (xs := ["place", "way"]) (.cons rfl rfl (.cons rfl rfl .nil)) rfl rfl rfl, .none, fun X => ev_name⟩
    · rw [← hab]
      cases rs with
      | nil => exact absurd rfl hne
      | cons q qs => exact on_min
    have tl : ((rs.filter fun r => decide (offP r = [a, b])).flatMap (offWay hops)).length ≤ 12 := Nat.le_trans (toldPre_len h4 _ rs) (by omega)
    refine xcons (xassign (d := .tup (tups (toldL hops rs))) (fun S => ev_z0 (ev_callF (di := dd 16) (g.defs ▸ in16) rfl (ds := [.lst (tups ((rs.filter fun r => decide (offP r = [a, b])).flatMap (offWay hops)))]) (evs_cons (ev_compP (ρ0 := [("least", .tup ([a, b].map .int))]) (ds := rs.map (offD hops)) (evit_lst (ev_sub ev_name ev_name (sb_idict hat))) (cl := [("least", L + 4)]) (by rfl) (FreeOk.cons FreeOk.nil rfl (.inl rfl) rfl fun C => .inl rfl) (hcl_of rfl) fun C => cloop_two ?_ (by simp only [List.length_map]; omega)) evs_nil) (by unfold toldL; rw [hab]; exact fn_once g (fun x hx => by obtain ⟨r, _, hx⟩ := List.mem_flatMap.mp hx; exact offWay_two hops r x hx) (by omega))))) ?_
    · rw [told_flat]
      refine cturns2_of (offD hops) (fun r => if offP r = [a, b] then tups (offWay hops r) else []) rs fun r _ => ?_
      by_cases hp : offP r = [a, b]
      · refine .inl ⟨_, tups (offWay hops r), .tup (xs := ["place", "way"]) (.cons rfl rfl (.cons rfl rfl .nil)) rfl rfl rfl, .one fun X => tv_cmp ev_name ev_name (op_teqb (by simp [hp])), fun X => evit_lst ev_name, ?_⟩
        rw [if_pos hp]
        exact cturns_id (fun ρ d => ⟨_, .name rfl, fun X => ev_name⟩) _ _
      · exact .inr ⟨_, if_neg hp, .tup (xs := ["place", "way"]) (.cons rfl rfl (.cons rfl rfl .nil)) rfl rfl rfl, .one fun X => tv_cmp ev_name ev_name (op_teqb (by simp [hp]))⟩
    refine ex_last (less_cons rfl (less_cons rfl (less_cons rfl (less_refl _)))) ?_
    refine ex1_append (O1 := []) (O2 := [(B, .box Lr ns ((j : Nat) : Int))]) rfl (fun S => ev_z0 ?_) (by simp at h1; omega)
    unfold dueOf
    rw [hab]
    by_cases ha : a = 1
    · rw [if_pos (by simpa using ha)]
      exact ev_if_t (tv_cmp (ev_sub ev_name ev_int (sb_tup (i := 0))) ev_int ((show (a == 1) = true by simpa using ha) ▸ op_eq)) (ev_tup (evs_cons (ev_tup (evs_cons ev_name (evs_cons ev_int evs_nil))) (evs_cons ev_str (evs_cons ev_int (evs_cons (ev_sub ev_name ev_int (sb_tup (i := 1))) (evs_cons ev_int (evs_cons ev_name evs_nil)))))))
    · rw [if_neg (by simpa using ha)]
      exact ev_if_f (tv_cmp (ev_sub ev_name ev_int (sb_tup (i := 0))) ev_int ((show (a == 1) = false by simpa using ha) ▸ op_eq)) (ev_tup (evs_cons (ev_tup (evs_cons ev_name (evs_cons ev_int evs_nil))) (evs_cons ev_str (evs_cons (ev_sub ev_name ev_int (sb_tup (i := 1))) (evs_cons ev_int (evs_cons ev_int (evs_cons ev_name evs_nil)))))))
  · show 0 + (srtI ((grp hops rows).map (·.1))).length ≤ 10
    rw [(srt_perm (lt := fun (a b : Int) => decide (a < b)) ((grp hops rows).map (·.1))).length_eq, List.length_map]
    omega
  · exact fun k hk => (srt_perm _).mem_iff.mp hk
  · rw [foldl_snoc (fun k => dueOf hops k (ofNet k rows)), List.nil_append]
    refine ex_freeze (x := "due") (O1 := []) (O2 := [(B, .box Lr ns ((j : Nat) : Int))]) rfl (by simp [OD.noGroup]) (fun b z => by simp [show b = B from z]) ?_
    have fl : D.flats ((srtI ((grp hops rows).map (·.1))).map fun k => dueOf hops k (ofNet k rows)) = true := flats_of fun d hd => by obtain ⟨k, _, rfl⟩ := List.mem_map.mp hd; exact due_flat _ _ _
    have dp : D.deps ((srtI ((grp hops rows).map (·.1))).map fun k => dueOf hops k (ofNet k rows)) ≤ 10 := deps_of fun d hd => by obtain ⟨k, _, rfl⟩ := List.mem_map.mp hd; exact due_dep _ _ _
    have fr := fn_routes g (n := n + 2) h2 h4 h0 hr hn
    rw [pure] at fr
    exact ex_ret (ex1_return fun S => ev_wk (ev_cmp (ev_callF (di := dd 12) (g.defs ▸ in12) rfl (evs_cons ev_name (evs_cons ev_int (evs_cons ev_name (evs_cons ev_name (evs_cons ev_int evs_nil))))) fr) ev_name (op_eqL fl (by omega))))
end Mine

end
-- part CF
section
open PySem PySem.W PyProof.Rows PySem.Calls PySem.Spec
set_option maxRecDepth 100000
set_option maxHeartbeats 1000000
set_option linter.unusedVariables false
namespace Mine

def fwdAt (i : Int) : Int := ([17, 18, 19, 0] : List Int).getD i.toNat 0
def rowAt (ns : List Int) (j : Nat) : Row := ⟨draw ns j 2 == 1, 3 + draw ns (j + 1) 2, fwdAt (draw ns (j + 2) 4), 8 * draw ns (j + 3) 2, 1 + draw ns (j + 4) 2⟩
theorem fwd_get {i : Int} (h0 : 0 ≤ i) (h1 : i < 4) : ([.int 17, .int 18, .int 19, .int 0] : List D)[i.toNat]? = some (.int (fwdAt i)) := by
  have : i.toNat < 4 := by omega
  obtain ⟨k, hk⟩ : ∃ k : Nat, i.toNat = k := ⟨_, rfl⟩
  unfold fwdAt
  rw [hk] at this ⊢
  match k, this with
  | 0, _ => rfl
  | 1, _ => rfl
  | 2, _ => rfl
  | 3, _ => rfl
theorem fwd_in (i : Int) : fwdAt i = 17 ∨ fwdAt i = 18 ∨ fwdAt i = 19 ∨ fwdAt i = 0 := by
  unfold fwdAt
  obtain ⟨k, hk⟩ : ∃ k : Nat, i.toNat = k := ⟨_, rfl⟩
  rw [hk]
  match k with
  | 0 => simp
  | 1 => simp
  | 2 => simp
  | 3 => simp
  | k + 4 => simp
theorem rowAt_ok (ns : List Int) (j : Nat) : (rowAt ns j).Ok where
  m := by have := (draw_bd (ns := ns) (j := j + 1) (many := 2) (by decide)).2; show 3 + _ < (100 : Int); omega
  f := by
    show fwdAt _ = 0 ∨ (fwdAt _ ≠ 0 ∧ _)
    rcases fwd_in (draw ns (j + 2) 4) with h | h | h | h
    · exact .inr ⟨by rw [h]; decide, by show Builtin.bitAnd (fwdAt _) 24 = 16; rw [h]; decide⟩
    · exact .inr ⟨by rw [h]; decide, by show Builtin.bitAnd (fwdAt _) 24 = 16; rw [h]; decide⟩
    · exact .inr ⟨by rw [h]; decide, by show Builtin.bitAnd (fwdAt _) 24 = 16; rw [h]; decide⟩
    · exact .inl h
  net := by
    have b := draw_bd (ns := ns) (j := j + 3) (many := 2) (by decide)
    show Builtin.bitAnd (8 * _) 24 = 8 * _
    have : draw ns (j + 3) 2 = 0 ∨ draw ns (j + 3) 2 = 1 := by omega
    rcases this with h | h <;> rw [h] <;> decide
  snd := by
    have b := draw_bd (ns := ns) (j := j + 4) (many := 2) (by decide)
    show 1 + _ = (1 : Int) ∨ 1 + _ = (2 : Int)
    omega
theorem rowAt_f (ns : List Int) (j : Nat) : 0 ≤ (rowAt ns j).f := by
  show 0 ≤ fwdAt _
  rcases fwd_in (draw ns (j + 2) 4) with h | h | h | h <;> rw [h] <;> decide
def upI (a : Int) : Nat → List Int
  | 0 => []
  | n + 1 => a :: upI (a + 1) n
theorem runs_upI : ∀ (n : Nat) (a : Int), runs a 1 n = (upI a n).map .int
  | 0, _ => rfl
  | n + 1, a => by simp [runs, upI, runs_upI n (a + 1)]
theorem upI_len : ∀ (n : Nat) (a : Int), (upI a n).length = n
  | 0, _ => rfl
  | n + 1, a => by simp [upI, upI_len n (a + 1)]
theorem fold_inv {α σ : Type} (stp : σ → α → σ) (I : σ → List α → Prop) (hI : ∀ s x rest, I s (x :: rest) → I (stp s x) rest) : ∀ xs s, I s xs → I (xs.foldl stp s) []
  | [], s, h => h
  | x :: xs, s, h => fold_inv stp I hI xs _ (hI s x xs h)
/-- facts of the hops -/
structure Hops (hops : List (List Int)) : Prop where
  two : ∀ x ∈ hops, x.length = 2
  adr : ∀ x ∈ hops, x.getD 1 0 = 0 ∨ 0 < x.getD 1 0
  four : hops.length ≤ 4
  some : hops ≠ []
/-- facts of the rows -/
def RowsOk (rows : List Row) : Prop := ∀ r ∈ rows, r.Ok ∧ 0 ≤ r.f

abbrev stepR (ns : List Int) (s : Nat × List Row) (_ : Int) : Nat × List Row := (s.1 + 5, s.2 ++ [rowAt ns s.1])
theorem grp_small {hops : List (List Int)} {rows : List Row} (hn : rows.length ≤ 3) : (grp hops rows).length ≤ 1000 ∧ ∀ p ∈ grp hops rows, p.2.length ≤ 1000 := by
  have v := ginv hops rows
  refine ⟨by have := v.len; omega, fun p hp => ?_⟩
  rw [v.val p hp, List.length_map]
  have : (ofNet p.1 rows).length ≤ rows.length := List.length_filter_le _ _
  omega

theorem tail5 {W : Wd} (g : Good W) {n : Nat} {L aa : Addr} {cd : Value} {Du Of R B Lr : Addr} {ns : List Int} {sc : List Int} {hops : List (List Int)} {j : Nat} (hns : ns.length ≤ 24) (hj : j ≤ 10) (hh : Hops hops)
    (pure : ∀ rows : List Row, RowsOk rows → rows.length ≤ 3 → routesD (rows.foldl (Bst.step hops) ⟨[], []⟩) = (srtI ((grp hops rows).map (·.1))).map fun k => dueOf hops k (ofNet k rows)) :
    Ex W (n + 7) (envL L aa cd) (fun b => b = B) (LT W _ Du Of R B Lr ns [] [] [] j) (rho5 sc hops Du Of R B) ((dd 17).body.drop 5) (.ret (.bool true)) TT.tt := by
  obtain ⟨b0, b1⟩ := draw_bd (ns := ns) (j := j) (many := 3) (by decide)
  obtain ⟨m, hm⟩ : ∃ m : Nat, (m : Int) = 1 + draw ns j 3 := ⟨(1 + draw ns j 3).toNat, by omega⟩
  have hm3 : m ≤ 3 := by omega
  have hI : ∀ (s : Nat × List Row) (x : Int) (rest : List Int), (s.1 + 5 * (x :: rest).length ≤ 50 ∧ s.2.length + (x :: rest).length ≤ 3 ∧ RowsOk s.2) → ((stepR ns s x).1 + 5 * rest.length ≤ 50 ∧ (stepR ns s x).2.length + rest.length ≤ 3 ∧ RowsOk (stepR ns s x).2) := by
    rintro ⟨i, rows⟩ x rest ⟨h1, h2, h3⟩
    refine ⟨by simp at h1 ⊢; omega, by simp at h2 ⊢; omega, fun r hr => ?_⟩
    rcases List.mem_append.mp hr with hr | hr
    · exact h3 r hr
    · simp at hr; subst hr; exact ⟨rowAt_ok ns i, rowAt_f ns i⟩
  have hI0 : ((j + 1, []) : Nat × List Row).1 + 5 * (upI 0 m).length ≤ 50 ∧ ((j + 1, []) : Nat × List Row).2.length + (upI 0 m).length ≤ 3 ∧ RowsOk ((j + 1, []) : Nat × List Row).2 :=
    ⟨by rw [upI_len]; show j + 1 + 5 * m ≤ 50; omega, by rw [upI_len]; simpa using hm3, fun r hr => by cases hr⟩
  refine ex_cons (ex1_for (T1 := LT W _ Du Of R B Lr ns [] [] [] (j + 1)) (ds := (upI 0 m).map .int) (fun S => runs_upI m 0 ▸ evit_range (m := m) (evs_cons (ev_to (ev_bin ev_int (tk g j 3 hns (by omega) (by decide) rfl) op_add) (by rw [hm])) evs_nil) (g.fr _ (by decide)) (by omega))
    (turns_fold (fun i => D.int i) (stepR ns) (fun s => LT W _ Du Of R B Lr ns [] (grp hops s.2) (s.2.map rowD) s.1) (fun s rest => s.1 + 5 * rest.length ≤ 50 ∧ s.2.length + rest.length ≤ 3 ∧ RowsOk s.2) hI ?_ (upI 0 m) (j + 1, []) hI0)) ?_
  · rintro ⟨i, rows⟩ x rest ⟨h1, h2, h3⟩
    simp only [List.length_cons] at h1 h2
    have rok := rowAt_ok ns i
    have rf := rowAt_f ns i
    obtain ⟨gs1, gs2⟩ := grp_small (hops := hops) (rows := rows) (by omega)
    have a2 := draw_bd (ns := ns) (j := i + 2) (many := 4) (by decide)
    show ∃ ρ0, _ ∧ Ex _ _ _ _ _ _ _ _ (LT W _ Du Of R B Lr ns [] (grp hops (rows ++ [rowAt ns i])) ((rows ++ [rowAt ns i]).map rowD) (i + 5))
    rw [grp_snoc, List.map_append]
    refine ⟨_, .name (.inl rfl), ?_⟩
    refine ex_cons (ex1_unpack (T1 := LT W _ Du Of R B Lr ns [] (grp hops rows) (rows.map rowD) (i + 3)) ["is_far", "metric", "forward"] (ds := [.bool (rowAt ns i).far, .int (rowAt ns i).m, .int (rowAt ns i).f]) (fun S => ev_tup (evs_cons (ev_cmp (tk g i 2 hns (by omega) (by decide) rfl) ev_int op_eq) (evs_cons (ev_bin ev_int (tk g (i + 1) 2 hns (by omega) (by decide) rfl) op_add) (evs_cons (ev_sub (ev_lst (evs_cons ev_int (evs_cons ev_int (evs_cons ev_int (evs_cons ev_int evs_nil))))) (tk g (i + 2) 4 hns (by omega) (by decide) rfl) (sb_lst a2.1 (by omega) (fwd_get a2.1 a2.2))) evs_nil)))) (.cons rfl (.inl rfl) (.cons rfl (.inl rfl) (.cons rfl (.inr rfl) .nil)))) ?_
    refine ex_cons (ex1_swap2 (T1 := LT W _ Du Of R B Lr ns [] (grp hops rows) (rows.map rowD) (i + 5)) "net" "sender" (d1 := .int (rowAt ns i).net) (d2 := .int (rowAt ns i).snd) (fun S => ev_tup (evs_cons (ev_bin ev_int (tk g (i + 3) 2 hns (by omega) (by decide) rfl) (op_mul (IntMulOk.of_left (by decide)))) (evs_cons (ev_bin ev_int (tk g (i + 4) 2 hns (by omega) (by decide) rfl) op_add) evs_nil))) rfl rfl) ?_
    generalize rowAt ns i = r at rok rf ⊢
    refine ex_cons (ex1_append (O1 := [(Du, .list []), (Of, .group (grp hops rows))]) (O2 := [(B, .box Lr ns ((i + 5 : Nat) : Int))]) (d := rowD r) rfl (fun S => ev_tup (evs_cons (ev_tup (evs_cons ev_int (evs_cons ev_int (evs_cons ev_int (evs_cons ev_name (evs_cons ev_name (evs_cons ev_int (evs_cons ev_int evs_nil)))))))) (evs_cons (ev_tup (evs_cons ev_str (evs_cons ev_int (evs_cons ev_name (evs_cons ev_name (evs_cons ev_name (evs_cons ev_int evs_nil))))))) evs_nil))) (by simp; omega)) ?_
    have wl : (tups (offWay hops r)).length ≤ 1000 := by have := offWay_len hh.four r; simp only [List.length_map]; omega
    refine xcons (xassign (d := .lst (tups (offWay hops r))) (fun S => ev_z0 ?_)) ?_
    · unfold offWay
      by_cases hf : 0 < r.f
      · rw [if_pos hf]
        refine ev_if_t (tv_cmp ev_name ev_int ((show decide (0 < r.f) = true by simpa using hf) ▸ op_gt)) (ev_compP (ρ0 := [("forward", .int r.f)]) (ds := tups hops) (es := tups (fwdMap r.f hops)) (evit_tup ev_name) (cl := [("forward", L + 3)]) (by rfl) (FreeOk.cons FreeOk.nil rfl (.inl rfl) rfl fun C => .inl rfl) (hcl_of rfl) fun C => cloop_one ?_ (by unfold fwdMap; simp; have := hh.four; omega))
        refine cturns_of hops (fun _ x => .tup (x.map .int)) (fun _ x => [.tup ([x.getD 0 0, if x.getD 1 0 = 0 then r.f else x.getD 1 0].map .int)]) (mapPre_map _ hops []) ((flatPre_map (fun x => D.tup ([x.getD 0 0, if x.getD 1 0 = 0 then r.f else x.getD 1 0].map .int)) hops []).trans (by unfold fwdMap; simp)) fun pre x rest e => ?_
        have hx := hh.two x (by rw [e]; simp)
        have ha := hh.adr x (by rw [e]; simp)
        match x, hx with
        | [a, b], _ =>
          by_cases hb : b = 0
          · have hb' : decide (0 < b) = false := by simp [hb]
            exact .inl ⟨_, _, rfl, .tup (xs := ["number", "address"]) (.cons rfl rfl (.cons rfl rfl .nil)) rfl rfl rfl, .none, fun X => ev_to (ev_tup (evs_cons ev_name (evs_cons (ev_if_f (tv_cmp ev_name ev_int (hb' ▸ op_gt)) ev_name) evs_nil))) (by simp [hb])⟩
          · have hb' : decide (0 < b) = true := by simp at ha ⊢; omega
            exact .inl ⟨_, _, rfl, .tup (xs := ["number", "address"]) (.cons rfl rfl (.cons rfl rfl .nil)) rfl rfl rfl, .none, fun X => ev_to (ev_tup (evs_cons ev_name (evs_cons (ev_if_t (tv_cmp ev_name ev_int (hb' ▸ op_gt)) ev_name) evs_nil))) (by simp [hb])⟩
      · rw [if_neg hf]
        exact ev_if_f (tv_cmp ev_name ev_int ((show decide (0 < r.f) = false by simpa using hf) ▸ op_gt)) (ev_lst (evs_cons (ev_tup (evs_cons ev_name (evs_cons ev_int evs_nil))) evs_nil))
    refine ex_last (less_cons rfl (less_cons rfl (less_cons rfl (less_cons rfl (less_cons rfl (less_cons rfl (less_cons rfl (less_refl _)))))))) ?_
    refine ex1_setdef (x := "offers") (O1 := [(Du, .list [])]) (O2 := [(R, .list (rows.map rowD ++ [rowD r])), (B, .box Lr ns ((i + 5 : Nat) : Int))]) (d := offD hops r) rfl (by simp [OD.noGroup]) (fun b z => by simp [show b = B from z]) (fun S => ev_name) (fun S => ev_tup (evs_cons ?_ (evs_cons ev_name evs_nil))) gs1 gs2
    unfold offP
    cases hfar : r.far with
    | true => exact ev_if_t (tv_bool ev_name) (ev_tup (evs_cons ev_int (evs_cons ev_name evs_nil)))
    | false => exact ev_if_f (tv_bool ev_name) (ev_tup (evs_cons ev_int (evs_cons (ev_bin ev_int ev_name op_add) evs_nil)))
  · have fin := fold_inv (stepR ns) (fun s rest => s.1 + 5 * rest.length ≤ 50 ∧ s.2.length + rest.length ≤ 3 ∧ RowsOk s.2) hI (upI 0 m) (j + 1, []) hI0
    obtain ⟨_, f2, f3⟩ := fin
    exact tail6 g hh.two hh.four hh.some (fun r hr => (f3 r hr).1) (by simpa using f2) (pure _ f3 (by simpa using f2))
end Mine

end
-- part CG
section
open PySem PySem.W PyProof.Rows PySem.Calls PySem.Spec
set_option maxRecDepth 100000
set_option maxHeartbeats 1000000
set_option linter.unusedVariables false
namespace Mine

def PureLaw : Prop := ∀ (hops : List (List Int)) (rows : List Row), Hops hops → RowsOk rows → rows.length ≤ 3 → routesD (rows.foldl (Bst.step hops) ⟨[], []⟩) = (srtI ((grp hops rows).map (·.1))).map fun k => dueOf hops k (ofNet k rows)
theorem firstsGo_mem (x : List Int) : ∀ (rest pre : List (List Int)), x ∈ firstsGo pre rest ↔ x ∈ rest ∧ x ∉ pre
  | [], pre => by simp [firstsGo]
  | y :: rest, pre => by
    unfold firstsGo
    by_cases h : y ∈ pre
    · rw [if_pos h, firstsGo_mem x rest]; simp only [List.mem_append, List.mem_cons, List.not_mem_nil, or_false]
      constructor
      · rintro ⟨h1, h2⟩; exact ⟨.inr h1, fun h3 => h2 (.inl h3)⟩
      · rintro ⟨h1 | h1, h2⟩
        · exact absurd (h1 ▸ h) h2
        · refine ⟨h1, fun h3 => ?_⟩
          rcases h3 with h3 | h3
          · exact h2 h3
          · exact h2 (h3 ▸ h)
    · rw [if_neg h, List.mem_cons, firstsGo_mem x rest]; simp only [List.mem_append, List.mem_cons, List.not_mem_nil, or_false]
      constructor
      · rintro (rfl | ⟨h1, h2⟩)
        · exact ⟨.inl rfl, h⟩
        · exact ⟨.inr h1, fun h3 => h2 (.inl h3)⟩
      · rintro ⟨h1 | h1, h2⟩
        · exact .inl h1
        · by_cases e : x = y
          · exact .inl e
          · exact .inr ⟨h1, fun h3 => h3.elim h2 e⟩
theorem firsts_mem {x : List Int} {l : List (List Int)} : x ∈ firsts l ↔ x ∈ l := by unfold firsts; rw [firstsGo_mem]; simp
theorem firstsGo_nodup : ∀ (rest pre : List (List Int)), (firstsGo pre rest).Nodup
  | [], pre => by simp [firstsGo]
  | y :: rest, pre => by
    unfold firstsGo
    split
    · exact firstsGo_nodup rest _
    · refine List.nodup_cons.mpr ⟨fun h => ?_, firstsGo_nodup rest _⟩
      exact ((firstsGo_mem y rest _).mp h).2 (by simp)
theorem hops_ok (ns : List Int) {m : Nat} (hm1 : 1 ≤ m) (hm4 : m ≤ 4) : Hops (firsts (srt (picks ns 1 m))) where
  two := fun x hx => (picks_two ns m 1 x ((srt_perm _).mem_iff.mp (firsts_mem.mp hx))).1
  adr := fun x hx => by
    have := (picks_two ns m 1 x ((srt_perm _).mem_iff.mp (firsts_mem.mp hx))).2
    omega
  four := by
    have h1 := firstsGo_len [] (srt (picks ns 1 m))
    have h2 := (srt_perm (lt := lexLt) (picks ns 1 m)).length_eq
    rw [picks_len] at h2
    unfold firsts
    exact Nat.le_trans h1 (by rw [h2]; exact hm4)
  some := fun e => by
    match m, hm1 with
    | m + 1, _ =>
      have : menuAt (draw ns 1 6) ∈ firsts (srt (picks ns 1 (m + 1))) := firsts_mem.mpr ((srt_perm _).mem_iff.mpr (by simp [picks]))
      rw [e] at this; cases this

theorem fn_law {W : Wd} (g : Good W) (pl : PureLaw) {n : Nat} {sc : List Int} (hsc : sc.length ≤ 63) : Fn W (n + 8) (dd 17).name [.lst (sc.map .int)] (.bool true) :=
  fn_of (di := dd 17) ["script"] (g.defs ▸ in17) rfl rfl (fun pm cd doc vs hv => by obtain ⟨v0, rfl⟩ := len1 hv; rfl) (by decide) (by decide) rfl rfl rfl fun L aa cd => by
    have hns : (sc.take 24).length ≤ 24 := by rw [List.length_take]; omega
    refine ex_four (ns := sc.take 24) (xs := ["box", "rows", "offers", "due"]) (.cons rfl (.inr rfl) (.cons rfl (.inl rfl) (.cons rfl (.inl rfl) (.cons rfl (.inl rfl) .nil)))) (fun S => ev_callT (evs_cons (ev_to (ev_sub ev_name (ev_slc ev_int) (sb_lstTo (b := 24) (by simp; omega))) (by rw [← List.map_take])) evs_nil) (on_list_lst (by simp; omega)) (g.fr _ (by decide)) rfl) fun B Lr R Of Du => ?_
    generalize sc.take 24 = ns at hns ⊢
    refine xcons (xassign (d := .lst (tups menuL)) (fun S => ev_to (d := .lst menuE) (ev_lst (evs_cons (ev_tup (evs_cons ev_int (evs_cons ev_int evs_nil))) (evs_cons (ev_tup (evs_cons ev_int (evs_cons ev_int evs_nil))) (evs_cons (ev_tup (evs_cons ev_int (evs_cons ev_int evs_nil))) (evs_cons (ev_tup (evs_cons ev_int (evs_cons ev_int evs_nil))) (evs_cons (ev_tup (evs_cons ev_int (evs_cons ev_int evs_nil))) (evs_cons (ev_tup (evs_cons ev_int (evs_cons ev_int evs_nil))) evs_nil))))))) rfl) (.inr rfl)) ?_
    obtain ⟨b0, b1⟩ := draw_bd (ns := ns) (j := 0) (many := 4) (by decide)
    obtain ⟨m, hm⟩ : ∃ m : Nat, (m : Int) = 1 + draw ns 0 4 := ⟨(1 + draw ns 0 4).toNat, by omega⟩
    have hm4 : m ≤ 4 := by omega
    have hm1 : 1 ≤ m := by omega
    refine ex_cons (ex1_assign (T1 := LT W _ Du Of R B Lr ns [] [] [] (1 + m)) (d := .tup (tups (firsts (srt (picks ns 1 m))))) fun S => ev_callF (di := dd 16) (g.defs ▸ in16) rfl (evs_cons ?_ evs_nil) (fn_once g (fun x hx => (picks_two ns m 1 x hx).1) (by rw [picks_len]; omega))) ?_
    · refine ev_comp (F := fun b => b = B ∨ b = Lr) (ρ0 := [("menu", .lst (tups menuL)), ("box", .ptr B)]) (U := boxU B Lr ns 1) (U' := boxU B Lr ns (1 + m)) (es := tups (picks ns 1 m)) (T1 := (LT W _ Du Of R B Lr ns [] [] [] 1).at S) (evit_range (m := m) (evs_cons (ev_to (ev_bin ev_int (tk g 0 4 hns (by decide) (by decide) rfl) op_add) (by rw [hm])) evs_nil) (g.fr _ (by decide)) (by omega))
        (cl := [("menu", L + 2), ("box", L + 1)]) (by rfl) (fun h t => box_in (O1 := [(Du, .list []), (Of, .group []), (R, .list [])]) (O2 := []) t) (fun h t b hb => ?_) (FreeOk.cons (FreeOk.cons FreeOk.nil rfl (.inl rfl) rfl fun C => .inl rfl) rfl (.inl rfl) rfl fun C => .inl rfl) (hcl_of rfl) (fun C => cloop_one (hops_turns g hns (fun d => ⟨_, .name rfl, fun j X hj => ?_⟩) m 0 1 (by omega)) (by rw [List.length_map, picks_len]; omega)) (fun h h' t a b => box_out (O1 := [(Du, .list []), (Of, .group []), (R, .list [])]) (O2 := []) t (fun c o n e => a.keep c o n e) b)
      · obtain ⟨_, _, _, ⟨_, e1⟩, ⟨_, e2⟩, _⟩ := box_in (O1 := [(Du, .list []), (Of, .group []), (R, .list [])]) (O2 := []) t
        rcases hb with rfl | rfl
        · exact ⟨_, e1⟩
        · exact ⟨_, e2⟩
      · have b6 := draw_bd (ns := ns) (j := j) (many := 6) (by decide)
        exact ev_sub ev_name (ev_take (Z := fun b => b = B) (j := j) g (fun h t => t) (fun h h' _ _ b => b) rfl hns hj (by decide) ev_name ev_int) (sb_lst b6.1 (by omega) (menu_get b6.1 b6.2))
    · have hh : Hops (firsts (srt (picks ns 1 m))) := hops_ok ns hm1 hm4
      generalize firsts (srt (picks ns 1 m)) = hops at hh ⊢
      have hl4 := hh.four
      refine xcons (xassign (d := tabD hops) (fun S => ev_z0 (ev_tdict1 (key := [16, 2]) (d := routeOf hops) (fun X => ev_tup (evs_cons ev_int (evs_cons ev_int evs_nil))) (fun X => ev_tup (evs_cons (ev_tup (evs_cons ev_int (evs_cons ev_int evs_nil))) (evs_cons ev_str (evs_cons ev_int (evs_cons ev_int (evs_cons ev_int (evs_cons ev_name evs_nil)))))))))) ?_
      refine xcons (xassign (d := leadD) (fun S => ev_z0 (ev_callF (di := dd 14) (g.defs ▸ in14) rfl (evs_cons (ev_lst (evs_cons (ev_tup (evs_cons ev_int (evs_cons (ev_idict2 (by decide) (fun X => ev_int) (fun X => ev_tup (evs_cons ev_int (evs_cons (ev_tup (evs_cons (ev_tup (evs_cons ev_int (evs_cons ev_int evs_nil))) evs_nil)) (evs_cons ev_int evs_nil)))) (fun X => ev_int) (fun X => ev_tup (evs_cons ev_int (evs_cons (ev_tup (evs_cons (ev_tup (evs_cons ev_int (evs_cons ev_int evs_nil))) evs_nil)) (evs_cons ev_int evs_nil))))) (evs_cons ev_dict0 evs_nil)))) evs_nil)) evs_nil) (fn_ways g)))) ?_
      exact tail5 g hns (by omega) hh (fun rows h1 h2 => pl hops rows hh h1 h2)
end Mine

end
-- part P1
section
open PySem PySem.W PyProof.Rows PySem.Calls PySem.Spec
set_option maxRecDepth 100000
set_option maxHeartbeats 400000
set_option linter.unusedVariables false
namespace Mine

abbrev wr (r : Row) : List Int := worthOf r.far r.m
structure EntOk (hops : List (List Int)) (e : Ent) (rs : List Row) : Prop where
  hit : ∃ r ∈ rs, e.1 = wr r
  low : ∀ r ∈ rs, lexLt (wr r) e.1 = false
  nd : e.2.Nodup
  mem : ∀ x, x ∈ e.2 ↔ ∃ r ∈ rs, wr r = e.1 ∧ x ∈ wayOf hops r
structure BInv (hops : List (List Int)) (b : Bst) (rows : List Row) : Prop where
  len : b.ks.length = b.es.length
  nd : b.ks.Nodup
  kf : ∀ k ∈ b.ks, ∃ net, k = [net, 2]
  mem : ∀ net : Int, [net, 2] ∈ b.ks ↔ ∃ r ∈ rows, r.net = net
  val : ∀ (net : Int) e, atP b.ks b.es [net, 2] = some e → EntOk hops e (ofNet net rows)

theorem atP_none {α : Type} {x : List Int} : ∀ {ks : List (List Int)} {es : List α}, ks.length = es.length → atP ks es x = none → x ∉ ks
  | [], _, _, _ => by simp
  | k :: ks, e :: es, hl, h => by
    unfold atP at h
    split at h
    · cases h
    · rename_i hk
      simp only [List.mem_cons, not_or]
      exact ⟨fun q => hk q.symm, atP_none (by simpa using hl) h⟩
  | _ :: _, [], hl, _ => by simp at hl
theorem atP_key {α : Type} {x : List Int} {e : α} : ∀ {ks : List (List Int)} {es : List α}, atP ks es x = some e → x ∈ ks
  | [], [], h => by cases h
  | [], _ :: _, h => by cases h
  | k :: ks, d :: es, h => by
    unfold atP at h
    split at h
    · rename_i hk; rw [hk]; exact List.mem_cons_self
    · exact List.mem_cons_of_mem _ (atP_key h)
  | _ :: _, [], h => by cases h
theorem atP_rep {α : Type} {key x : List Int} {v : α} : ∀ {ks : List (List Int)} {es : List α}, ks.length = es.length → atP ks (repL ks es key v) x = if x = key ∧ key ∈ ks then some v else atP ks es x
  | [], [], _ => by simp [atP]
  | k :: ks, d :: es, hl => by
    simp only [repL, atP]
    rw [atP_rep (by simpa using hl)]
    by_cases h1 : k = x
    · subst h1
      by_cases h2 : k = key
      · subst h2; simp
      · simp [h2]
    · by_cases h2 : x = key
      · subst h2
        have : ¬ x = k := fun q => h1 q.symm
        simp [h1, this]
      · simp [h1, h2]
  | [], _ :: _, hl => by simp at hl
  | _ :: _, [], hl => by simp at hl
theorem atP_snoc {α : Type} {key x : List Int} {v : α} : ∀ {ks : List (List Int)} {es : List α}, ks.length = es.length → key ∉ ks → atP (ks ++ [key]) (es ++ [v]) x = if x = key then some v else atP ks es x
  | [], [], _, _ => by
    by_cases h : key = x
    · simp [atP, h]
    · have : ¬ x = key := fun q => h q.symm
      simp [atP, h, this]
  | k :: ks, d :: es, hl, hn => by
    simp only [List.mem_cons, not_or] at hn
    simp only [List.cons_append, atP]
    rw [atP_snoc (by simpa using hl) hn.2]
    by_cases h1 : k = x
    · subst h1
      have : ¬ k = key := fun q => hn.1 q.symm
      simp [this]
    · simp [h1]
  | [], _ :: _, hl, _ => by simp at hl
  | _ :: _, [], hl, _ => by simp at hl
theorem atP_put {b : Bst} (hl : b.ks.length = b.es.length) (key x : List Int) (e : Ent) : atP (b.put key e).ks (b.put key e).es x = if x = key then some e else atP b.ks b.es x := by
  unfold Bst.put setK setL
  by_cases h : key ∈ b.ks
  · simp only [if_pos h]
    rw [atP_rep hl]; simp [h]
  · simp only [if_neg h]
    exact atP_snoc hl h
theorem put_ks (b : Bst) (key : List Int) (e : Ent) : (b.put key e).ks = if key ∈ b.ks then b.ks else b.ks ++ [key] := rfl
theorem put_len {b : Bst} (hl : b.ks.length = b.es.length) (key : List Int) (e : Ent) : (b.put key e).ks.length = (b.put key e).es.length := by
  unfold Bst.put setK setL
  split
  · simp only; rw [repL_length hl]; exact hl
  · simp [hl]

/-- a step that puts an entry -/
theorem binv_put {hops : List (List Int)} {b : Bst} {rows : List Row} (v : BInv hops b rows) (r : Row) (e : Ent) (he : EntOk hops e (ofNet r.net rows ++ [r])) : BInv hops (b.put [r.net, 2] e) (rows ++ [r]) where
  len := put_len v.len _ _
  nd := by
    rw [put_ks]
    split
    · exact v.nd
    · rename_i h
      exact List.nodup_append.mpr ⟨v.nd, by simp, fun a ha c hc q => by simp at hc; exact h (hc ▸ q ▸ ha)⟩
  kf := fun k hk => by
    rw [put_ks] at hk
    split at hk
    · exact v.kf k hk
    · rcases List.mem_append.mp hk with hk | hk
      · exact v.kf k hk
      · simp at hk; exact ⟨_, hk⟩
  mem := fun net => by
    have := v.mem net
    have key : [net, 2] ∈ (b.put [r.net, 2] e).ks ↔ [net, 2] ∈ b.ks ∨ net = r.net := by
      rw [put_ks]
      split
      · rename_i h
        constructor
        · exact .inl
        · rintro (h' | rfl)
          · exact h'
          · exact h
      · simp
    rw [key, this]
    constructor
    · rintro (⟨x, hx, q⟩ | rfl)
      · exact ⟨x, List.mem_append_left _ hx, q⟩
      · exact ⟨r, by simp, rfl⟩
    · rintro ⟨x, hx, q⟩
      rcases List.mem_append.mp hx with hx | hx
      · exact .inl ⟨x, hx, q⟩
      · simp at hx; subst hx; exact .inr q.symm
  val := fun net e' h => by
    rw [atP_put v.len] at h
    split at h
    · rename_i q
      simp at q
      cases h
      subst q
      rw [ofNet_snoc, if_pos rfl]; exact he
    · rename_i q
      have : ¬ r.net = net := fun c => q (by rw [c])
      rw [ofNet_snoc, if_neg this, List.append_nil]
      exact v.val net e' h

theorem foldK_nodup (l : List (List Int)) : ∀ ks : List (List Int), ks.Nodup → (l.foldl setK ks).Nodup := by
  induction l with
  | nil => intro ks h; exact h
  | cons k l ih =>
    intro ks h
    rw [List.foldl_cons]
    refine ih _ ?_
    unfold setK
    split
    · exact h
    · rename_i hk
      exact List.nodup_append.mpr ⟨h, by simp, fun a ha c hc q => by simp at hc; exact hk (hc ▸ q ▸ ha)⟩
theorem wayOf_nodup (hops : List (List Int)) (r : Row) : (wayOf hops r).Nodup := by
  unfold wayOf
  split
  · simp
  · unfold wayHops
    exact (srt_perm _).nodup_iff.mpr (foldK_nodup _ _ List.nodup_nil)
theorem wayOf_mem {hops : List (List Int)} {r : Row} (h : 0 ≤ r.f) (x : List Int) : x ∈ wayOf hops r ↔ x ∈ offWay hops r := by
  unfold wayOf offWay
  by_cases h0 : r.f = 0
  · rw [if_pos h0, if_neg (by omega)]
  · rw [if_neg h0, if_pos (by omega)]
    unfold wayHops
    rw [(srt_perm _).mem_iff, foldK_mem]; simp

theorem binv_step {hops : List (List Int)} {b : Bst} {rows : List Row} (v : BInv hops b rows) (r : Row) : BInv hops (b.step hops r) (rows ++ [r]) := by
  unfold Bst.step
  split
  · rename_i h
    have hn := atP_none v.len h
    have h0 : ofNet r.net rows = [] := ofNet_nil fun x hx q => hn ((v.mem _).mpr ⟨x, hx, q⟩)
    refine binv_put v r _ ?_
    rw [h0, List.nil_append]
    exact ⟨⟨r, by simp, rfl⟩, fun x hx => by simp at hx; subst hx; exact lexLt_irrefl _, wayOf_nodup _ _, fun x => by simp⟩
  · rename_i e h
    have ok := v.val _ _ h
    split
    · rename_i hlt
      refine binv_put v r _ ⟨⟨r, by simp, rfl⟩, fun x hx => ?_, wayOf_nodup _ _, fun x => ?_⟩
      · rcases List.mem_append.mp hx with hx | hx
        · have := ok.low x hx
          cases q : lexLt (wr x) (worthOf r.far r.m) with
          | false => rfl
          | true => have := lexLt_trans _ _ _ q hlt; rw [ok.low x hx] at this; cases this
        · simp at hx; subst hx; exact lexLt_irrefl _
      · constructor
        · intro hx; exact ⟨r, by simp, rfl, hx⟩
        · rintro ⟨y, hy, q, hx⟩
          rcases List.mem_append.mp hy with hy | hy
          · have := ok.low y hy
            rw [q] at this
            rw [this] at hlt; cases hlt
          · simp at hy; subst hy; exact hx
    · rename_i hlt
      split
      · rename_i heq
        refine binv_put v r _ ⟨?_, fun x hx => ?_, ?_, fun x => ?_⟩
        · exact ⟨r, by simp, rfl⟩
        · show lexLt (wr x) (worthOf r.far r.m) = false
          rcases List.mem_append.mp hx with hx | hx
          · rw [heq]; exact ok.low x hx
          · simp at hx; subst hx; exact lexLt_irrefl _
        · refine List.nodup_append.mpr ⟨ok.nd, (wayOf_nodup _ _).filter _, fun a ha c hc q => ?_⟩
          have := (List.mem_filter.mp hc).2
          subst q
          simp [ha] at this
        · show x ∈ e.2 ++ (wayOf hops r).filter (fun x => !decide (x ∈ e.2)) ↔ ∃ y ∈ ofNet r.net rows ++ [r], wr y = worthOf r.far r.m ∧ x ∈ wayOf hops y
          rw [List.mem_append, ok.mem, heq, List.mem_filter]
          constructor
          · rintro (⟨y, hy, q⟩ | ⟨hx, _⟩)
            · exact ⟨y, List.mem_append_left _ hy, q⟩
            · exact ⟨r, by simp, heq, hx⟩
          · rintro ⟨y, hy, q, hx⟩
            rcases List.mem_append.mp hy with hy | hy
            · exact .inl ⟨y, hy, q, hx⟩
            · simp at hy; subst hy
              by_cases hm : x ∈ e.2
              · exact .inl ((ok.mem x).mp hm)
              · exact .inr ⟨hx, by simpa using hm⟩
      · rename_i hne
        have hk := atP_key h
        refine ⟨v.len, v.nd, v.kf, fun net => ?_, fun net e' h' => ?_⟩
        · rw [v.mem]
          constructor
          · rintro ⟨x, hx, q⟩; exact ⟨x, List.mem_append_left _ hx, q⟩
          · rintro ⟨x, hx, q⟩
            rcases List.mem_append.mp hx with hx | hx
            · exact ⟨x, hx, q⟩
            · simp at hx; subst hx; subst q; exact (v.mem _).mp hk
        · rw [ofNet_snoc]
          split
          · rename_i q
            subst q
            rw [h] at h'; cases h'
            refine ⟨?_, fun x hx => ?_, ok.nd, fun x => ?_⟩
            · obtain ⟨y, hy, q⟩ := ok.hit; exact ⟨y, List.mem_append_left _ hy, q⟩
            · rcases List.mem_append.mp hx with hx | hx
              · exact ok.low x hx
              · simp at hx; subst hx; simpa using hlt
            · rw [ok.mem]
              constructor
              · rintro ⟨y, hy, q⟩; exact ⟨y, List.mem_append_left _ hy, q⟩
              · rintro ⟨y, hy, q, hx⟩
                rcases List.mem_append.mp hy with hy | hy
                · exact ⟨y, hy, q, hx⟩
                · simp at hy; subst hy; exact absurd q hne
          · rw [List.append_nil]; exact v.val net e' h'
theorem binv_go {hops : List (List Int)} : ∀ (rest rows : List Row) (b : Bst), BInv hops b rows → BInv hops (rest.foldl (Bst.step hops) b) (rows ++ rest)
  | [], rows, b, v => by simpa using v
  | r :: rest, rows, b, v => by
    have := binv_go rest (rows ++ [r]) _ (binv_step v r)
    rw [List.append_assoc] at this
    exact this
theorem binv (hops : List (List Int)) (rows : List Row) : BInv hops (rows.foldl (Bst.step hops) ⟨[], []⟩) rows :=
  binv_go rows [] ⟨[], []⟩ ⟨rfl, List.nodup_nil, fun k hk => (by cases hk), fun net => (by simp), fun net e h => (by cases h)⟩

theorem firstsGo_sub : ∀ (rest pre : List (List Int)), (firstsGo pre rest).Sublist rest
  | [], _ => by simp [firstsGo]
  | y :: rest, pre => by
    unfold firstsGo
    split
    · exact (firstsGo_sub rest _).cons _
    · exact (firstsGo_sub rest _).cons_cons _
theorem perm_of {l m : List (List Int)} (h1 : l.Nodup) (h2 : m.Nodup) (h : ∀ x, x ∈ l ↔ x ∈ m) : l.Perm m := (List.perm_ext_iff_of_nodup h1 h2).mpr h

theorem lt_off (r q : Row) : lexLt (wr r) (wr q) = lexLt (offP r) (offP q) := by
  unfold wr worthOf offP
  cases r.far <;> cases q.far <;> simp [lexLt]
theorem eq_off (r q : Row) : wr r = wr q ↔ offP r = offP q := by
  unfold wr worthOf offP
  cases r.far <;> cases q.far <;> simp

theorem told_due {hops : List (List Int)} {e : Ent} {rs : List Row} (ok : EntOk hops e rs) (hf : ∀ r ∈ rs, 0 ≤ r.f) (k : Int) : toldOf k e.1 e.2 = dueOf hops k rs := by
  obtain ⟨r0, m0, e0⟩ := ok.hit
  obtain ⟨r1, m1, e1⟩ := leastOf_mem (rs := rs) (fun q => by rw [q] at m0; cases m0)
  have a1 : lexLt (offP r1) (offP r0) = false := by rw [← lt_off, ← e0]; exact ok.low r1 m1
  have a2 : lexLt (offP r0) (offP r1) = false := by rw [e1]; exact leastOf_le m0
  have a3 : offP r0 = leastOf rs := by rw [← e1]; exact lexLt_total _ _ a2 a1
  have hs : srt e.2 = toldL hops rs := by
    unfold toldL firsts
    refine (srt_eq tot_lex ?_ ?_).symm
    · refine perm_of (firstsGo_nodup _ _) ok.nd fun x => ?_
      rw [show x ∈ firstsGo [] (srt ((rs.filter fun r => decide (offP r = leastOf rs)).flatMap (offWay hops))) ↔ _ from firsts_mem, (srt_perm _).mem_iff, ok.mem, List.mem_flatMap]
      constructor
      · rintro ⟨r, hr, hx⟩
        obtain ⟨hr, q⟩ := List.mem_filter.mp hr
        refine ⟨r, hr, ?_, (wayOf_mem (hf r hr) x).mpr hx⟩
        rw [e0, eq_off, a3]; simpa using q
      · rintro ⟨r, hr, q, hx⟩
        refine ⟨r, List.mem_filter.mpr ⟨hr, ?_⟩, (wayOf_mem (hf r hr) x).mp hx⟩
        rw [e0, eq_off, a3] at q; simpa using q
    · exact List.Pairwise.sublist (firstsGo_sub _ _) (srt_ord tot_lex _)
  unfold toldOf dueOf
  rw [hs, ← a3, e0]
  unfold wr worthOf offP
  cases r0.far <;> simp

theorem ord_nets : ∀ {ks : List Int}, Ord (fun (a b : Int) => decide (a < b)) ks → Ord lexLt (ks.map fun k => [k, 2])
  | ks, h => by
    unfold Ord at h ⊢
    rw [List.pairwise_map]
    refine h.imp fun {a b} q => ?_
    simp at q
    simp only [lexLt]
    by_cases hb : b = a
    · simp [hb]
    · simp [hb]; omega
theorem nets_nodup {ks : List Int} (h : ks.Nodup) : (ks.map fun k => [k, (2 : Int)]).Nodup := by
  unfold List.Nodup at h ⊢
  rw [List.pairwise_map]
  exact h.imp fun {a b} q c => q (by simpa using c)

theorem pureLaw : PureLaw := fun hops rows hh ok hn => by
  have v := binv hops rows
  have w := ginv hops rows
  generalize rows.foldl (Bst.step hops) ⟨[], []⟩ = b at v ⊢
  have hsrt : ((srtI ((grp hops rows).map (·.1))).map fun k => [k, (2 : Int)]) = srt b.ks := by
    refine srt_eq tot_lex ?_ (ord_nets (srt_ord tot_int _))
    refine perm_of (nets_nodup ((srt_perm _).nodup_iff.mpr w.nd)) v.nd fun x => ?_
    rw [List.mem_map]
    constructor
    · rintro ⟨k, hk, rfl⟩
      rw [(srt_perm _).mem_iff, w.mem] at hk
      exact (v.mem k).mpr hk
    · intro hx
      obtain ⟨net, rfl⟩ := v.kf x hx
      exact ⟨net, (srt_perm _).mem_iff.mpr ((w.mem net).mpr ((v.mem net).mp hx)), rfl⟩
  unfold routesD
  rw [← hsrt, List.map_map]
  refine List.map_congr_left fun k hk => ?_
  rw [(srt_perm _).mem_iff, w.mem] at hk
  obtain ⟨e, he⟩ := atP_some (es := b.es) ((v.mem k).mpr hk) v.len
  show (match atP b.ks b.es [k, 2] with | some e => toldOf ([k, (2 : Int)].getD 0 0) e.1 e.2 | none => .none) = _
  rw [he]
  exact told_due (v.val k e he) (fun r hr => (ok r (List.mem_filter.mp hr).1).2) k
end Mine

end
-- part J1
section
open PySem PySem.W PyProof.Rows PySem.Calls PySem.Spec
set_option maxRecDepth 100000
set_option maxHeartbeats 1000000
set_option linter.unusedVariables false
namespace Mine

theorem reps_script {W : Wd} {X : Addr → Prop} {P : Params} {h : Heap} : ∀ {ns : List Int} {vs : List Value}, WellAll P h vs (ofPys (ns.map .int)) → Reps W X h vs (ns.map .int)
  | [], vs, a => by
    have a' : WellAll P h vs [] := a
    cases a'; exact .nil
  | i :: ns, vs, a => by
    have a' : WellAll P h vs (.int i :: ofPys (ns.map .int)) := a
    cases a' with
    | cons x r =>
      cases x
      exact .cons (.int _ _) (reps_script r)
theorem rep_script {W : Wd} {P : Params} {h : Heap} {v : Value} {ns : List Int} (a : Well P h v (ofPy (.list (ns.map .int)))) : Rep W (fun _ => False) h v (.lst (ns.map .int)) := by
  have a' : Well P h v (.list (ofPys (ns.map .int))) := a
  cases a' with
  | list e r => exact .lst (fun x => x) ⟨_, e⟩ (reps_script r)
theorem law_run {prog : Program} {w : World} {P : Params} {mg mb : Str → Option Value} {s₁ : Shared} {fa : Addr} {v : Value} {ns : List Int} {Q E : Value → Shared → Prop}
    (GL : Glob 0 mg mb (List.map itemOf (recsOf Mine.vw)) (constsW Mine.vw) [] (namesW Mine.vw []) s₁.heap) (hmg : mg (dd 17).name = some (.ref fa))
    (hw : Well P s₁.heap v (ofPy (.list (ns.map .int)))) (hl : ns.length ≤ 63) (k : ∀ h tk, Keeps s₁.heap h → Q (.bool true) { s₁ with heap := h, toks := tk }) : wpAny (model prog w) callerA (call (.ref fa) [v]) Q E s₁ := by
  let W : Wd := ⟨prog, w, 0, mg, mb, its, constsW Mine.vw, [], namesW Mine.vw [], s₁.heap, GL⟩
  have g : Good W := ⟨rfl, rfl, rfl⟩
  exact (fn_law g pureLaw (n := 0) hl).run callerA s₁ (fun _ => False) fa [v] Q E ⟨rfl, by decide, by decide⟩ hmg (keeps_refl _) (fun _ x => x.elim) (fun _ x => x.elim) (.cons (rep_script hw) .nil)
    fun u h tk ke r => by cases r; exact k h tk ke
end Mine

end
-- the statement
open PySem PySem.W PyProof.Rows
set_option linter.unusedVariables false
set_option maxRecDepth 100000
set_option maxHeartbeats 8000000
theorem Mine.walk : ∀ d kwd, d.name = Str.ofString "law" → WalkO Mine.vw [] (XL Mine.vw []) Hook.none.says PySem.Challenge.rw_rh0199_01.row.toRowW d kwd fun f vs => call f vs := by
  intro d kwd hnm w s₀ s₁ mg mb G Y fa o pm cd doc dV kV ho hd hcd hD hmg hg args vals as hpre hlay hrd hwl hlo
  have GL := Ground.glob G (by decide +kernel) (by decide +kernel)
  clear hd hcd hD
  rw [hnm] at hmg
  wrow_args hpre hlay hrd hwl hlo
  rename_i hw1 _ _ _ hc _
  refine Mine.law_run GL hmg hw1 (by omega) fun h tk ke => ?_
  refine GoodW.toG ⟨.inl ⟨.bool true, .bool true, [], rfl, raisesW_false ?_, .bool _, ?_, fun _ => ⟨List.nodup_nil, fun a ha => nomatch ha⟩⟩, ke, rfl, hg⟩
  · wrow_none_raised
  · wrow_post
theorem PySem.Challenge.cw_rh0199_01_holds : PySem.Challenge.rw_rh0199_01.Holds := by
  w_on; o_law; o_head Hook.none
  (case hw => w_witness2)
  case hc => exact Mine.walk _ _ rfl
