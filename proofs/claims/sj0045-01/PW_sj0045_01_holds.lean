import PyProof.Rows.All
import Wide.All
import OpenK.AllK
import Wide.FinOn
import Lean
import PySem.Challenge.RW_sj0045_01
set_option Elab.async false
set_option linter.all false
namespace Mine
open PySem PySem.W PyProof.Rows PySem.Calls
set_option maxRecDepth 100000

-- part L1
-- abstract values: no tokens, tuples by what they hold
inductive V where
  | none
  | bool (b : Bool)
  | int (i : Int)
  | str (s : PySem.Str)
  | ref (a : Addr)
  | tup (xs : List V)

mutual
noncomputable def VR (h : Heap) : V → Value → Prop
  | .none, v => v = .none
  | .bool b, v => v = .bool b
  | .int i, v => ∃ t, v = .int i t
  | .str x, v => ∃ t, v = .str x t
  | .ref a, v => v = .ref a
  | .tup xs, v => ∃ a items, v = .ref a ∧ IsTup h a items ∧ VRs h xs items.toList
noncomputable def VRs (h : Heap) : List V → List Value → Prop
  | [], vs => vs = []
  | x :: xs, vs => ∃ v vs', vs = v :: vs' ∧ VR h x v ∧ VRs h xs vs'
end

noncomputable def isTupO (o : Obj) : Bool := o.cls == .type "tuple" && (match o.data with | .seq .. => true | _ => false)
noncomputable def Tk (h h' : Heap) : Prop := ∀ b o, h.get? b = some o → isTupO o = true → h'.get? b = some o
theorem Tk.refl (h : Heap) : Tk h h := fun _ _ e _ => e
theorem Tk.trans {h₁ h₂ h₃ : Heap} (x : Tk h₁ h₂) (y : Tk h₂ h₃) : Tk h₁ h₃ := fun b o e c => y b o (x b o e c) c
theorem Tk.of_keep {h h' : Heap} (k : ∀ b o, h.get? b = some o → h'.get? b = some o) : Tk h h' := fun b o e _ => k b o e

mutual
theorem VR.mono {h h' : Heap} (k : Tk h h') : ∀ (x : V) (v : Value), VR h x v → VR h' x v
  | .none, v, e => by unfold VR at *; exact e
  | .bool _, v, e => by unfold VR at *; exact e
  | .int _, v, e => by unfold VR at *; exact e
  | .str _, v, e => by unfold VR at *; exact e
  | .ref _, v, e => by unfold VR at *; exact e
  | .tup xs, v, e => by
    unfold VR at *
    obtain ⟨a, items, e1, ⟨o, ho, hc, n, hd⟩, e3⟩ := e
    exact ⟨a, items, e1, ⟨o, k _ _ ho (by unfold isTupO; rw [hc, hd]; rfl), hc, n, hd⟩, VRs.mono k xs _ e3⟩
theorem VRs.mono {h h' : Heap} (k : Tk h h') : ∀ (xs : List V) (vs : List Value), VRs h xs vs → VRs h' xs vs
  | [], vs, e => by unfold VRs at *; exact e
  | x :: xs, vs, e => by
    unfold VRs at *
    obtain ⟨v, vs', e1, e2, e3⟩ := e
    exact ⟨v, vs', e1, VR.mono k x v e2, VRs.mono k xs vs' e3⟩
end

@[simp] theorem VR_none {h : Heap} {v : Value} : VR h .none v ↔ v = .none := by unfold VR; exact Iff.rfl
@[simp] theorem VR_bool {h : Heap} {b : Bool} {v : Value} : VR h (.bool b) v ↔ v = .bool b := by unfold VR; exact Iff.rfl
@[simp] theorem VR_int {h : Heap} {i : Int} {v : Value} : VR h (.int i) v ↔ ∃ t, v = .int i t := by unfold VR; exact Iff.rfl
@[simp] theorem VR_str {h : Heap} {x : PySem.Str} {v : Value} : VR h (.str x) v ↔ ∃ t, v = .str x t := by unfold VR; exact Iff.rfl
@[simp] theorem VR_ref {h : Heap} {a : Addr} {v : Value} : VR h (.ref a) v ↔ v = .ref a := by unfold VR; exact Iff.rfl
theorem VR_tup {h : Heap} {xs : List V} {v : Value} : VR h (.tup xs) v ↔ ∃ a items, v = .ref a ∧ IsTup h a items ∧ VRs h xs items.toList := by
  constructor
  · intro e; unfold VR at e; exact e
  · intro e; unfold VR; exact e
@[simp] theorem VRs_nil {h : Heap} {vs : List Value} : VRs h [] vs ↔ vs = [] := by
  constructor
  · intro e; unfold VRs at e; exact e
  · intro e; unfold VRs; exact e
theorem VRs_cons {h : Heap} {x : V} {xs : List V} {vs : List Value} : VRs h (x :: xs) vs ↔ ∃ v vs', vs = v :: vs' ∧ VR h x v ∧ VRs h xs vs' := by
  constructor
  · intro e; unfold VRs at e; exact e
  · intro e; unfold VRs; exact e

theorem VRs.length {h : Heap} : ∀ {xs : List V} {vs : List Value}, VRs h xs vs → vs.length = xs.length
  | [], vs, e => by rw [VRs_nil] at e; rw [e]; rfl
  | x :: xs, vs, e => by
    rw [VRs_cons] at e; obtain ⟨v, vs', rfl, _, e3⟩ := e
    simp [VRs.length e3]
theorem VRs.get {h : Heap} : ∀ {xs : List V} {vs : List Value} {i : Nat} {x : V}, VRs h xs vs → xs[i]? = some x → ∃ v, vs[i]? = some v ∧ VR h x v
  | [], vs, i, x, _, hx => by simp at hx
  | y :: xs, vs, i, x, e, hx => by
    rw [VRs_cons] at e; obtain ⟨v, vs', rfl, e2, e3⟩ := e
    cases i with
    | zero => simp at hx; subst hx; exact ⟨v, rfl, e2⟩
    | succ i => simp at hx; obtain ⟨u, hu, r⟩ := VRs.get e3 hx; exact ⟨u, by simpa using hu, r⟩
theorem VRs.getV {h : Heap} {xs : List V} {vs : List Value} {i : Nat} {v : Value} (e : VRs h xs vs) (hv : vs[i]? = some v) : ∃ x, xs[i]? = some x ∧ VR h x v := by
  have hl := e.length
  obtain ⟨hi, _⟩ := List.getElem?_eq_some_iff.mp hv
  have hx : xs[i]? = some xs[i] := List.getElem?_eq_getElem (by omega)
  obtain ⟨u, hu, r⟩ := e.get hx
  rw [hv] at hu; cases hu
  exact ⟨_, hx, r⟩
theorem VRs.append {h : Heap} : ∀ {xs ys : List V} {vs us : List Value}, VRs h xs vs → VRs h ys us → VRs h (xs ++ ys) (vs ++ us)
  | [], ys, vs, us, e, f => by rw [VRs_nil] at e; subst e; exact f
  | x :: xs, ys, vs, us, e, f => by
    rw [VRs_cons] at e; obtain ⟨v, vs', rfl, e2, e3⟩ := e
    show VRs h (x :: (xs ++ ys)) (v :: (vs' ++ us))
    exact VRs_cons.mpr ⟨v, _, rfl, e2, VRs.append e3 f⟩
theorem VRs.one {h : Heap} {x : V} {v : Value} (e : VR h x v) : VRs h [x] [v] := VRs_cons.mpr ⟨v, [], rfl, e, VRs_nil.mpr rfl⟩
theorem VRs.set {h : Heap} : ∀ {xs : List V} {vs : List Value} {i : Nat} {x : V} {v : Value}, VRs h xs vs → VR h x v → VRs h (xs.set i x) (vs.set i v)
  | [], vs, i, x, v, e, f => by rw [VRs_nil] at e; subst e; simp
  | y :: xs, vs, i, x, v, e, f => by
    rw [VRs_cons] at e; obtain ⟨u, vs', rfl, e2, e3⟩ := e
    cases i with
    | zero => exact VRs_cons.mpr ⟨v, vs', rfl, f, e3⟩
    | succ i => exact VRs_cons.mpr ⟨u, _, rfl, e2, VRs.set e3 f⟩
theorem VRs.take {h : Heap} : ∀ {xs : List V} {vs : List Value} (n : Nat), VRs h xs vs → VRs h (xs.take n) (vs.take n)
  | [], vs, n, e => by rw [VRs_nil] at e; subst e; simp
  | x :: xs, vs, 0, _ => by simp
  | x :: xs, vs, n + 1, e => by
    rw [VRs_cons] at e; obtain ⟨v, vs', rfl, e2, e3⟩ := e
    exact VRs_cons.mpr ⟨v, _, rfl, e2, VRs.take n e3⟩
theorem VRs.ints {h : Heap} : ∀ {ns : List Int} {vs : List Value}, VRs h (ns.map .int) vs ↔ IntsAre vs ns
  | [], vs => by
    constructor
    · intro e; have e := VRs_nil.mp e; subst e; exact .nil
    · intro e; cases e; exact VRs_nil.mpr rfl
  | n :: ns, vs => by
    constructor
    · intro e; obtain ⟨v, vs', rfl, e2, e3⟩ := VRs_cons.mp e
      obtain ⟨t, rfl⟩ := VR_int.mp e2
      exact .cons _ _ (VRs.ints.mp e3)
    · intro e; cases e with
      | cons _ _ r => exact VRs_cons.mpr ⟨_, _, rfl, VR_int.mpr ⟨_, rfl⟩, VRs.ints.mpr r⟩

-- abstract objects
inductive O where
  | list (xs : List V)
  | ilist (xs : List V)
  | dict (es : List (V × V)) (ep : Nat)
  | sdict (n : Nat)
  | inst (C : Addr) (dx : Addr)
  | attrs (fs : List (PySem.Str × V))
  | range (n : Int)

abbrev Store := Addr → Option O
noncomputable def upd (σ : Store) (a : Addr) (o : O) : Store := fun b => if b = a then some o else σ b
@[simp] theorem upd_self (σ : Store) (a : Addr) (o : O) : upd σ a o a = some o := by simp [upd]
theorem upd_ne (σ : Store) {a b : Addr} (o : O) (h : b ≠ a) : upd σ a o b = σ b := by simp [upd, h]

noncomputable def hashV (w : World) : V → Int
  | .int i => hashInt i
  | .str x => hashStr w x
  | .tup xs => reduceHash (Builtin.Tuple.tupleHashOf (xs.map fun | .int i => hashInt i | _ => 0))
  | _ => 0

noncomputable def ER (w : World) (h : Heap) : List (V × V) → List DictEntry → Prop
  | [], es => es = []
  | (k, v) :: r, es => ∃ e es', es = e :: es' ∧ VR h k e.key ∧ VR h v e.val ∧ e.hash = hashV w k ∧ ER w h r es'
theorem ER.mono {w : World} {h h' : Heap} (k : Tk h h') : ∀ {kvs : List (V × V)} {es : List DictEntry}, ER w h kvs es → ER w h' kvs es
  | [], es, e => e
  | (x, y) :: r, es, e => by
    obtain ⟨en, es', e1, e2, e3, e4, e5⟩ := e
    exact ⟨en, es', e1, VR.mono k _ _ e2, VR.mono k _ _ e3, e4, ER.mono k e5⟩
theorem ER.length {w : World} {h : Heap} : ∀ {kvs : List (V × V)} {es : List DictEntry}, ER w h kvs es → es.length = kvs.length
  | [], es, e => by cases e; rfl
  | (x, y) :: r, es, e => by
    obtain ⟨en, es', rfl, _, _, _, e5⟩ := e
    simp [ER.length e5]

noncomputable def AR (h : Heap) : List (PySem.Str × V) → List DictEntry → Prop
  | [], es => es = []
  | (x, v) :: r, es => ∃ e es', es = e :: es' ∧ (∃ t, e.key = .str x t) ∧ VR h v e.val ∧ AR h r es'
theorem AR.mono {h h' : Heap} (k : Tk h h') : ∀ {fs : List (PySem.Str × V)} {es : List DictEntry}, AR h fs es → AR h' fs es
  | [], es, e => e
  | (x, y) :: r, es, e => by
    obtain ⟨en, es', e1, e2, e3, e5⟩ := e
    exact ⟨en, es', e1, e2, VR.mono k _ _ e3, AR.mono k e5⟩

noncomputable def Rep (w : World) (h : Heap) (a : Addr) : O → Prop
  | .list xs => ∃ items, h.PlainList a items ∧ VRs h xs items.toList
  | .ilist xs => ∃ items, h.IsList a items ∧ VRs h xs items.toList
  | .dict kvs ep => ∃ o es, h.get? a = some o ∧ o.ExactDict ∧ o.data = .dict es ep ∧ ER w h kvs es.toList ∧ (a == sysModules) = false ∧ (kvs.map (·.1)).Nodup
  | .sdict n => ∃ o es ep, h.get? a = some o ∧ o.ExactDict ∧ o.data = .dict es ep ∧ (∀ e ∈ es, ∃ x t, e.key = .str x t ∧ e.hash = hashStr w x) ∧ es.size ≤ n ∧ (a == sysModules) = false
  | .inst C dx => h.get? a = some (instObj C dx)
  | .attrs fs => ∃ es n, h.get? a = some (dictOf es n) ∧ AR h fs es
  | .range n => ∃ t u v, h.get? a = some { cls := .type "range", data := .fields #[.int 0 t, .int n u, .int 1 v] }

theorem Rep.mono {w : World} {h h' : Heap} {a : Addr} (k : Tk h h') (e : ∀ o, h.get? a = some o → h'.get? a = some o) : ∀ {o : O}, Rep w h a o → Rep w h' a o
  | .list xs, ⟨items, ⟨n, ho⟩, hv⟩ => ⟨items, ⟨n, e _ ho⟩, hv.mono k⟩
  | .ilist xs, ⟨items, ⟨o, ho, r⟩, hv⟩ => ⟨items, ⟨o, e _ ho, r⟩, hv.mono k⟩
  | .dict kvs ep, ⟨o, es, ho, hx, hd, hr, hs⟩ => ⟨o, es, e _ ho, hx, hd, hr.mono k, hs⟩
  | .sdict n, ⟨o, es, ep, ho, r⟩ => ⟨o, es, ep, e _ ho, r⟩
  | .inst C dx, ho => e _ ho
  | .attrs fs, ⟨es, n, ho, hr⟩ => ⟨es, n, e _ ho, hr.mono k⟩
  | .range n, ⟨t, u, v, ho⟩ => ⟨t, u, v, e _ ho⟩

theorem Rep.notTup {w : World} {h : Heap} {a : Addr} : ∀ {o : O}, Rep w h a o → ∃ x, h.get? a = some x ∧ isTupO x = false
  | .list xs, ⟨items, ⟨n, ho⟩, hv⟩ => ⟨_, ho, by simp [isTupO]⟩
  | .ilist xs, ⟨items, ⟨o, ho, hc, r⟩, hv⟩ => ⟨o, ho, by unfold isTupO; rw [hc]; rfl⟩
  | .dict kvs ep, ⟨o, es, ho, hx, hd, hr⟩ => ⟨o, ho, by unfold isTupO; rw [hd]; simp⟩
  | .sdict n, ⟨o, es, ep, ho, hx, hd, r⟩ => ⟨o, ho, by unfold isTupO; rw [hd]; simp⟩
  | .inst C dx, ho => ⟨_, ho, by simp [isTupO]⟩
  | .attrs fs, ⟨es, n, ho, hr⟩ => ⟨_, ho, by simp [isTupO]⟩
  | .range n, ⟨t, u, v, ho⟩ => ⟨_, ho, by simp [isTupO]⟩

structure Sto (w : World) (hb : Heap) (σ : Store) (h : Heap) : Prop where
  keep : ∀ b o, hb.get? b = some o → h.get? b = some o
  rep : ∀ a o, σ a = some o → Rep w h a o
  new : ∀ a, σ a ≠ none → hb.get? a = none

section
variable {w : World} {hb h h' : Heap} {σ : Store} {a : Addr} {o : O}
theorem Sto.lt (S : Sto w hb σ h) (ha : σ a = some o) : a < h.objs.size := by
  obtain ⟨x, hx, _⟩ := (S.rep a o ha).notTup
  exact Heap.lt_size hx
theorem Sto.none_of_new (S : Sto w hb σ h) (ha : h.get? a = none) : σ a = none := by
  cases e : σ a with
  | none => rfl
  | some o => obtain ⟨x, hx, _⟩ := (S.rep a o e).notTup; rw [ha] at hx; cases hx
-- nothing known has changed
theorem Sto.grow (S : Sto w hb σ h) (k : ∀ b o, h.get? b = some o → h'.get? b = some o) : Sto w hb σ h' :=
  ⟨fun b o e => k _ _ (S.keep b o e), fun a o e => (S.rep a o e).mono (Tk.of_keep k) (fun x hx => k _ _ hx), S.new⟩
-- one known object has changed
theorem Sto.set {o' : O} (S : Sto w hb σ h) (ha : σ a = some o) (k : ∀ b x, b ≠ a → h.get? b = some x → h'.get? b = some x) (r : ∀ _ : Tk h h', Rep w h' a o') : Sto w hb (upd σ a o') h' ∧ Tk h h' := by
  obtain ⟨x, hx, hc⟩ := (S.rep a o ha).notTup
  have T : Tk h h' := fun b y e c => k b y (fun q => by subst q; rw [hx] at e; cases e; rw [hc] at c; cases c) e
  refine ⟨⟨fun b y e => k b y (fun q => by subst q; have := S.new b (by rw [ha]; simp); rw [e] at this; cases this) (S.keep b y e), fun b y e => ?_, fun b e => ?_⟩, T⟩
  · by_cases q : b = a
    · subst q; rw [upd_self] at e; cases e; exact r T
    · rw [upd_ne _ _ q] at e; exact (S.rep b y e).mono T fun z hz => k _ _ q hz
  · by_cases q : b = a
    · subst q; exact S.new b (by rw [ha]; simp)
    · rw [upd_ne _ _ q] at e; exact S.new b e
-- one object more is known
theorem Sto.add {o' : O} (S : Sto w hb σ h) (ha : h.get? a = none) (k : ∀ b x, h.get? b = some x → h'.get? b = some x) (r : Rep w h' a o') : Sto w hb (upd σ a o') h' := by
  refine ⟨fun b y e => k b y (S.keep b y e), fun b y e => ?_, fun b e => ?_⟩
  · by_cases q : b = a
    · subst q; rw [upd_self] at e; cases e; exact r
    · rw [upd_ne _ _ q] at e; exact (S.rep b y e).mono (Tk.of_keep k) fun z hz => k _ _ hz
  · by_cases q : b = a
    · subst q
      cases e' : hb.get? b with
      | none => rfl
      | some z => rw [S.keep _ _ e'] at ha; cases ha
    · rw [upd_ne _ _ q] at e; exact S.new b e
-- less is told
theorem Sto.sub {σ' : Store} (S : Sto w hb σ h) (k : ∀ a o, σ' a = some o → σ a = some o) : Sto w hb σ' h :=
  ⟨S.keep, fun a o e => S.rep a o (k a o e), fun a e => by
    cases q : σ' a with
    | none => exact absurd q e
    | some o => exact S.new a (by rw [k a o q]; simp)⟩
end

-- the heap less the objects that the store names
noncomputable def hideP (h : Heap) (p : Addr → Bool) : Heap := ⟨(h.objs.mapIdx fun i o => if p i then { cls := .none, data := .freed } else o), h.life⟩
theorem hideP_get (h : Heap) (p : Addr → Bool) (b : Addr) : (hideP h p).get? b = if p b then none else h.get? b := by
  unfold hideP Heap.get?
  simp only [Array.getElem?_mapIdx]
  cases e : h.objs[b]? with
  | none => simp
  | some o =>
    simp only [Option.map_some]
    cases p b with
    | true => simp
    | false => simp

-- part L2
structure Pg where
  prog : Program
  w : World
  K : Frag
  sc : Addr
  xs : List Int

structure Base (P : Pg) (hb : Heap) : Prop where
  X : P.K.In hb
  g : ∃ mg, hb.Ns mainGlobals mg
  b : ∃ mb, hb.Ns builtinsNs mb ∧ ∀ x : PySem.Str, x ≠ "__name__" → mb x = bootBuiltins x
  lim : hb.NoLimit
  scr : ∃ items, hb.IsList P.sc items ∧ IntsAre items.toList P.xs
theorem Base.keeps {P : Pg} {h h' : Heap} (B : Base P h) (k : ∀ b o, h.get? b = some o → h'.get? b = some o) : Base P h' :=
  ⟨B.X.keeps k, let ⟨m, e⟩ := B.g; ⟨m, e.keeps k⟩, let ⟨m, e, f⟩ := B.b; ⟨m, e.keeps k, f⟩, B.lim.keeps k, let ⟨i, ⟨o, ho, r⟩, hi⟩ := B.scr; ⟨i, ⟨o, k _ _ ho, r⟩, hi⟩⟩
theorem Base.sys {P : Pg} {h : Heap} (B : Base P h) : (h.objs.size == sysModules) = false := by
  obtain ⟨mc, hn, _⟩ := B.lim
  have := hn.lt
  have e : cStatics = 2 := rfl
  have e1 : sysModules = 1 := rfl
  rw [beq_eq_false_iff_ne]
  rw [e] at this
  rw [e1]
  intro q
  rw [q] at this
  exact absurd this (by decide)

-- where a callee runs
structure Bx (P : Pg) where
  A : Around
  hb : Heap
  d : Nat
  base : Base P hb
  hh : A.handled = none
  room : A.depth + 4 * d ≤ 900
  units : A.units + 100 * d ≤ 9000

-- where a block runs
structure Cx (P : Pg) (sc : Scope) extends Bx P where
  env : Env
  kind : env.scope.kind = .function
  glob : env.globals = mainGlobals
  blt : env.builtins = builtinsNs
  look : ∀ x k, sc.names.lookup x = some k → k ≠ .free → env.kindOf x = some k
  cellsOk : ∀ x, sc.names.lookup x = some .cell → (env.cells.lookup x).isSome = true

abbrev Loc := PySem.Str → Option V
noncomputable def setL (m : Loc) (x : PySem.Str) (v : V) : Loc := fun y => if y = x then some v else m y

structure St {P : Pg} {sc : Scope} (c : Cx P sc) (m : Loc) (σ : Store) (h : Heap) : Prop where
  sto : Sto P.w c.hb σ h
  ns : ∃ mm, h.Ns c.env.locals mm ∧ ∀ x v, m x = some v → c.env.kindOf x = some .local → ∃ v', mm x = some v' ∧ VR h v v'
  dom : ∀ x v, m x = some v → c.env.kindOf x = some .local ∨ ((c.env.kindOf x = some .cell ∨ c.env.kindOf x = some .free) ∧ (c.env.cells.lookup x).isSome = true)
  cell : ∀ x a, c.env.cells.lookup x = some a → ∃ ov, h.IsCell a ov ∧ ∀ v, m x = some v → c.env.kindOf x ≠ some .local → ∃ v', ov = some v' ∧ VR h v v'
  newL : c.hb.get? c.env.locals = none ∧ σ c.env.locals = none
  newC : ∀ x a, c.env.cells.lookup x = some a → c.hb.get? a = none ∧ σ a = none
  inj : ∀ x y a, c.env.cells.lookup x = some a → c.env.cells.lookup y = some a → x = y

theorem Ns.notTup {h : Heap} {a : Addr} {m} (n : h.Ns a m) : ∃ o, h.get? a = some o ∧ isTupO o = false := by
  obtain ⟨o, es, ep, ho, hd, _⟩ := n
  exact ⟨o, ho, by unfold isTupO; rw [hd]; simp⟩
theorem IsCell.notTup {h : Heap} {a : Addr} {v} (n : h.IsCell a v) : ∃ o, h.get? a = some o ∧ isTupO o = false := by
  obtain ⟨o, ho, hd⟩ := n
  exact ⟨o, ho, by unfold isTupO; rw [hd]; simp⟩
theorem Tk.but {h h' : Heap} {a : Addr} {o : Obj} (ho : h.get? a = some o) (ht : isTupO o = false) (k : ∀ b x, b ≠ a → h.get? b = some x → h'.get? b = some x) : Tk h h' := fun b y e c =>
  k b y (fun q => by subst q; rw [ho] at e; cases e; rw [ht] at c; cases c) e
theorem Ns.ne_cell {h : Heap} {a b : Addr} {m v} (n : h.Ns a m) (c : h.IsCell b v) : a ≠ b := by
  rintro rfl
  obtain ⟨o, es, ep, ho, hd, _⟩ := n
  obtain ⟨o', ho', hd'⟩ := c
  rw [ho] at ho'; cases ho'; rw [hd] at hd'; cases hd'

section
variable {P : Pg} {sc : Scope} {c : Cx P sc} {m : Loc} {σ σ' : Store} {h h' : Heap} {x : PySem.Str} {v : V} {v' : Value}

-- the frame is not touched: the store's own objects may be
theorem St.of_sto (S : St c m σ h) (S' : Sto P.w c.hb σ' h') (T : Tk h h') (k : ∀ b o, h.get? b = some o → σ b = none → h'.get? b = some o)
    (kn : ∀ b o, h.get? b = some o → σ b = none → σ' b = none) : St c m σ' h' := by
  obtain ⟨mm, hn, hm⟩ := S.ns
  have hL : ∀ o, h.get? c.env.locals = some o → h'.get? c.env.locals = some o := fun o e => k _ _ e S.newL.2
  have hL' : σ' c.env.locals = none := by
    obtain ⟨o, _, _, e, _⟩ := hn
    exact kn _ _ e S.newL.2
  refine ⟨S', ⟨mm, hn.at' hL, fun x v e1 e2 => ?_⟩, S.dom, fun x a e => ?_, ⟨S.newL.1, hL'⟩, fun x a e => ⟨(S.newC x a e).1, ?_⟩, S.inj⟩
  · obtain ⟨v', a, b⟩ := hm x v e1 e2
    exact ⟨v', a, b.mono T⟩
  · obtain ⟨ov, ⟨o, ho, hd⟩, r⟩ := S.cell x a e
    refine ⟨ov, ⟨o, k _ _ ho (S.newC x a e).2, hd⟩, fun v e1 e2 => ?_⟩
    obtain ⟨v', a, b⟩ := r v e1 e2
    exact ⟨v', a, b.mono T⟩
  · obtain ⟨ov, ⟨o, ho, hd⟩, r⟩ := S.cell x a e
    exact kn _ _ ho (S.newC x a e).2
theorem St.grow (S : St c m σ h) (k : ∀ b o, h.get? b = some o → h'.get? b = some o) : St c m σ h' :=
  S.of_sto (S.sto.grow k) (Tk.of_keep k) (fun b o e _ => k b o e) fun _ _ _ e => e
theorem St.subL {m' : Loc} (S : St c m σ h) (k : ∀ x v, m' x = some v → m x = some v) : St c m' σ h := by
  obtain ⟨mm, hn, hm⟩ := S.ns
  refine ⟨S.sto, ⟨mm, hn, fun x v e => hm x v (k x v e)⟩, fun x v e => S.dom x v (k x v e), fun x a e => ?_, S.newL, S.newC, S.inj⟩
  obtain ⟨ov, hc, r⟩ := S.cell x a e
  exact ⟨ov, hc, fun v e1 => r v (k x v e1)⟩
theorem St.subS (S : St c m σ h) (k : ∀ a o, σ' a = some o → σ a = some o) : St c m σ' h := by
  refine S.of_sto (S.sto.sub k) (Tk.refl h) (fun b o e _ => e) fun b o _ e => ?_
  cases q : σ' b with
  | none => rfl
  | some o' => rw [k b o' q] at e; cases e

-- a local name is stored
theorem St.setLocal (S : St c m σ h) (hx : c.env.kindOf x = some .local) {mm : PySem.Str → Option Value} (hn : h.Ns c.env.locals mm) (hm : ∀ x v, m x = some v → c.env.kindOf x = some .local → ∃ v', mm x = some v' ∧ VR h v v')
    (hn' : h'.Ns c.env.locals (fun y => if y = x then some v' else mm y)) (hs : Heap.SameBut c.env.locals h h') (hv : VR h v v') : St c (setL m x v) σ h' ∧ Tk h h' := by
  obtain ⟨oL, hoL, htL⟩ := Ns.notTup hn
  have kk : ∀ b o, b ≠ c.env.locals → h.get? b = some o → h'.get? b = some o := fun b o q e => hs.extBut b o q e
  have T : Tk h h' := Tk.but hoL htL kk
  refine ⟨⟨⟨fun b o e => kk b o (fun q => by rw [q, S.newL.1] at e; cases e) (S.sto.keep b o e), fun a o e => (S.sto.rep a o e).mono T fun z hz => kk a z (fun q => by rw [q, S.newL.2] at e; cases e) hz, S.sto.new⟩,
    ⟨_, hn', fun y u e1 e2 => ?_⟩, fun y u e1 => ?_, fun y a e => ?_, S.newL, S.newC, S.inj⟩, T⟩
  · unfold setL at e1
    by_cases q : y = x
    · subst q; simp at e1; subst e1; exact ⟨v', by simp, hv.mono T⟩
    · simp [q] at e1 ⊢
      obtain ⟨u', p1, p2⟩ := hm y u e1 e2
      exact ⟨u', p1, p2.mono T⟩
  · unfold setL at e1
    by_cases q : y = x
    · subst q; exact .inl hx
    · simp [q] at e1; exact S.dom y u e1
  · obtain ⟨ov, hc, r⟩ := S.cell y a e
    have hne : a ≠ c.env.locals := (Ns.ne_cell hn hc).symm
    refine ⟨ov, hc.sameBut hs hne, fun u e1 e2 => ?_⟩
    unfold setL at e1
    by_cases q : y = x
    · subst q; exact absurd hx e2
    · simp [q] at e1
      obtain ⟨u', p1, p2⟩ := r u e1 e2
      exact ⟨u', p1, p2.mono T⟩

-- a cell is stored
theorem St.setCell {a : Addr} {ov : Option Value} (S : St c m σ h) (hx : c.env.kindOf x = some .cell) (ha : c.env.cells.lookup x = some a) (hc : h.IsCell a ov)
    (hc' : h'.IsCell a (some v')) (hs : Heap.SameBut a h h') (hv : VR h v v') : St c (setL m x v) σ h' ∧ Tk h h' := by
  obtain ⟨oL, hoL, htL⟩ := IsCell.notTup hc
  have kk : ∀ b o, b ≠ a → h.get? b = some o → h'.get? b = some o := fun b o q e => hs.extBut b o q e
  have T : Tk h h' := Tk.but hoL htL kk
  obtain ⟨mm, hn, hm⟩ := S.ns
  have nC := S.newC x a ha
  refine ⟨⟨⟨fun b o e => kk b o (fun q => by rw [q, nC.1] at e; cases e) (S.sto.keep b o e), fun b o e => (S.sto.rep b o e).mono T fun z hz => kk b z (fun q => by rw [q, nC.2] at e; cases e) hz, S.sto.new⟩,
    ⟨mm, hn.at' fun o e => kk _ _ (Ns.ne_cell hn hc) e, fun y u e1 e2 => ?_⟩, fun y u e1 => ?_, fun y b e => ?_, S.newL, S.newC, S.inj⟩, T⟩
  · unfold setL at e1
    by_cases q : y = x
    · subst q; rw [hx] at e2; cases e2
    · simp [q] at e1
      obtain ⟨u', p1, p2⟩ := hm y u e1 e2
      exact ⟨u', p1, p2.mono T⟩
  · unfold setL at e1
    by_cases q : y = x
    · subst q; exact .inr ⟨.inl hx, by rw [ha]; rfl⟩
    · simp [q] at e1; exact S.dom y u e1
  · by_cases q : y = x
    · subst q
      rw [ha] at e; cases e
      refine ⟨_, hc', fun u e1 e2 => ?_⟩
      simp [setL] at e1; subst e1
      exact ⟨v', rfl, hv.mono T⟩
    · have hne : b ≠ a := fun z => q (S.inj y x a (z ▸ e) ha)
      obtain ⟨ov, hc1, r⟩ := S.cell y b e
      refine ⟨ov, hc1.sameBut hs hne, fun u e1 e2 => ?_⟩
      simp [setL, q] at e1
      obtain ⟨u', p1, p2⟩ := r u e1 e2
      exact ⟨u', p1, p2.mono T⟩
end

-- what an evaluation leaves
noncomputable def PostE {α : Type} {P : Pg} {sc : Scope} (c : Cx P sc) (m : Loc) (s : Shared) (R : α → Heap → Store → Prop) (a : α) (s' : Shared) : Prop :=
  ∃ h' tk σ', s' = { s with heap := h', toks := tk } ∧ St c m σ' h' ∧ Tk s.heap h' ∧ R a h' σ'
noncomputable def PostB {α : Type} {P : Pg} (b : Bx P) (s : Shared) (R : α → Heap → Store → Prop) (a : α) (s' : Shared) : Prop :=
  ∃ h' tk σ', s' = { s with heap := h', toks := tk } ∧ Sto P.w b.hb σ' h' ∧ Tk s.heap h' ∧ R a h' σ'
noncomputable def asV (Q : V → Store → Prop) (v : Value) (h : Heap) (σ : Store) : Prop := ∃ av, VR h av v ∧ Q av σ

inductive Fl where
  | next | brk | cont
  | ret (v : V)
noncomputable def FR (h : Heap) : Fl → Flow → Prop
  | .next, f => f = .next
  | .brk, f => f = .brk
  | .cont, f => f = .cont
  | .ret v, f => ∃ u, f = .ret u ∧ VR h v u
noncomputable def PostX {P : Pg} {sc : Scope} (c : Cx P sc) (s : Shared) (Q : Fl → Loc → Store → Prop) (f : Flow) (s' : Shared) : Prop :=
  ∃ h' tk σ' m' fl, s' = { s with heap := h', toks := tk } ∧ St c m' σ' h' ∧ Tk s.heap h' ∧ FR h' fl f ∧ Q fl m' σ'
noncomputable def PostL {P : Pg} {sc : Scope} (c : Cx P sc) (s : Shared) (Q : Loc → Store → Prop) (_ : Unit) (s' : Shared) : Prop :=
  ∃ h' tk σ' m', s' = { s with heap := h', toks := tk } ∧ St c m' σ' h' ∧ Tk s.heap h' ∧ Q m' σ'
abbrev noE : Value → Shared → Prop := fun _ _ => False

section
variable {P : Pg} {sc : Scope}
-- an expression
noncomputable def WE (c : Cx P sc) (e : Expr) (m : Loc) (σ : Store) (Q : V → Store → Prop) : Prop :=
  ∀ s, St c m σ s.heap → wpAny (model P.prog P.w) c.A (eval e c.env) (PostE c m s (asV Q)) noE s
-- expressions, in order
noncomputable def WEs (c : Cx P sc) (pos : Pos) (es : List Expr) (m : Loc) (σ : Store) (Q : List V → Store → Prop) : Prop :=
  ∀ s, St c m σ s.heap → wpAny (model P.prog P.w) c.A (spliced (backTo pos (starEach es c.env))) (PostE c m s fun vs h σ => ∃ avs, VRs h avs vs ∧ Q avs σ) noE s
-- a test
noncomputable def WT (c : Cx P sc) (e : Expr) (m : Loc) (σ : Store) (Q : Bool → Store → Prop) : Prop :=
  ∀ s, St c m σ s.heap → wpAny (model P.prog P.w) c.A (isTrue e c.env (eval e c.env)) (PostE c m s fun b _ σ => Q b σ) noE s
noncomputable def WTs (c : Cx P sc) (es : List Expr) (m : Loc) (σ : Store) (Q : Bool → Store → Prop) : Prop :=
  ∀ s, St c m σ s.heap → wpAny (model P.prog P.w) c.A (allTrue .And es c.env) (PostE c m s fun b _ σ => Q b σ) noE s
-- a store
noncomputable def WA (c : Cx P sc) (t : Expr) (v : V) (m : Loc) (σ : Store) (Q : Loc → Store → Prop) : Prop :=
  ∀ s u, St c m σ s.heap → VR s.heap v u → wpAny (model P.prog P.w) c.A (assign t c.env u) (PostL c s Q) noE s
-- a statement, a block
noncomputable def WX (c : Cx P sc) (st : Stmt) (m : Loc) (σ : Store) (Q : Fl → Loc → Store → Prop) : Prop :=
  ∀ s, St c m σ s.heap → wpAny (model P.prog P.w) c.A (exec st c.env) (PostX c s Q) noE s
noncomputable def WB (c : Cx P sc) (sts : List Stmt) (m : Loc) (σ : Store) (Q : Fl → Loc → Store → Prop) : Prop :=
  ∀ s, St c m σ s.heap → wpAny (model P.prog P.w) c.A (execs sts c.env) (PostX c s Q) noE s
-- an operation on values: it looks at the store alone
noncomputable def Leaf {α : Type} (P : Pg) (d : Nat) (t : List Value → Sem α) (args : List V) (σ : Store) (R : α → Heap → Store → Prop) : Prop :=
  ∀ (b : Bx P), b.d = d → ∀ s us, Sto P.w b.hb σ s.heap → VRs s.heap args us → wpAny (model P.prog P.w) b.A (t us) (PostB b s R) noE s
end

section
variable {P : Pg} {sc : Scope} {c : Cx P sc} {m : Loc} {σ : Store}
theorem PostE.trans {α : Type} {R : α → Heap → Store → Prop} {s : Shared} {h' : Heap} {tk : Nat} {a : α} {s' : Shared} (T : Tk s.heap h') (p : PostE c m { s with heap := h', toks := tk } R a s') : PostE c m s R a s' := by
  obtain ⟨h2, tk2, σ2, rfl, S2, T2, r⟩ := p
  exact ⟨h2, tk2, σ2, rfl, S2, T.trans T2, r⟩
theorem PostX.trans {Q : Fl → Loc → Store → Prop} {s : Shared} {h' : Heap} {tk : Nat} {a : Flow} {s' : Shared} (T : Tk s.heap h') (p : PostX c { s with heap := h', toks := tk } Q a s') : PostX c s Q a s' := by
  obtain ⟨h2, tk2, σ2, m2, fl, rfl, S2, T2, r⟩ := p
  exact ⟨h2, tk2, σ2, m2, fl, rfl, S2, T.trans T2, r⟩
theorem PostL.trans {Q : Loc → Store → Prop} {s : Shared} {h' : Heap} {tk : Nat} {a : Unit} {s' : Shared} (T : Tk s.heap h') (p : PostL c { s with heap := h', toks := tk } Q a s') : PostL c s Q a s' := by
  obtain ⟨h2, tk2, σ2, m2, rfl, S2, T2, r⟩ := p
  exact ⟨h2, tk2, σ2, m2, rfl, S2, T.trans T2, r⟩
-- go on behind an evaluation
theorem thenE {α : Type} {R : α → Heap → Store → Prop} {s : Shared} {t : Sem α} {M : Model} {A : Around} {k : α → Shared → Prop} (h : wpAny M A t (PostE c m s R) noE s)
    (hk : ∀ a h' tk σ', St c m σ' h' → Tk s.heap h' → R a h' σ' → k a { s with heap := h', toks := tk }) : wpAny M A t k noE s :=
  wpAny_mono h (fun a s' ⟨h', tk, σ', e, S', T, r⟩ => by subst e; exact hk a h' tk σ' S' T r) fun _ _ z => z
theorem thenL {s : Shared} {t : Sem Unit} {M : Model} {A : Around} {Q : Loc → Store → Prop} {k : Unit → Shared → Prop} (h : wpAny M A t (PostL c s Q) noE s)
    (hk : ∀ h' tk σ' m', St c m' σ' h' → Tk s.heap h' → Q m' σ' → k () { s with heap := h', toks := tk }) : wpAny M A t k noE s :=
  wpAny_mono h (fun a s' ⟨h', tk, σ', m', e, S', T, r⟩ => by subst e; exact hk h' tk σ' m' S' T r) fun _ _ z => z
theorem thenX {s : Shared} {t : Sem Flow} {M : Model} {A : Around} {Q : Fl → Loc → Store → Prop} {k : Flow → Shared → Prop} (h : wpAny M A t (PostX c s Q) noE s)
    (hk : ∀ f h' tk σ' m' fl, St c m' σ' h' → Tk s.heap h' → FR h' fl f → Q fl m' σ' → k f { s with heap := h', toks := tk }) : wpAny M A t k noE s :=
  wpAny_mono h (fun f s' ⟨h', tk, σ', m', fl, e, S', T, r, q⟩ => by subst e; exact hk f h' tk σ' m' fl S' T r q) fun _ _ z => z

-- an operation within a frame
theorem Leaf.lift {α : Type} {t : List Value → Sem α} {args : List V} {R : α → Heap → Store → Prop} {s : Shared} {us : List Value} (L : Leaf P c.d t args σ R) (S : St c m σ s.heap) (hv : VRs s.heap args us) :
    wpAny (model P.prog P.w) c.A (t us) (PostE c m s R) noE s := by
  have kb : ∀ b o, s.heap.get? b = some o → σ b = none → (hideP s.heap fun a => (σ a).isSome).get? b = some o := fun b o e n => by rw [hideP_get, n]; exact e
  have kb' : ∀ b o, (hideP s.heap fun a => (σ a).isSome).get? b = some o → s.heap.get? b = some o := fun b o e => by
    rw [hideP_get] at e
    split at e
    · cases e
    · exact e
  have base : Base P (hideP s.heap fun a => (σ a).isSome) := c.base.keeps fun b o e => kb b o (S.sto.keep b o e) (by
    cases q : σ b with
    | none => rfl
    | some z => have := S.sto.new b (by rw [q]; simp); rw [e] at this; cases this)
  refine wpAny_mono (L { c.toBx with hb := hideP s.heap fun a => (σ a).isSome, base := base } rfl s us ⟨kb', S.sto.rep, fun a e => ?_⟩ hv) (fun a s' ⟨h', tk, σ', e, S', T, r⟩ => ?_) fun _ _ z => z
  · rw [hideP_get]
    cases q : σ a with
    | none => exact absurd q e
    | some z => rfl
  · have kn : ∀ b o, s.heap.get? b = some o → σ b = none → σ' b = none := fun b o e n => by
      cases q : σ' b with
      | none => rfl
      | some z => have := S'.new b (by rw [q]; simp); rw [kb b o e n] at this; cases this
    refine ⟨h', tk, σ', e, S.of_sto ⟨fun b o e => ?_, S'.rep, fun a e => ?_⟩ T (fun b o e n => S'.keep _ _ (kb b o e n)) kn, T, r⟩
    · have n : σ b = none := by
        cases q : σ b with
        | none => rfl
        | some z => have := S.sto.new b (by rw [q]; simp); rw [e] at this; cases this
      exact S'.keep _ _ (kb b o (S.sto.keep _ _ e) n)
    · cases q : c.hb.get? a with
      | none => rfl
      | some z =>
        have n : σ a = none := by
          cases q' : σ a with
          | none => rfl
          | some z' => have := S.sto.new a (by rw [q']; simp); rw [q] at this; cases this
        exact absurd (kn a z (S.sto.keep _ _ q) n) e
end

-- part L3
noncomputable def op1 {α : Type} (f : Value → Sem α) : List Value → Sem α
  | [u] => f u
  | _ => unsupported ""
noncomputable def op2 {α : Type} (f : Value → Value → Sem α) : List Value → Sem α
  | [u, v] => f u v
  | _ => unsupported ""
noncomputable def op3 {α : Type} (f : Value → Value → Value → Sem α) : List Value → Sem α
  | [u, v, w] => f u v w
  | _ => unsupported ""
noncomputable def callL (f : Value) (us : List Value) : Sem Value := call f us

theorem Leaf.mono {α : Type} {P : Pg} {d : Nat} {t : List Value → Sem α} {args : List V} {σ : Store} {R R' : α → Heap → Store → Prop} (L : Leaf P d t args σ R) (k : ∀ a h σ', R a h σ' → R' a h σ') : Leaf P d t args σ R' :=
  fun b e s us S hv => wpAny_mono (L b e s us S hv) (fun a s' ⟨h', tk, σ', e, S', T, r⟩ => ⟨h', tk, σ', e, S', T, k _ _ _ r⟩) fun _ _ z => z

section
variable {P : Pg} {sc : Scope} {c : Cx P sc} {m : Loc} {σ : Store} {Q : V → Store → Prop} {B : Bool → Store → Prop}

theorem WE.mono {e : Expr} {Q' : V → Store → Prop} (h : WE c e m σ Q) (k : ∀ v σ', Q v σ' → Q' v σ') : WE c e m σ Q' :=
  fun s S => wpAny_mono (h s S) (fun a s' ⟨h', tk, σ', e, S', T, av, p, q⟩ => ⟨h', tk, σ', e, S', T, av, p, k _ _ q⟩) fun _ _ z => z
theorem WT.mono {e : Expr} {Q Q' : Bool → Store → Prop} (h : WT c e m σ Q) (k : ∀ v σ', Q v σ' → Q' v σ') : WT c e m σ Q' :=
  fun s S => wpAny_mono (h s S) (fun a s' ⟨h', tk, σ', e, S', T, q⟩ => ⟨h', tk, σ', e, S', T, k _ _ q⟩) fun _ _ z => z

theorem PostE.here {α : Type} {R : α → Heap → Store → Prop} {s : Shared} {tk : Nat} {a : α} (S : St c m σ s.heap) (r : R a s.heap σ) : PostE c m s R a { s with toks := tk } := ⟨s.heap, tk, σ, rfl, S, Tk.refl _, r⟩
theorem PostE.here' {α : Type} {R : α → Heap → Store → Prop} {s : Shared} {a : α} (S : St c m σ s.heap) (r : R a s.heap σ) : PostE c m s R a s := ⟨s.heap, s.toks, σ, rfl, S, Tk.refl _, r⟩

theorem load_name {s : Shared} {x : PySem.Str} {v : V} {R : Value → Shared → Prop} (S : St c m σ s.heap) (hv : m x = some v) (h : ∀ u, VR s.heap v u → R u s) (hn : (x == ("__classdict__" : PySem.Str)) = false) : wpAny (model P.prog P.w) c.A (loadName c.env x) R noE s := by
  obtain ⟨mm, hns, hm⟩ := S.ns
  rcases S.dom x v hv with hk | ⟨hk, hc⟩
  · obtain ⟨v', e1, e2⟩ := hm x v hv hk
    exact wpAny_loadName_local c.kind hk hns e1 (h _ e2)
  · obtain ⟨a, ha⟩ := Option.isSome_iff_exists.mp hc
    obtain ⟨ov, hcell, r⟩ := S.cell x a ha
    rcases hk with hk | hk
    · obtain ⟨v', e1, e2⟩ := r v hv (by rw [hk]; simp)
      subst e1
      exact wpAny_loadName_cell c.kind hk ha hcell (h _ e2)
    · obtain ⟨v', e1, e2⟩ := r v hv (by rw [hk]; simp)
      subst e1
      exact wpAny_loadName_free c.kind hk ha hcell (h _ e2) hn
theorem e_name {x : PySem.Str} {pos : Pos} {v : V} (hv : m x = some v) (h : Q v σ) (hd : (x == ("__debug__" : PySem.Str)) = false := by decide +kernel) (hn : (x == ("__classdict__" : PySem.Str)) = false := by decide +kernel) : WE c (.Name x pos) m σ Q :=
  fun s S => wpAny_Name (load_name S hv (fun u hu => PostE.here' S ⟨v, hu, h⟩) hn) hd

theorem e_int {i : Int} {k : Nat} {pos : Pos} (h : Q (.int i) σ) : WE c (.Constant (.int i) k pos) m σ Q :=
  fun s S => wpAny_Constant_int (PostE.here S ⟨_, VR_int.mpr ⟨_, rfl⟩, h⟩)
theorem e_str {x : PySem.Str} {k : Nat} {pos : Pos} (h : Q (.str x) σ) : WE c (.Constant (.str x) k pos) m σ Q :=
  fun s S => wpAny_Constant_str (PostE.here S ⟨_, VR_str.mpr ⟨_, rfl⟩, h⟩)
theorem e_bool {b : Bool} {k : Nat} {pos : Pos} (h : Q (.bool b) σ) : WE c (.Constant (.bool b) k pos) m σ Q :=
  fun s S => wpAny_Constant_bool (PostE.here' S ⟨_, VR_bool.mpr rfl, h⟩)
theorem e_none {k : Nat} {pos : Pos} (h : Q .none σ) : WE c (.Constant .none k pos) m σ Q :=
  fun s S => wpAny_Constant_none (PostE.here' S ⟨_, VR_none.mpr rfl, h⟩)

theorem e_binop {l r : Expr} {op : Operator} {pos : Pos} (h : WE c l m σ fun a σ₁ => WE c r m σ₁ fun b σ₂ => Leaf P c.d (op2 (binaryOp op)) [a, b] σ₂ (asV Q)) : WE c (.BinOp l op r pos) m σ Q := by
  intro s S
  refine wpAny_BinOp (thenE (h s S) fun u h1 t1 σ1 S1 T1 ⟨a, ha, h⟩ => thenE (h _ S1) fun v h2 t2 σ2 S2 T2 ⟨b, hb, h⟩ => ?_)
  exact wpAny_mono (h.lift S2 (VRs_cons.mpr ⟨_, _, rfl, ha.mono T2, VRs.one hb⟩)) (fun _ _ p => PostE.trans (T1.trans T2) p) fun _ _ z => z
theorem e_compare {l r : Expr} {op : CmpOp} {pos : Pos} (h : WE c l m σ fun a σ₁ => WE c r m σ₁ fun b σ₂ => Leaf P c.d (op2 (compareOp op)) [a, b] σ₂ (asV Q)) (hm : behindInMarks op r = false := by rfl) : WE c (.Compare l [op] [r] pos) m σ Q := by
  intro s S
  refine wpAny_Compare1 (thenE (h s S) fun u h1 t1 σ1 S1 T1 ⟨a, ha, h⟩ => thenE (h _ S1) fun v h2 t2 σ2 S2 T2 ⟨b, hb, h⟩ => ?_) hm
  exact wpAny_mono (h.lift S2 (VRs_cons.mpr ⟨_, _, rfl, ha.mono T2, VRs.one hb⟩)) (fun _ _ p => PostE.trans (T1.trans T2) p) fun _ _ z => z
theorem e_unary {x : Expr} {op : UnaryOp} {pos : Pos} (h : WE c x m σ fun a σ₁ => Leaf P c.d (op1 (unaryOp op)) [a] σ₁ (asV Q)) : WE c (.UnaryOp op x pos) m σ Q := by
  intro s S
  refine wpAny_UnaryOp (thenE (h s S) fun u h1 t1 σ1 S1 T1 ⟨a, ha, h⟩ => ?_)
  exact wpAny_mono (h.lift S1 (VRs.one ha)) (fun _ _ p => PostE.trans T1 p) fun _ _ z => z
theorem e_sub {o i : Expr} {pos : Pos} (h : WE c o m σ fun a σ₁ => WE c i m σ₁ fun b σ₂ => Leaf P c.d (op2 (subscriptTail o i)) [a, b] σ₂ (asV Q)) : WE c (.Subscript o i pos) m σ Q := by
  intro s S
  refine Subscript_ (thenE (h s S) fun u h1 t1 σ1 S1 T1 ⟨a, ha, h⟩ => thenE (h _ S1) fun v h2 t2 σ2 S2 T2 ⟨b, hb, h⟩ => ?_)
  exact wpAny_mono (h.lift S2 (VRs_cons.mpr ⟨_, _, rfl, ha.mono T2, VRs.one hb⟩)) (fun _ _ p => PostE.trans (T1.trans T2) p) fun _ _ z => z
theorem e_ifexp {t a b : Expr} {pos : Pos} (h : WT c t m σ fun q σ₁ => if q then WE c a m σ₁ Q else WE c b m σ₁ Q) : WE c (.IfExp t a b pos) m σ Q := by
  intro s S
  refine wpAny_IfExp (thenE (h s S) fun q h1 t1 σ1 S1 T1 h => ?_)
  cases q with
  | true => exact wpAny_mono (h _ S1) (fun _ _ p => PostE.trans T1 p) fun _ _ z => z
  | false => exact wpAny_mono (h _ S1) (fun _ _ p => PostE.trans T1 p) fun _ _ z => z
-- x and y, where x is a bool
theorem e_and {x y : Expr} {pos : Pos} (h : WE c x m σ fun v σ₁ => ∃ b, v = .bool b ∧ if b then WE c y m σ₁ Q else Q (.bool false) σ₁) : WE c (.BoolOp .And [x, y] pos) m σ Q := by
  intro s S
  refine wpAny_And2 (thenE (h s S) fun u h1 t1 σ1 S1 T1 ⟨a, ha, b, e, h⟩ => ?_)
  subst e
  have e := VR_bool.mp ha; subst e
  refine wpAny_truthy_bool ?_
  cases b with
  | true => exact wpAny_mono (h _ S1) (fun _ _ p => PostE.trans T1 p) fun _ _ z => z
  | false => exact ⟨h1, t1, σ1, rfl, S1, T1, _, ha, h⟩

theorem es_nil {pos : Pos} {Q : List V → Store → Prop} (h : Q [] σ) : WEs c pos [] m σ Q := fun s S => wpAny_items_nil (PostE.here' S ⟨_, VRs_nil.mpr rfl, h⟩)
theorem es_cons {pos : Pos} {e : Expr} {es : List Expr} {Q : List V → Store → Prop} (h : WE c e m σ fun a σ₁ => WEs c pos es m σ₁ fun as => Q (a :: as))
    (he : starEach (e :: es) c.env = (false, eval e c.env) :: starEach es c.env := by rfl) : WEs c pos (e :: es) m σ Q := by
  intro s S
  refine wpAny_items_cons (thenE (h s S) fun u h1 t1 σ1 S1 T1 ⟨a, ha, h⟩ => wpAny_mono (h _ S1) (fun vs s' ⟨h2, t2, σ2, e, S2, T2, as, hs, q⟩ => ?_) fun _ _ z => z) he
  subst e
  exact ⟨h2, t2, σ2, rfl, S2, T1.trans T2, a :: as, VRs_cons.mpr ⟨_, _, rfl, ha.mono T2, hs⟩, q⟩

-- a new object, known from here on
theorem St.add {h : Heap} {o : Obj} {a : O} (S : St c m σ h) (hf : o.isFreed = false) (r : Rep P.w (h.push o) h.objs.size a) : σ h.objs.size = none ∧ St c m (upd σ h.objs.size a) (h.push o) := by
  have hn : h.get? h.objs.size = none := Heap.get?_none_of_le (Nat.le_refl _)
  have k : ∀ b x, h.get? b = some x → (h.push o).get? b = some x := fun b x e => Heap.get?_push_of_some _ e
  refine ⟨S.sto.none_of_new hn, S.of_sto (S.sto.add hn k r) (Tk.of_keep k) (fun b x e _ => k b x e) fun b x e n => ?_⟩
  have : b ≠ h.objs.size := Nat.ne_of_lt (Heap.lt_size e)
  rw [upd_ne _ _ this]; exact n

theorem e_list {es : List Expr} {pos : Pos} (h : WEs c pos es m σ fun xs σ₁ => xs.length ≤ 1000 ∧ ∀ a, σ₁ a = none → Q (.ref a) (upd σ₁ a (.list xs))) : WE c (.List es pos) m σ Q := by
  intro s S
  refine wpAny_List (thenE (h s S) fun vs h1 t1 σ1 S1 T1 ⟨xs, hx, hl, q⟩ => ⟨by rw [hx.length, sizeLine_eq]; omega, ?_⟩)
  have k : Tk h1 (h1.push { cls := .type "list", data := .seq vs.toArray }) := Tk.of_keep fun b x e => Heap.get?_push_of_some _ e
  obtain ⟨n, S2⟩ := S1.add (o := { cls := .type "list", data := .seq vs.toArray }) (a := .list xs) rfl ⟨vs.toArray, ⟨_, Heap.get?_push_size _ rfl⟩, by simpa using hx.mono k⟩
  exact ⟨_, _, _, rfl, S2, T1.trans k, _, VR_ref.mpr rfl, q _ n⟩
theorem e_tuple {es : List Expr} {kd : Nat} {pos : Pos} (h : WEs c pos es m σ fun xs σ₁ => xs.length ≤ 1000 ∧ Q (.tup xs) σ₁) : WE c (.Tuple es kd pos) m σ Q := by
  intro s S
  refine wpAny_Tuple (thenE (h s S) fun vs h1 t1 σ1 S1 T1 ⟨xs, hx, hl, q⟩ => ⟨by rw [hx.length, sizeLine_eq]; omega, ?_⟩)
  have k : ∀ b x, h1.get? b = some x → (h1.push { cls := .type "tuple", data := .seq vs.toArray }).get? b = some x := fun b x e => Heap.get?_push_of_some _ e
  exact ⟨_, _, σ1, rfl, S1.grow k, T1.trans (Tk.of_keep k), _, VR_tup.mpr ⟨_, vs.toArray, rfl, ⟨_, Heap.get?_push_size _ rfl, rfl, _, rfl⟩, by simpa using hx.mono (Tk.of_keep k)⟩, q⟩

theorem t_value {e : Expr} (h : WE c e m σ fun v σ₁ => Leaf P c.d (op1 truthy) [v] σ₁ fun b _ σ => B b σ)
    (he : isTrue e c.env (eval e c.env) = (do let v ← eval e c.env; standAt e.pos; holding [v] (truthy v)) := by rfl) : WT c e m σ B := by
  intro s S
  refine wpAny_isTrue_value (thenE (h s S) fun u h1 t1 σ1 S1 T1 ⟨a, ha, h⟩ => ?_) he
  exact wpAny_mono (h.lift S1 (VRs.one ha)) (fun _ _ p => PostE.trans T1 p) fun _ _ z => z
theorem t_compare {l r : Expr} {op : CmpOp} {pos : Pos} (h : WE c l m σ fun a σ₁ => WE c r m σ₁ fun b σ₂ => Leaf P c.d (op2 (compareOp op)) [a, b] σ₂ (asV fun v σ => ∃ b, v = .bool b ∧ B b σ))
    (hm : behindInMarks op r = false := by rfl) : WT c (.Compare l [op] [r] pos) m σ B := by
  intro s S
  refine wpAny_isTrue_Compare1 (thenE (h s S) fun u h1 t1 σ1 S1 T1 ⟨a, ha, h⟩ => thenE (h _ S1) fun v h2 t2 σ2 S2 T2 ⟨b, hb, h⟩ => ?_) hm
  refine thenE (h.lift S2 (VRs_cons.mpr ⟨_, _, rfl, ha.mono T2, VRs.one hb⟩)) fun u h3 t3 σ3 S3 T3 ⟨x, hx, b, e, q⟩ => ?_
  subst e
  have e := VR_bool.mp hx; subst e
  exact wpAny_truthy_bool ⟨h3, t3, σ3, rfl, S3, (T1.trans T2).trans T3, q⟩
theorem t_and {es : List Expr} {pos : Pos} (h : WTs c es m σ B) : WT c (.BoolOp .And es pos) m σ B := fun s S => wpAny_isTrue_BoolOp (h s S)
theorem ts_nil (h : B true σ) : WTs c [] m σ B := fun s S => wpAny_allTrue_And_nil (PostE.here' S h)
theorem ts_cons {e : Expr} {es : List Expr} (h : WT c e m σ fun b σ₁ => if b then WTs c es m σ₁ B else B false σ₁) : WTs c (e :: es) m σ B := by
  intro s S
  refine wpAny_allTrue_And_cons (thenE (h s S) fun q h1 t1 σ1 S1 T1 h => ?_)
  cases q with
  | true => exact wpAny_mono (h _ S1) (fun _ _ p => PostE.trans T1 p) fun _ _ z => z
  | false => exact ⟨h1, t1, σ1, rfl, S1, T1, h⟩

theorem e_attr {o : Expr} {name : PySem.Str} {pos : Pos} (h : WE c o m σ fun a σ₁ => Leaf P c.d (op1 fun o => getAttr o name true) [a] σ₁ (asV Q))
    (he : attributeBase o name c.env (eval o c.env) = eval o c.env := by rfl) : WE c (.Attribute o name pos) m σ Q := by
  intro s S
  refine Attribute_any_ (thenE (h s S) fun u h1 t1 σ1 S1 T1 ⟨a, ha, h⟩ => ?_) (by
    show (do let o ← attributeBase o name c.env (eval o c.env); standAt pos.atName; let r ← holding [o] (getAttr o name true); letTemporaryGo _ o r; pure r) = _
    rw [he])
  exact wpAny_mono (h.lift S1 (VRs.one ha)) (fun _ _ p => PostE.trans T1 p) fun _ _ z => z

-- what may stand as a function
noncomputable def Callee (P : Pg) (f : Value) : Prop := ∀ M h, Base P h → ∃ k, (k = Keeper.frame ∨ k = Keeper.machine ∨ k = Keeper.boundFrame) ∧ Looks M h (keeperOf f) k
theorem callee_builtin {P : Pg} {i : String} : Callee P (.builtin i) := fun M h _ => ⟨.machine, .inr (.inl rfl), Looks.of_pure rfl⟩
theorem callee_type {P : Pg} {i : String} : Callee P (.type i) := fun M h _ => ⟨.machine, .inr (.inl rfl), Looks.of_pure rfl⟩
theorem callee_K {P : Pg} {f : Value} (hk : keepIn P.K f = true) : Callee P f := fun M h B => keeps_K hk h B.X

theorem Base.of_sto {P : Pg} {hb h : Heap} {σ : Store} (B : Base P hb) (S : Sto P.w hb σ h) : Base P h := B.keeps S.keep

-- the arguments, then the call
theorem callWith_ {s : Shared} {pos : Pos} {f : Value} {first : List V} {uf : List Value} {es : List Expr} (S : St c m σ s.heap) (hf : VRs s.heap first uf) (hk : Callee P f)
    (h : WEs c pos es m σ fun xs σ₁ => Leaf P c.d (callL f) (first ++ xs) σ₁ (asV Q))
    (hs : (backTo pos (starEach es c.env)).all (fun x => !x.1) = true) :
    wpAny (model P.prog P.w) c.A (callWith pos f uf (backTo pos (starEach es c.env)) []) (PostE c m s (asV Q)) noE s := by
  have hplain : (backTo pos (starEach es c.env)).any (·.1) = false := by
    cases q : (backTo pos (starEach es c.env)).any (·.1) with
    | false => rfl
    | true =>
      obtain ⟨x, hx, hx1⟩ := List.any_eq_true.mp q
      have := List.all_eq_true.mp hs x hx
      rw [hx1] at this; cases this
  refine callWith_of (P := fun h => Base P h) (by rw [hplain]; rfl) (fun h B => hk _ h B) ?_
  have go : wpAny (model P.prog P.w) c.A (spliced (backTo pos (starEach es c.env))) (fun vs s₁ => Base P s₁.heap ∧ wpAny (model P.prog P.w) c.A (call f (uf ++ vs) []) (PostE c m s (asV Q)) noE s₁) noE s :=
    thenE (h s S) fun vs h1 t1 σ1 S1 T1 ⟨xs, hx, h⟩ => ⟨c.base.of_sto S1.sto, wpAny_mono (h.lift S1 ((hf.mono T1).append hx)) (fun _ _ p => PostE.trans T1 p) fun _ _ z => z⟩
  cases q : backTo pos (starEach es c.env) with
  | nil =>
    rw [q] at go
    have e : spliced ([] : List (Bool × Sem Value)) = pure [] := rfl
    rw [e] at go
    exact evalArgs_nil3 ⟨c.base.of_sto S.sto, fun Γ p hΓ => (go Γ p hΓ).2 Γ p hΓ⟩
  | cons x r =>
    obtain ⟨b, t⟩ := x
    rw [q] at go hplain
    simp only [List.any_cons, Bool.or_eq_false_iff] at hplain
    obtain ⟨rfl, _⟩ := hplain
    exact evalArgs_plain go
end

-- part L4
noncomputable def locB : List (PySem.Str × V) → Loc → Loc
  | [], m => m
  | (n, v) :: r, m => locB r (setL m n v)
noncomputable def emp : Loc := fun _ => none

theorem bindL_rel {h : Heap} {k : PySem.Str → Option NameKind} : ∀ (names : List PySem.Str) (vs : List V) (us : List Value) (m : Loc) (mm : PySem.Str → Option Value), VRs h vs us →
    (∀ x v, m x = some v → k x = some .local → ∃ v', mm x = some v' ∧ VR h v v') → ∀ x v, locB (names.zip vs) m x = some v → k x = some .local → ∃ v', bindL k (names.zip us) mm x = some v' ∧ VR h v v'
  | [], vs, us, m, mm, _, hm => by simpa [locB, bindL] using hm
  | n :: ns, [], us, m, mm, e, hm => by have e := VRs_nil.mp e; subst e; simpa [locB, bindL] using hm
  | n :: ns, v :: vs, us, m, mm, e, hm => by
    obtain ⟨u, us', rfl, e2, e3⟩ := VRs_cons.mp e
    simp only [List.zip_cons_cons, locB, bindL]
    refine bindL_rel ns vs us' _ _ e3 fun x w hw hk => ?_
    unfold setL at hw
    by_cases q : x = n
    · subst q; simp at hw; subst hw; rw [if_pos hk]; exact ⟨u, by simp, e2⟩
    · simp [q] at hw
      obtain ⟨w', a, b⟩ := hm x w hw hk
      refine ⟨w', ?_, b⟩
      split
      · simp [q, a]
      · exact a
theorem bindC_rel {h : Heap} {k : PySem.Str → Option NameKind} : ∀ (names : List PySem.Str) (vs : List V) (us : List Value) (m : Loc) (mm : PySem.Str → Option Value), VRs h vs us →
    (∀ x v, m x = some v → k x ≠ some .local → ∃ v', mm x = some v' ∧ VR h v v') → ∀ x v, locB (names.zip vs) m x = some v → k x ≠ some .local → ∃ v', bindC k (names.zip us) mm x = some v' ∧ VR h v v'
  | [], vs, us, m, mm, _, hm => by simpa [locB, bindC] using hm
  | n :: ns, [], us, m, mm, e, hm => by have e := VRs_nil.mp e; subst e; simpa [locB, bindC] using hm
  | n :: ns, v :: vs, us, m, mm, e, hm => by
    obtain ⟨u, us', rfl, e2, e3⟩ := VRs_cons.mp e
    simp only [List.zip_cons_cons, locB, bindC]
    refine bindC_rel ns vs us' _ _ e3 fun x w hw hk => ?_
    unfold setL at hw
    by_cases q : x = n
    · subst q; simp at hw; subst hw; rw [if_neg hk]; exact ⟨u, by simp, e2⟩
    · simp [q] at hw
      obtain ⟨w', a, b⟩ := hm x w hw hk
      refine ⟨w', ?_, b⟩
      split
      · exact a
      · simp [q, a]
theorem locB_dom : ∀ (names : List PySem.Str) (vs : List V) (m : Loc) x v, locB (names.zip vs) m x = some v → x ∈ names ∨ m x = some v
  | [], vs, m, x, v, h => .inr (by simpa [locB] using h)
  | n :: ns, [], m, x, v, h => .inr (by simpa [locB] using h)
  | n :: ns, w :: vs, m, x, v, h => by
    simp only [List.zip_cons_cons, locB] at h
    rcases locB_dom ns vs _ x v h with h | h
    · exact .inl (.tail _ h)
    · unfold setL at h
      by_cases q : x = n
      · subst q; exact .inl (.head _)
      · simp [q] at h; exact .inr h

-- a def of the text
structure FnAt (P : Pg) (f : Addr) (qual : PySem.Str) (params : Arguments) (body : List Stmt) (scope : Scope) (dV : Value) : Prop where
  ex : ∃ name kV doc pm an cdv ct oc od osl, P.K.lookup f = some ⟨oc, od, .func (fnOf name qual params body scope dV kV doc pm an cdv ct), osl⟩ ∧ codeIn P.K cdv qual = true
  keep : keepIn P.K (.ref f) = true

-- a call, as the code that is run
noncomputable def LeafC (P : Pg) (d : Nat) (f : Value) (args : List V) (σ : Store) (R : Value → Heap → Store → Prop) : Prop :=
  ∀ (b : Bx P), b.d = d → ∀ s us, Sto P.w b.hb σ s.heap → VRs s.heap args us → codeAny (model P.prog P.w) b.A (.call f ⟨us, []⟩) (fun r s' => match r with | .ok (.ret v) => PostB b s R v s' | .ok _ => False | .error _ => False) s
theorem LeafC.leaf {P : Pg} {d : Nat} {f : Value} {args : List V} {σ : Store} {R : Value → Heap → Store → Prop} (h : LeafC P d f args σ R) : Leaf P d (callL f) args σ R :=
  fun b e s us S hv => wpAny_call (codeAny_mono (h b e s us S hv) fun r s' z => by
    rcases r with e | (v | _ | _ | _) <;> exact z)

theorem lenS {α : Type} {l : List α} {n : Nat} (h : l.length = n + 1) : ∃ a t, l = a :: t ∧ t.length = n := by
  cases l with
  | nil => cases h
  | cons a t => exact ⟨a, t, rfl, by simpa using h⟩
theorem len0 {α : Type} {l : List α} (h : l.length = 0) : l = [] := List.eq_nil_of_length_eq_zero h
theorem len1 {α : Type} {l : List α} (h : l.length = 1) : ∃ a, l = [a] := by
  obtain ⟨a, t, rfl, h1⟩ := lenS h
  exact ⟨a, by rw [len0 h1]⟩
theorem len2 {α : Type} {l : List α} (h : l.length = 2) : ∃ a b, l = [a, b] := by
  obtain ⟨a, t, rfl, h1⟩ := lenS h
  obtain ⟨b, rfl⟩ := len1 h1
  exact ⟨a, b, rfl⟩
theorem len3 {α : Type} {l : List α} (h : l.length = 3) : ∃ a b c, l = [a, b, c] := by
  obtain ⟨a, t, rfl, h1⟩ := lenS h
  obtain ⟨b, c, rfl⟩ := len2 h1
  exact ⟨a, b, c, rfl⟩
theorem len4 {α : Type} {l : List α} (h : l.length = 4) : ∃ a b c d, l = [a, b, c, d] := by
  obtain ⟨a, t, rfl, h1⟩ := lenS h
  obtain ⟨b, c, d, rfl⟩ := len3 h1
  exact ⟨a, b, c, d, rfl⟩
theorem len5 {α : Type} {l : List α} (h : l.length = 5) : ∃ a b c d e, l = [a, b, c, d, e] := by
  obtain ⟨a, t, rfl, h1⟩ := lenS h
  obtain ⟨b, c, d, e, rfl⟩ := len4 h1
  exact ⟨a, b, c, d, e, rfl⟩
theorem len6 {α : Type} {l : List α} (h : l.length = 6) : ∃ a b c d e f, l = [a, b, c, d, e, f] := by
  obtain ⟨a, t, rfl, h1⟩ := lenS h
  obtain ⟨b, c, d, e, f, rfl⟩ := len5 h1
  exact ⟨a, b, c, d, e, f, rfl⟩
theorem len7 {α : Type} {l : List α} (h : l.length = 7) : ∃ a b c d e f g, l = [a, b, c, d, e, f, g] := by
  obtain ⟨a, t, rfl, h1⟩ := lenS h
  obtain ⟨b, c, d, e, f, g, rfl⟩ := len6 h1
  exact ⟨a, b, c, d, e, f, g, rfl⟩
theorem len8 {α : Type} {l : List α} (h : l.length = 8) : ∃ a b c d e f g i, l = [a, b, c, d, e, f, g, i] := by
  obtain ⟨a, t, rfl, h1⟩ := lenS h
  obtain ⟨b, c, d, e, f, g, i, rfl⟩ := len7 h1
  exact ⟨a, b, c, d, e, f, g, i, rfl⟩

theorem fn_callC {P : Pg} {d : Nat} {f : Addr} {qual : PySem.Str} {params : Arguments} {body : List Stmt} {scope : Scope} {dV : Value} {args : List V} {σ : Store} {Q : V → Store → Prop} {ex : List Value} {exV : List V}
    (F : FnAt P f qual params body scope dV) (names : List PySem.Str)
    (hbind : ∀ name kV doc pm an cdv ct us s, us.length = args.length → P.K.In s.heap → BindsTo s (fnOf name qual params body scope dV kV doc pm an cdv ct) ⟨us, []⟩ (names.zip (us ++ ex)))
    (hex : ∀ h, VRs h exV ex)
    (hbody : ∀ c : Cx P scope, c.d = d → WB c body (locB (names.zip (args ++ exV)) emp) σ (fun fl _ σ' => match fl with | .ret v => Q v σ' | _ => Q .none σ'))
    (hkind : (names.all fun y => scope.names.lookup y == some .local || scope.names.lookup y == some .cell) = true := by decide +kernel)
    (hco : scope.isCoroutine = false := by rfl) (hgen : scope.isGenerator = false := by rfl) (hk : scope.kind = .function := by rfl) :
    LeafC P (d + 1) (.ref f) args σ (asV Q) := by
  intro b hbd s us S hv
  obtain ⟨name, kV, doc, pm, an, cdv, ct, oc, od, osl, ho, hcd⟩ := F.ex
  have hB := b.base.of_sto S
  have hroom := b.room
  have hunits := b.units
  refine (codeAny_call_function (fd := fnOf name qual params body scope dV kV doc pm an cdv ct) (body := body) (by show b.A.depth < 1000; omega) (hB.X _ _ ho) rfl hco hgen rfl (codeRec_of hB.X hcd) ?_)
  refine hbind name kV doc pm an cdv ct us s hv.length hB.X _ _ _ _ ?_
  have hmem : ∀ x ∈ names.zip (us ++ ex), scope.names.lookup x.1 = some .local ∨ scope.names.lookup x.1 = some .cell := fun x hx => by
    have := List.all_eq_true.mp hkind x.1 (List.of_mem_zip hx).1
    rcases Bool.or_eq_true_iff.mp this with q | q
    · exact .inl (by simpa using q)
    · exact .inr (by simpa using q)
  refine wpAny_newFunctionEnv_cells hk (fun x hx => (hmem x hx).imp id fun q => ⟨q, cellsFrom_some _ _ _ (.inl q)⟩) fun env he s' x => ?_
  subst he
  refine ⟨hB.lim.keeps x.toInCall.keep, codeAny_func ?_⟩
  obtain ⟨h₁, tk, rfl, hkp⟩ := x.done
  have hfresh : ∀ a, s.heap.objs.size ≤ a → b.hb.get? a = none ∧ σ a = none := fun a ha => by
    have n := Heap.get?_none_of_le ha
    refine ⟨?_, S.none_of_new n⟩
    cases q : b.hb.get? a with
    | none => rfl
    | some o => rw [S.keep _ _ q] at n; cases n
  have S1 : Sto P.w b.hb σ h₁ := S.grow hkp
  have hv1 : VRs h₁ (args ++ exV) (us ++ ex) := (VRs.mono (Tk.of_keep hkp) _ _ hv).append (hex _)
  let c : Cx P scope :=
    { A := b.A.deeper (newEnv scope s.heap.objs.size mainGlobals (cellsFrom (s.heap.objs.size + 1) scope.names []) (qual ++ ".<locals>.") (some f) cdv none builtinsNs), hb := b.hb, d := d, base := b.base, hh := b.hh, room := (by show b.A.depth + 1 + 4 * d ≤ 900; omega), units := (by show b.A.units + 3 + 100 * d ≤ 9000; omega),
      env := newEnv scope s.heap.objs.size mainGlobals (cellsFrom (s.heap.objs.size + 1) scope.names []) (qual ++ ".<locals>.") (some f) cdv none builtinsNs
      kind := hk, glob := rfl, blt := rfl, look := fun x k e _ => e, cellsOk := fun x e => cellsFrom_some _ _ _ (.inl e) }
  have Sc : St c (locB (names.zip (args ++ exV)) emp) σ h₁ := by
    refine ⟨S1, ⟨_, x.toInCall.ns, bindL_rel names _ _ _ _ hv1 fun _ _ e => by cases e⟩, fun y v e => ?_, fun y a e => ⟨_, x.cell y a e, fun v e1 e2 => ?_⟩, hfresh _ x.toInCall.fresh, fun y a e => hfresh _ (Nat.le_of_lt (Nat.lt_of_le_of_lt x.toInCall.fresh (x.above y a (mem_of_lookup e)))), fun y z a e1 e2 => name_of_addr x.apart (mem_of_lookup e1) (mem_of_lookup e2)⟩
    · rcases locB_dom _ _ _ _ _ e with q | q
      · have := List.all_eq_true.mp hkind y q
        rcases Bool.or_eq_true_iff.mp this with q | q
        · have q' : scope.names.lookup y = some .local := by simpa using q
          exact .inl q'
        · have q' : scope.names.lookup y = some .cell := by simpa using q
          exact .inr ⟨.inl q', cellsFrom_some _ _ _ (.inl q')⟩
      · cases q
    · exact bindC_rel names _ _ _ _ hv1 (fun _ _ e => by cases e) y v e1 e2
  refine wpAny_mono (hbody c rfl _ Sc) (fun fl s' p => ?_) fun _ _ z => z.elim
  obtain ⟨h', tk', σ', m', fl', rfl, S', T, r, q⟩ := p
  have T' : Tk s.heap h' := (Tk.of_keep hkp).trans T
  cases fl' with
  | ret v =>
    obtain ⟨u, rfl, hu⟩ := r
    exact ⟨h', tk', σ', rfl, S'.sto, T', v, hu, q⟩
  | next => cases r; exact ⟨h', tk', σ', rfl, S'.sto, T', .none, VR_none.mpr rfl, q⟩
  | brk => cases r; exact ⟨h', tk', σ', rfl, S'.sto, T', .none, VR_none.mpr rfl, q⟩
  | cont => cases r; exact ⟨h', tk', σ', rfl, S'.sto, T', .none, VR_none.mpr rfl, q⟩

section
variable {P : Pg} {sc : Scope} {c : Cx P sc} {m : Loc} {σ : Store} {Q : V → Store → Prop} {B : Bool → Store → Prop} {F : Fl → Loc → Store → Prop}

theorem name_fn {s : Shared} {x : PySem.Str} {pos : Pos} {v : Value} {R : Value → Shared → Prop} (S : St c m σ s.heap) (e : nsIn P.K mainGlobals x = some (some v)) (h : R v s) (hk : sc.names.lookup x = some .globalImplicit) (hd : (x == ("__debug__" : PySem.Str)) = false) :
    wpAny (model P.prog P.w) c.A (eval (.Name x pos) c.env) R noE s := by
  obtain ⟨mg, hg⟩ := c.base.g
  exact Name_function_global c.kind (c.look _ _ hk (by simp)) (loadGlobal_global (c.glob ▸ hg.keeps S.sto.keep) (mg_of c.base.X hg e) h) hd
theorem name_bt {s : Shared} {x : PySem.Str} {pos : Pos} {v : Value} {R : Value → Shared → Prop} (S : St c m σ s.heap) (e : nsIn P.K mainGlobals x = some none) (hv : bootBuiltins x = some v) (hn : x ≠ "__name__") (h : R v s) (hk : sc.names.lookup x = some .globalImplicit) (hd : (x == ("__debug__" : PySem.Str)) = false) :
    wpAny (model P.prog P.w) c.A (eval (.Name x pos) c.env) R noE s := by
  obtain ⟨mg, hg⟩ := c.base.g
  obtain ⟨mb, hb, hm⟩ := c.base.b
  exact Name_function_global c.kind (c.look _ _ hk (by simp)) (loadGlobal_builtin (c.glob ▸ hg.keeps S.sto.keep) (mg_none_of c.base.X hg e) (c.blt ▸ hb.keeps S.sto.keep) ((hm x hn).trans hv) h) hd

-- f(..), f a def or a class of the text
theorem e_call {x : PySem.Str} {p pos : Pos} {es : List Expr} {f : Value} (e : nsIn P.K mainGlobals x = some (some f)) (hf : keepIn P.K f = true)
    (h : WEs c pos es m σ fun xs σ₁ => Leaf P c.d (callL f) xs σ₁ (asV Q))
    (hk : sc.names.lookup x = some .globalImplicit := by kernel_rfl) (hs : (backTo pos (starEach es c.env)).all (fun x => !x.1) = true := by rfl) (hd : (x == ("__debug__" : PySem.Str)) = false := by decide +kernel) :
    WE c (.Call (.Name x p) es [] pos) m σ Q := fun s S =>
  wpAny_Call_NameR (name_fn S e (callWith_ S (first := []) (VRs_nil.mpr rfl) (callee_K hf) h hs) hk hd)
-- len(..) and its like
theorem e_callB {x : PySem.Str} {p pos : Pos} {es : List Expr} {f : Value} (hv : bootBuiltins x = some f) (hf : Callee P f) (e : nsIn P.K mainGlobals x = some none)
    (h : WEs c pos es m σ fun xs σ₁ => Leaf P c.d (callL f) xs σ₁ (asV Q)) (hn : x ≠ "__name__" := by decide +kernel)
    (hk : sc.names.lookup x = some .globalImplicit := by kernel_rfl) (hs : (backTo pos (starEach es c.env)).all (fun x => !x.1) = true := by rfl) (hd : (x == ("__debug__" : PySem.Str)) = false := by decide +kernel) :
    WE c (.Call (.Name x p) es [] pos) m σ Q := fun s S =>
  wpAny_Call_NameR (name_bt S e hv hn (callWith_ S (first := []) (VRs_nil.mpr rfl) hf h hs) hk hd)

-- what o.name gives to be called
noncomputable def Meth (P : Pg) (d : Nat) (name : PySem.Str) (o : V) (σ : Store) (f : Value) : Prop :=
  Callee P f ∧ ∀ b : Bx P, b.d = d → ∀ (s : Shared) u pl (R : Value × List Value → Shared → Prop), Sto P.w b.hb σ s.heap → VR s.heap o u → R (f, [u]) s → wpAny (model P.prog P.w) b.A (getMethod u name pl) R noE s

theorem e_meth {o : Expr} {name : PySem.Str} {ap pos : Pos} {es : List Expr} (h : WE c o m σ fun a σ₁ => ∃ f, Meth P c.d name a σ₁ f ∧ WEs c pos es m σ₁ fun xs σ₂ => Leaf P c.d (callL f) (a :: xs) σ₂ (asV Q))
    (hbase : attributeBase o name c.env (eval o c.env) = eval o c.env := by rfl)
    (hfew : ((backTo pos (starEach es c.env)).all (fun x => !x.1) && (backToKw pos (keywordEach [] c.env)).all (fun x => x.1.isSome)
      && decide (es.length + ([] : List Keyword).length + (if ([] : List Keyword).isEmpty then 0 else 1) < 30)) = true := by rfl)
    (hline : (ap.endLine == pos.line) = true := by rfl) :
    WE c (.Call (.Attribute o name ap) es [] pos) m σ Q := by
  intro s S
  rw [arm_eval_Call, hbase]
  refine wpAny_bind (thenE (h s S) fun u h1 t1 σ1 S1 T1 ⟨a, ha, f, ⟨hf, hm⟩, h⟩ => ?_)
  refine wpAny_bind (wpAny_standAt ?_)
  have hform : methodCallForm (es.length + ([] : List Keyword).length) (backTo pos (starEach es c.env)) (backToKw pos (keywordEach [] c.env)) = true := hfew
  have hpos : methodCallPos true o c.env ap pos = pure pos := by unfold methodCallPos; simp [hline]
  have hall : (backTo pos (starEach es c.env)).all (fun x => !x.1) = true := by
    rw [Bool.and_eq_true, Bool.and_eq_true] at hfew; exact hfew.1.1
  unfold methodCall
  rw [hform]
  unfold calleeOf
  rw [if_pos rfl]
  refine wpAny_bind (wpAny_holding ?_)
  exact hm c.toBx rfl _ u _ _ S1.sto ha (wpAny_bind (wpAny_of_eq hpos (wpAny_mono (callWith_ S1 (first := [a]) (VRs.one ha) hf h hall) (fun _ _ p => PostE.trans T1 p) fun _ _ z => z)))

theorem meth_builtin {d : Nat} {name : PySem.Str} {o : V} {T id : String} (pa : PlainAttrs T) (slot : Slot T name id) (hty : typeOf (.builtin id) = pure (.type "method_descriptor"))
    (hT : ∀ (s : Shared) hb u, Sto P.w hb σ s.heap → VR s.heap o u → s.TypeIs u T ∧ ∀ a, u = .ref a → ∃ ob, s.heap.get? a = some ob ∧ ob.dict = none) : Meth P d name o σ (.builtin id) := by
  refine ⟨callee_builtin, fun b _ s u pl R S ho r => ?_⟩
  obtain ⟨h1, h2⟩ := hT s b.hb u S ho
  exact getMethod_builtin h1 pa slot hty h2 r
end

-- part L5
theorem assignInOrder_cons (t : Value → Sem Unit) (ts : List (Value → Sem Unit)) (x : Value) (xs : List Value) : assignInOrder (t :: ts) (x :: xs) = (do holding xs (t x); assignInOrder ts xs) := rfl

section
variable {P : Pg} {sc : Scope} {c : Cx P sc} {m : Loc} {σ : Store} {Q : V → Store → Prop} {B : Bool → Store → Prop} {F : Fl → Loc → Store → Prop} {G : Loc → Store → Prop}

theorem store_name {s : Shared} {x : PySem.Str} {v : V} {u : Value} (S : St c m σ s.heap) (hv : VR s.heap v u) (hk : (sc.names.lookup x == some .local || sc.names.lookup x == some .cell) = true) (h : G (setL m x v) σ) :
    wpAny (model P.prog P.w) c.A (storeName c.env x u) (PostL c s G) noE s := by
  rcases Bool.or_eq_true_iff.mp hk with q | q
  · have q' : sc.names.lookup x = some .local := by simpa using q
    have kx := c.look x _ q' (by simp)
    obtain ⟨mm, hn, hm⟩ := S.ns
    refine wpAny_storeName_local kx hn (fun h' hn' hs => ?_) (by rw [c.kind]; rfl)
    obtain ⟨S', T⟩ := S.setLocal kx hn hm hn' hs hv
    exact ⟨h', _, σ, _, rfl, S', T, h⟩
  · have q' : sc.names.lookup x = some .cell := by simpa using q
    have kx := c.look x _ q' (by simp)
    obtain ⟨a, ha⟩ := Option.isSome_iff_exists.mp (c.cellsOk x q')
    obtain ⟨ov, hc, _⟩ := S.cell x a ha
    refine wpAny_storeName_cell c.kind kx ha hc fun h' hc' hs => ?_
    obtain ⟨S', T⟩ := S.setCell kx ha hc hc' hs hv
    exact ⟨h', s.toks, σ, _, rfl, S', T, h⟩

theorem a_name {x : PySem.Str} {pos : Pos} {v : V} (h : G (setL m x v) σ) (hk : (sc.names.lookup x == some .local || sc.names.lookup x == some .cell) = true := by kernel_rfl) : WA c (.Name x pos) v m σ G :=
  fun s u S hv => wpAny_assign_Name (store_name S hv hk h)

noncomputable def WAs (c : Cx P sc) : List Expr → List V → Loc → Store → (Loc → Store → Prop) → Prop
  | [], [], m, σ, G => G m σ
  | t :: ts, x :: xs, m, σ, G => WA c t x m σ fun m' σ' => WAs c ts xs m' σ' G
  | _, _, _, _, _ => False

theorem assignEach_plain {env : Env} : ∀ {ts : List Expr}, (ts.all fun | .Starred .. => false | _ => true) = true → assignEach ts env = ts.map fun t => (false, assign t env)
  | [], _ => rfl
  | t :: ts, h => by
    rw [List.all_cons, Bool.and_eq_true] at h
    have ih := assignEach_plain (env := env) h.2
    cases t <;> first | (simp at h; done) | (show (false, _) :: assignEach ts env = _; rw [ih]; rfl)

theorem was_nil {xs : List V} {m : Loc} {σ : Store} (h : WAs c [] xs m σ G) : xs = [] ∧ G m σ := by
  cases xs with
  | nil => exact ⟨rfl, h⟩
  | cons x xs => exact False.elim h
theorem was_cons {t : Expr} {ts : List Expr} {xs : List V} {m : Loc} {σ : Store} (h : WAs c (t :: ts) xs m σ G) : ∃ x ys, xs = x :: ys ∧ WA c t x m σ fun m' σ' => WAs c ts ys m' σ' G := by
  cases xs with
  | nil => exact False.elim h
  | cons x xs => exact ⟨x, xs, rfl, h⟩
theorem was_run (ts : List Expr) : ∀ (xs : List V) (us : List Value) (m : Loc) (σ : Store) (s : Shared), WAs c ts xs m σ G → St c m σ s.heap → VRs s.heap xs us →
    wpAny (model P.prog P.w) c.A (assignInOrder (ts.map fun t => assign t c.env) us) (PostL c s G) noE s := by
  induction ts with
  | nil =>
    intro xs us m σ s h S hv
    obtain ⟨rfl, h⟩ := was_nil h
    have e := VRs_nil.mp hv; subst e
    exact wpAny_pure ⟨s.heap, s.toks, σ, m, rfl, S, Tk.refl _, h⟩
  | cons t ts ih =>
    intro xs us m σ s h S hv
    obtain ⟨x, xs, rfl, h⟩ := was_cons h
    obtain ⟨u, us', rfl, e2, e3⟩ := VRs_cons.mp hv
    rw [List.map_cons, assignInOrder_cons]
    refine wpAny_bind (wpAny_holding (thenL (h s u S e2) fun h' tk σ' m' S' T r => ?_))
    exact wpAny_mono (ih xs us' m' σ' _ r S' (e3.mono T)) (fun _ _ p => PostL.trans T p) fun _ _ z => z

theorem a_tuple {ts : List Expr} {k : Nat} {pos : Pos} {xs : List V} (h : WAs c ts xs m σ G) (hl : ts.length = xs.length := by rfl) (hp : (ts.all fun | .Starred .. => false | _ => true) = true := by rfl) : WA c (.Tuple ts k pos) (.tup xs) m σ G := by
  intro s u S hv
  obtain ⟨a, items, rfl, ht, hvs⟩ := VR_tup.mp hv
  have e := assignEach_plain (env := c.env) hp
  refine wpAny_assign_Tuple c.hh ht ?_ ?_ fun h' he => ?_
  · rw [e, List.length_map]
    have := hvs.length
    simp at this
    omega
  · rw [e, List.findIdx?_eq_none_iff]; intro y hy; obtain ⟨t, _, rfl⟩ := List.mem_map.mp hy; rfl
  · have k : ∀ b o, s.heap.get? b = some o → h'.get? b = some o := fun b o q => he b o (Nat.ne_of_lt (Heap.lt_size q)) q
    rw [e, List.map_map]
    exact wpAny_mono (was_run ts xs _ m σ { s with heap := h' } h (S.grow k) (hvs.mono (Tk.of_keep k))) (fun _ _ p => PostL.trans (Tk.of_keep k) p) fun _ _ z => z

-- statements
theorem b_nil (h : F .next m σ) : WB c [] m σ F := fun s S => wpAny_execs_nil ⟨s.heap, s.toks, σ, m, .next, rfl, S, Tk.refl _, rfl, h⟩
noncomputable def goOn (c : Cx P sc) (rest : List Stmt) (F : Fl → Loc → Store → Prop) : Fl → Loc → Store → Prop
  | .next, m, σ => WB c rest m σ F
  | .brk, m, σ => F .brk m σ
  | .cont, m, σ => F .cont m σ
  | .ret v, m, σ => F (.ret v) m σ
theorem b_cons {st : Stmt} {rest : List Stmt} (h : WX c st m σ (goOn c rest F)) : WB c (st :: rest) m σ F := by
  intro s S
  refine wpAny_execs_cons (thenX (h s S) fun f h' tk σ' m' fl S' T r q => ?_)
  cases fl with
  | next => cases r; exact wpAny_mono (q _ S') (fun _ _ p => PostX.trans T p) fun _ _ z => z
  | brk => cases r; exact ⟨h', tk, σ', m', .brk, rfl, S', T, rfl, q⟩
  | cont => cases r; exact ⟨h', tk, σ', m', .cont, rfl, S', T, rfl, q⟩
  | ret v =>
    obtain ⟨u, rfl, hu⟩ := r
    exact ⟨h', tk, σ', m', .ret v, rfl, S', T, ⟨u, rfl, hu⟩, q⟩

theorem x_assign {x : PySem.Str} {p pos : Pos} {value : Expr} (h : WE c value m σ fun v σ₁ => F .next (setL m x v) σ₁)
    (hk : (sc.names.lookup x == some .local || sc.names.lookup x == some .cell) = true := by kernel_rfl) (hs : swapsWith value (some (.Name x p)) pos.line c.env = pure false := by rfl) : WX c (.Assign [.Name x p] value pos) m σ F := by
  intro s S
  refine wpAny_Assign_Name (thenE (h s S) fun u h1 t1 σ1 S1 T1 ⟨v, hv, q⟩ => ?_) hs
  exact thenL (store_name (G := F .next) S1 hv hk q) fun h2 t2 σ2 m2 S2 T2 r => ⟨h2, t2, σ2, m2, .next, rfl, S2, T1.trans T2, rfl, r⟩
theorem x_assign_tuple {ts : List Expr} {k : Nat} {p pos : Pos} {value : Expr} (h : WE c value m σ fun v σ₁ => WA c (.Tuple ts k p) v m σ₁ (F .next))
    (hs : swapsWithSole [.Tuple ts k p] value pos.line c.env = pure false := by rfl) (hw : swappedStores [.Tuple ts k p] value c.env = pure none := by rfl) : WX c (.Assign [.Tuple ts k p] value pos) m σ F := by
  intro s S
  refine wpAny_Assign_stores (thenE (h s S) fun u h1 t1 σ1 S1 T1 ⟨v, hv, q⟩ => ?_) hs hw
  show wpAny _ _ (assign (.Tuple ts k p) c.env u) _ _ _
  exact thenL (q _ u S1 hv) fun h2 t2 σ2 m2 S2 T2 r => ⟨h2, t2, σ2, m2, .next, rfl, S2, T1.trans T2, rfl, r⟩
theorem x_assign_sub {o i value : Expr} {p pos : Pos} (h : WE c value m σ fun v σ₁ => WE c o m σ₁ fun a σ₂ => WE c i m σ₂ fun b σ₃ => Leaf P c.d (op3 setItem) [a, b, v] σ₃ fun _ _ σ' => F .next m σ')
    (hs : swapsWith value (some (.Subscript o i p)) pos.line c.env = pure false := by rfl) : WX c (.Assign [.Subscript o i p] value pos) m σ F := by
  intro s S
  refine wpAny_Assign_Subscript (thenE (h s S) fun u h1 t1 σ1 S1 T1 ⟨v, hv, q⟩ => thenE (q _ S1) fun u2 h2 t2 σ2 S2 T2 ⟨a, ha, q⟩ => thenE (q _ S2) fun u3 h3 t3 σ3 S3 T3 ⟨b, hb, q⟩ => ?_) hs
  exact thenE (q.lift S3 (VRs_cons.mpr ⟨_, _, rfl, ha.mono T3, VRs_cons.mpr ⟨_, _, rfl, hb, VRs.one (hv.mono (T2.trans T3))⟩⟩)) fun _ h4 t4 σ4 S4 T4 r =>
    ⟨h4, t4, σ4, m, .next, rfl, S4, ((T1.trans T2).trans T3).trans T4, rfl, r⟩
theorem x_assign_attr {o value : Expr} {name : PySem.Str} {p pos : Pos} (h : WE c value m σ fun v σ₁ => WE c o m σ₁ fun a σ₂ => Leaf P c.d (op2 fun o v => setAttr o name v) [a, v] σ₂ fun _ _ σ' => F .next m σ')
    (hs : swapsWith value (some (.Attribute o name p)) pos.line c.env = pure false := by rfl) : WX c (.Assign [.Attribute o name p] value pos) m σ F := by
  intro s S
  refine plainObj_wpAny_Assign_Attribute (thenE (h s S) fun u h1 t1 σ1 S1 T1 ⟨v, hv, q⟩ => thenE (q _ S1) fun u2 h2 t2 σ2 S2 T2 ⟨a, ha, q⟩ => ?_) hs
  exact thenE (q.lift S2 (VRs_cons.mpr ⟨_, _, rfl, ha, VRs.one (hv.mono T2)⟩)) fun _ h4 t4 σ4 S4 T4 r => ⟨h4, t4, σ4, m, .next, rfl, S4, (T1.trans T2).trans T4, rfl, r⟩

theorem x_aug_name {x : PySem.Str} {p pos : Pos} {op : Operator} {value : Expr} {old : V} (hx : m x = some old) (h : WE c value m σ fun v σ₁ => Leaf P c.d (op2 (inplaceOp op)) [old, v] σ₁ (asV fun r σ₂ => F .next (setL m x r) σ₂))
    (hk : (sc.names.lookup x == some .local || sc.names.lookup x == some .cell) = true := by kernel_rfl) (hd : (x == ("__debug__" : PySem.Str)) = false := by decide +kernel) (hn : (x == ("__classdict__" : PySem.Str)) = false := by decide +kernel) : WX c (.AugAssign (.Name x p) op value pos) m σ F := by
  intro s S
  refine wpAny_AugAssign_Name (load_name S hx (fun u0 hu0 => thenE (h s S) fun u h1 t1 σ1 S1 T1 ⟨v, hv, q⟩ => ?_) hn)
  exact thenE (q.lift S1 (VRs_cons.mpr ⟨_, _, rfl, hu0.mono T1, VRs.one hv⟩)) fun r h2 t2 σ2 S2 T2 ⟨rv, hr, q⟩ =>
    thenL (store_name (G := F .next) S2 hr hk q) fun h3 t3 σ3 m3 S3 T3 r => ⟨h3, t3, σ3, m3, .next, rfl, S3, (T1.trans T2).trans T3, rfl, r⟩
theorem x_aug_attr {o value : Expr} {name : PySem.Str} {p pos : Pos} {op : Operator} (h : WE c o m σ fun a σ₁ => Leaf P c.d (op1 fun o => getAttr o name true) [a] σ₁ (asV fun old σ₂ => WE c value m σ₂ fun v σ₃ =>
      Leaf P c.d (op2 (inplaceOp op)) [old, v] σ₃ (asV fun r σ₄ => Leaf P c.d (op2 fun o v => setAttr o name v) [a, r] σ₄ fun _ _ σ' => F .next m σ'))) : WX c (.AugAssign (.Attribute o name p) op value pos) m σ F := by
  intro s S
  refine wpAny_AugAssign_AttributeAny (thenE (h s S) fun u h1 t1 σ1 S1 T1 ⟨a, ha, q⟩ => thenE (q.lift S1 (VRs.one ha)) fun u2 h2 t2 σ2 S2 T2 ⟨old, hold, q⟩ =>
    thenE (q _ S2) fun u3 h3 t3 σ3 S3 T3 ⟨v, hv, q⟩ => thenE (q.lift S3 (VRs_cons.mpr ⟨_, _, rfl, hold.mono T3, VRs.one hv⟩)) fun u4 h4 t4 σ4 S4 T4 ⟨r, hr, q⟩ => ?_)
  exact thenE (q.lift S4 (VRs_cons.mpr ⟨_, _, rfl, ha.mono ((T2.trans T3).trans T4), VRs.one hr⟩)) fun _ h5 t5 σ5 S5 T5 r => ⟨h5, t5, σ5, m, .next, rfl, S5, (((T1.trans T2).trans T3).trans T4).trans T5, rfl, r⟩
theorem x_aug_sub {o i value : Expr} {p pos : Pos} {op : Operator} (h : WE c o m σ fun a σ₁ => WE c i m σ₁ fun b σ₂ => Leaf P c.d (op2 getItem) [a, b] σ₂ (asV fun old σ₃ => WE c value m σ₃ fun v σ₄ =>
      Leaf P c.d (op2 (inplaceOp op)) [old, v] σ₄ (asV fun r σ₅ => Leaf P c.d (op3 setItem) [a, b, r] σ₅ fun _ _ σ' => F .next m σ')))
    (hi : ∀ ov iv new, augStore i ov iv new = (do holding [new, ov, iv] (setItem ov iv new); release [new, ov, iv] []; pure .next) := by intros; rfl) : WX c (.AugAssign (.Subscript o i p) op value pos) m σ F := by
  intro s S
  refine wpAny_AugAssign_SubscriptAny (thenE (h s S) fun u h1 t1 σ1 S1 T1 ⟨a, ha, q⟩ => thenE (q _ S1) fun u2 h2 t2 σ2 S2 T2 ⟨b, hb, q⟩ => thenE (q.lift S2 (VRs_cons.mpr ⟨_, _, rfl, ha.mono T2, VRs.one hb⟩)) fun u3 h3 t3 σ3 S3 T3 ⟨old, hold, q⟩ =>
    thenE (q _ S3) fun u4 h4 t4 σ4 S4 T4 ⟨v, hv, q⟩ => thenE (q.lift S4 (VRs_cons.mpr ⟨_, _, rfl, hold.mono T4, VRs.one hv⟩)) fun u5 h5 t5 σ5 S5 T5 ⟨r, hr, q⟩ => ?_) hi
  have T25 := ((T2.trans T3).trans T4).trans T5
  have T35 := (T3.trans T4).trans T5
  exact thenE (q.lift S5 (VRs_cons.mpr ⟨_, _, rfl, ha.mono T25, VRs_cons.mpr ⟨_, _, rfl, hb.mono T35, VRs.one hr⟩⟩)) fun _ h6 t6 σ6 S6 T6 r => ⟨h6, t6, σ6, m, .next, rfl, S6, (T1.trans T25).trans T6, rfl, r⟩
theorem x_expr {e : Expr} {pos : Pos} (h : WE c e m σ fun _ σ₁ => F .next m σ₁) (hs : swapsWith e none pos.line c.env = pure false := by rfl) : WX c (.Expr e pos) m σ F := by
  intro s S
  have hi : interactive c.env = false := by unfold interactive; rw [c.kind]; rfl
  exact wpAny_Expr_any (thenE (h s S) fun u h1 t1 σ1 S1 T1 ⟨v, hv, q⟩ => ⟨h1, t1, σ1, m, .next, rfl, S1, T1, rfl, q⟩) hi hs
theorem x_if {t : Expr} {a b : List Stmt} {pos : Pos} (h : WT c t m σ fun q σ₁ => if q then WB c a m σ₁ F else WB c b m σ₁ F) : WX c (.If t a b pos) m σ F := by
  intro s S
  refine wpAny_If (thenE (h s S) fun q h1 t1 σ1 S1 T1 h => ?_)
  cases q with
  | true => exact wpAny_mono (h _ S1) (fun _ _ p => PostX.trans T1 p) fun _ _ z => z
  | false => exact wpAny_mono (h _ S1) (fun _ _ p => PostX.trans T1 p) fun _ _ z => z
theorem x_return {e : Expr} {pos : Pos} (h : WE c e m σ fun v σ₁ => F (.ret v) m σ₁) : WX c (.Return (some e) pos) m σ F := by
  intro s S
  exact wpAny_Return_some (thenE (h s S) fun u h1 t1 σ1 S1 T1 ⟨v, hv, q⟩ => ⟨h1, t1, σ1, m, .ret v, rfl, S1, T1, ⟨u, rfl, hv⟩, q⟩)
theorem x_break {pos : Pos} (h : F .brk m σ) : WX c (.Break pos) m σ F := fun s S => wpAny_Break ⟨s.heap, s.toks, σ, m, .brk, rfl, S, Tk.refl _, rfl, h⟩
end

-- part L6
-- how a loop's turn ends
noncomputable def loopF (N : Loc → Store → Prop) (F : Fl → Loc → Store → Prop) : Fl → Loc → Store → Prop
  | .next, m, σ => N m σ
  | .cont, m, σ => N m σ
  | .brk, m, σ => F .next m σ
  | .ret v, m, σ => F (.ret v) m σ

noncomputable def ownedBy : List String := ["enumerate", "zip", "dict_itemiterator", "dict_reverseitemiterator", "odict_iterator", "itertools.zip_longest", "itertools.pairwise"]
noncomputable def plainIt (o : Obj) : Prop := ∃ n, o.cls = .type n ∧ ownedBy.contains n = false ∧ o.isFreed = false ∧ isTupO o = false

-- iterating v, while C holds, gives the items
noncomputable def Iter (P : Pg) (σ : Store) (v : V) (C : Store → Prop) (items : List V) : Prop :=
  ∀ (b : Bx P) (s : Shared) u, Sto P.w b.hb σ s.heap → VR s.heap v u → ∃ It : Nat → Obj → Prop, (∀ i o, It i o → plainIt o) ∧
    (∀ R : Value → Shared → Prop, (∀ o, It 0 o → R (.ref s.heap.objs.size) { s with heap := s.heap.push o }) → wpAny (model P.prog P.w) b.A (pyIter u) R noE s) ∧
    (∀ (b' : Bx P) σ' (s' : Shared) I o i x (R : Option Value → Shared → Prop), C σ' → Sto P.w b'.hb σ' s'.heap → Tk s.heap s'.heap → s'.heap.get? I = some o → It i o → items[i]? = some x →
      (∀ u' h' o' tk, VR s'.heap x u' → Heap.SameBut I s'.heap h' → h'.get? I = some o' → It (i + 1) o' → R (some u') { s' with heap := h', toks := tk }) → wpAny (model P.prog P.w) b'.A (pyNext (.ref I)) R noE s') ∧
    (∀ (b' : Bx P) σ' (s' : Shared) I o (R : Option Value → Shared → Prop), C σ' → Sto P.w b'.hb σ' s'.heap → Tk s.heap s'.heap → s'.heap.get? I = some o → It items.length o →
      (∀ h' tk, Heap.ExtBut I s'.heap h' → R none { s' with heap := h', toks := tk }) → wpAny (model P.prog P.w) b'.A (pyNext (.ref I)) R noE s') ∧
    (∀ (A : Around) (s' : Shared) I o i (R : Value → Shared → Prop), s'.heap.get? I = some o → It i o → R (.ref I) s' → wpAny (model P.prog P.w) A (pyIter (.ref I)) R noE s')

theorem letOwned {M : Model} {A : Around} {s : Shared} {target : Expr} {I : Addr} {o : Obj} {v : Value} {R : Unit → Shared → Prop} (ho : s.heap.get? I = some o) (hp : plainIt o) (h : R () s) :
    wpAny M A (letOwnedTupleGo target (.ref I) v) R noE s := by
  obtain ⟨n, hc, hn, _⟩ := hp
  have go : wpAny M A (match Value.ref I, v with
      | .ref r, .ref a => (do
        let o ← load r
        match o.cls, o.data with
        | .type n, .fields vs =>
          if ["enumerate", "zip", "dict_itemiterator", "dict_reverseitemiterator", "odict_iterator", "itertools.zip_longest", "itertools.pairwise"].contains n && vs[0]? == some (rawInt a) then
            rule "for.unpacks-the-owned-tuple"
            updateField r 0 .none
        | _, _ => pure () : Sem Unit)
      | _, _ => pure ()) R noE s := by
    cases v with
    | ref a =>
      refine wpAny_bind (wpAny_load ho ?_)
      rw [hc]
      cases o.data with
      | fields vs =>
        have : (["enumerate", "zip", "dict_itemiterator", "dict_reverseitemiterator", "odict_iterator", "itertools.zip_longest", "itertools.pairwise"].contains n && vs[0]? == some (rawInt a)) = false := by
          have hn' : (["enumerate", "zip", "dict_itemiterator", "dict_reverseitemiterator", "odict_iterator", "itertools.zip_longest", "itertools.pairwise"].contains n) = false := hn
          rw [hn', Bool.false_and]
        simp only [this, Bool.false_eq_true, if_false]
        exact wpAny_pure h
      | _ => exact wpAny_pure h
    | _ => exact wpAny_pure h
  unfold letOwnedTupleGo
  cases target <;> first | exact wpAny_pure h | (cases v <;> exact go)

section
variable {P : Pg} {sc : Scope} {c : Cx P sc} {m : Loc} {σ : Store} {F : Fl → Loc → Store → Prop}

theorem x_while {test : Expr} {body : List Stmt} {pos : Pos} (I : Nat → Loc → Store → Prop) {n : Nat} (h0 : I n m σ)
    (turn : ∀ n m σ, I n m σ → WT c test m σ fun b σ' => if b then WB c body m σ' (loopF (fun m σ => ∃ k, k < n ∧ I k m σ) F) else F .next m σ') : WX c (.While test body [] pos) m σ F := by
  intro s S
  refine wpAny_While (codeAny_whileLoop (fun n s' => ∃ h' tk σ' m', s' = { s with heap := h', toks := tk } ∧ St c m' σ' h' ∧ Tk s.heap h' ∧ I n m' σ') ?_ n ⟨s.heap, s.toks, σ, m, rfl, S, Tk.refl _, h0⟩)
  rintro n s' ⟨h', tk, σ', m', rfl, S', T, hI⟩
  refine wpAny_mono (turn n m' σ' hI _ S') (fun b s2 ⟨h2, t2, σ2, e, S2, T2, q⟩ => ?_) fun _ _ z => z.elim
  subst e
  cases b with
  | false => exact wpAny_execs_nil ⟨h2, t2, σ2, m', .next, rfl, S2, T.trans T2, rfl, q⟩
  | true =>
    refine wpAny_mono (q _ S2) (fun f s3 ⟨h3, t3, σ3, m3, fl, e, S3, T3, r, q⟩ => ?_) fun _ _ z => z.elim
    subst e
    have T' := (T.trans T2).trans T3
    cases fl with
    | next => cases r; obtain ⟨k, hk, hI⟩ := q; exact ⟨k, hk, h3, t3, σ3, m3, rfl, S3, T', hI⟩
    | cont => cases r; obtain ⟨k, hk, hI⟩ := q; exact ⟨k, hk, h3, t3, σ3, m3, rfl, S3, T', hI⟩
    | brk => cases r; exact ⟨h3, t3, σ3, m3, .next, rfl, S3, T', rfl, q⟩
    | ret v => obtain ⟨u, rfl, hu⟩ := r; exact ⟨h3, t3, σ3, m3, .ret v, rfl, S3, T', ⟨u, rfl, hu⟩, q⟩

-- the heap as it stands, less what the store and the frame may turn
theorem St.freeze {h : Heap} {I : Addr} {o : Obj} (S : St c m σ h) (hI : c.hb.get? I = none) (ho : h.get? I = some o) (hσ : σ I = none) (hL : I ≠ c.env.locals) (hC : ∀ x a, c.env.cells.lookup x = some a → I ≠ a) :
    ∃ c' : Cx P sc, c'.d = c.d ∧ c'.A = c.A ∧ c'.env = c.env ∧ (∀ a, a ≠ I → c.hb.get? a = none → c'.hb.get? a = none) ∧ St c' m σ h ∧ ∀ m' σ' h', St c' m' σ' h' → St c m' σ' h' ∧ h'.get? I = some o ∧ σ' I = none := by
  let p : Addr → Bool := fun b => !(b == I || (c.hb.get? b).isSome)
  have g1 : ∀ b x, (hideP h p).get? b = some x → h.get? b = some x ∧ (b = I ∨ (c.hb.get? b).isSome = true) := fun b x e => by
    rw [hideP_get] at e
    split at e
    · cases e
    · rename_i q
      have q' : (b == I || (c.hb.get? b).isSome) = true := by
        cases hh : (b == I || (c.hb.get? b).isSome) with
        | true => rfl
        | false => exact absurd (by show (!(b == I || (c.hb.get? b).isSome)) = true; rw [hh]; rfl) q
      refine ⟨e, ?_⟩
      rcases Bool.or_eq_true_iff.mp q' with q | q
      · exact .inl (by simpa using q)
      · exact .inr q
  have g2 : ∀ b x, c.hb.get? b = some x → (hideP h p).get? b = some x := fun b x e => by
    rw [hideP_get]
    have : p b = false := by simp [p, e]
    rw [this]; exact S.sto.keep b x e
  have g3 : (hideP h p).get? I = some o := by
    rw [hideP_get]
    have : p I = false := by simp [p]
    rw [this]; exact ho
  have g4 : ∀ b, b ≠ I → c.hb.get? b = none → (hideP h p).get? b = none := fun b q e => by
    rw [hideP_get]
    have : p b = true := by simp [p, q, e]
    rw [this]; rfl
  refine ⟨{ c with hb := hideP h p, base := c.base.keeps g2 }, rfl, rfl, rfl, g4, ?_, fun m' σ' h' S' => ?_⟩
  · refine ⟨⟨fun b x e => (g1 b x e).1, S.sto.rep, fun a e => ?_⟩, S.ns, S.dom, S.cell, ⟨g4 _ (Ne.symm hL) S.newL.1, S.newL.2⟩, fun x a e => ⟨g4 _ (Ne.symm (hC x a e)) (S.newC x a e).1, (S.newC x a e).2⟩, S.inj⟩
    exact g4 a (fun q => by subst q; exact e hσ) (S.sto.new a e)
  · have hn : σ' I = none := by
      cases q : σ' I with
      | none => rfl
      | some z => have := S'.sto.new I (by rw [q]; simp); rw [g3] at this; cases this
    refine ⟨⟨⟨fun b x e => S'.sto.keep b x (g2 b x e), S'.sto.rep, fun a e => ?_⟩, S'.ns, S'.dom, S'.cell, ⟨?_, S'.newL.2⟩, fun x a e => ⟨?_, (S'.newC x a e).2⟩, S'.inj⟩, S'.sto.keep _ _ g3, hn⟩
    · cases q : c.hb.get? a with
      | none => rfl
      | some z => have := S'.sto.new a e; rw [g2 _ _ q] at this; cases this
    · exact S.newL.1
    · exact (S.newC x a e).1

theorem x_for {target iter : Expr} {body : List Stmt} {pos : Pos}
    (h : WE c iter m σ fun v σ₁ => ∃ C items, Iter P σ₁ v C items ∧ ∃ J : Nat → Loc → Store → Prop, J 0 m σ₁ ∧ (∀ i m σ, J i m σ → C σ) ∧
      (∀ (c' : Cx P sc), c'.d = c.d → ∀ i x m σ, items[i]? = some x → J i m σ → WA c' target x m σ fun m' σ' => WB c' body m' σ' (loopF (J (i + 1)) F)) ∧ (∀ m σ, J items.length m σ → F .next m σ))
    (hs : ∀ x, foldedSetIterable iter c.env x = pure x := by intro _; rfl) : WX c (.For target iter body [] pos) m σ F := by
  intro s S
  refine wpAny_For (thenE (h s S) fun u h1 t1 σ1 S1 T1 ⟨v, hv, C, items, hit, J, j0, jC, turn, fin⟩ => ?_) hs
  obtain ⟨It, hpl, hiter, hnext, hend, _⟩ := hit c.toBx { s with heap := h1, toks := t1 } u S1.sto hv
  refine hiter _ fun o ho => ?_
  have k1 : ∀ b x, h1.get? b = some x → (h1.push o).get? b = some x := fun b x e => Heap.get?_push_of_some _ e
  have hfr : (h1.push o).get? h1.objs.size = some o := Heap.get?_push_size _ (by obtain ⟨_, _, _, q, _⟩ := hpl _ _ ho; exact q)
  have hIn : h1.get? h1.objs.size = none := Heap.get?_none_of_le (Nat.le_refl _)
  have hIb : c.hb.get? h1.objs.size = none := by
    cases q : c.hb.get? h1.objs.size with
    | none => rfl
    | some z => rw [S1.sto.keep _ _ q] at hIn; cases hIn
  have hIL : h1.objs.size ≠ c.env.locals := fun q => by obtain ⟨mm, hn, _⟩ := S1.ns; have := hn.lt; rw [← q] at this; exact absurd this (Nat.lt_irrefl _)
  have hIC : ∀ x a, c.env.cells.lookup x = some a → h1.objs.size ≠ a := fun x a e q => by obtain ⟨ov, hc, _⟩ := S1.cell x a e; have := hc.lt; rw [← q] at this; exact absurd this (Nat.lt_irrefl _)
  refine codeAny_forLoop_any (fun k s' => ∃ i h' tk σ' m' o', k = items.length - i ∧ i ≤ items.length ∧ s' = { s with heap := h', toks := tk } ∧ St c m' σ' h' ∧ Tk h1 h' ∧ h'.get? h1.objs.size = some o' ∧ It i o' ∧ σ' h1.objs.size = none ∧ J i m' σ') ?_ (items.length - 0)
    ⟨0, h1.push o, t1, σ1, m, o, rfl, Nat.zero_le _, rfl, S1.grow k1, Tk.of_keep k1, hfr, ho, S1.sto.none_of_new hIn, j0⟩
  rintro k s' ⟨i, h', tk, σ', m', o', rfl, hi, rfl, S', T', ho', hIt, hσ', hJ⟩
  have C' := jC _ _ _ hJ
  -- what holds when the iterator alone has changed
  have but : ∀ {h2 : Heap}, Heap.ExtBut h1.objs.size h' h2 → St c m' σ' h2 ∧ Tk h' h2 := fun {h2} he => by
    obtain ⟨n, q1, q2, q3, q4⟩ := hpl _ _ hIt
    have T2 : Tk h' h2 := Tk.but ho' q4 fun b x q e => he b x q e
    have kk : ∀ b x, b ≠ h1.objs.size → h'.get? b = some x → h2.get? b = some x := fun b x q e => he b x q e
    refine ⟨⟨⟨fun b x e => kk b x (fun q => by rw [q, hIb] at e; cases e) (S'.sto.keep b x e), fun a x e => (S'.sto.rep a x e).mono T2 fun z hz => kk a z (fun q => by rw [q, hσ'] at e; cases e) hz, S'.sto.new⟩, ?_, S'.dom, ?_, S'.newL, S'.newC, S'.inj⟩, T2⟩
    · obtain ⟨mm, hn, hm⟩ := S'.ns
      refine ⟨mm, hn.at' fun x e => kk _ x (Ne.symm hIL) e, fun x v e1 e2 => ?_⟩
      obtain ⟨v', a, b⟩ := hm x v e1 e2
      exact ⟨v', a, b.mono T2⟩
    · intro x a e
      obtain ⟨ov, ⟨oc, hoc, hd⟩, r⟩ := S'.cell x a e
      refine ⟨ov, ⟨oc, kk _ _ (Ne.symm (hIC x a e)) hoc, hd⟩, fun v e1 e2 => ?_⟩
      obtain ⟨v', a, b⟩ := r v e1 e2
      exact ⟨v', a, b.mono T2⟩
  by_cases hlt : i < items.length
  · refine wpAny_mono (hnext c.toBx σ' _ _ o' i items[i] (fun r s1 => ∃ u' h2 o2 tk2, r = some u' ∧ VR h' items[i] u' ∧ Heap.SameBut h1.objs.size h' h2 ∧ h2.get? h1.objs.size = some o2 ∧ It (i + 1) o2 ∧ s1 = { s with heap := h2, toks := tk2 })
      C' S'.sto T' ho' hIt (List.getElem?_eq_getElem hlt) fun u' h2 o2 tk2 a b d e => ⟨u', h2, o2, tk2, rfl, a, b, d, e, rfl⟩) (fun r s1 q => ?_) fun _ _ z => z.elim
    obtain ⟨u', h2, o2, tk2, rfl, hu', hs2, ho2, hIt2, rfl⟩ := q
    obtain ⟨S2, T2⟩ := but hs2.extBut
    refine wpAny_mono (letOwned ho2 (hpl _ _ hIt2) (R := fun _ s' => s' = { s with heap := h2, toks := tk2 }) rfl) (fun _ s2 e => ?_) fun _ _ z => z.elim
    subst e
    obtain ⟨c', hd', hA', hE', _, Sc, back⟩ := S2.freeze hIb ho2 hσ' hIL hIC
    have hw := turn c' hd' i items[i] m' σ' (List.getElem?_eq_getElem hlt) hJ { s with heap := h2, toks := tk2 } u' Sc (hu'.mono T2)
    rw [hA', hE'] at hw
    refine wpAny_mono hw (fun _ s3 ⟨h3, t3, σ3, m3, e3, S3, T3, q3⟩ => ?_) fun _ _ z => z.elim
    subst e3
    have hw2 := q3 { s with heap := h3, toks := t3 } S3
    rw [hA', hE'] at hw2
    refine wpAny_mono hw2 (fun f s4 ⟨h4, t4, σ4, m4, fl, e4, S4, T4, r, q4⟩ => ?_) fun _ _ z => z.elim
    subst e4
    obtain ⟨S4', ho4, hn4⟩ := back _ _ _ S4
    have T14 : Tk h1 h4 := ((T'.trans T2).trans T3).trans T4
    have Ts : Tk s.heap h4 := T1.trans T14
    cases fl with
    | next => cases r; exact ⟨items.length - (i + 1), by omega, i + 1, h4, t4, σ4, m4, o2, rfl, hlt, rfl, S4', T14, ho4, hIt2, hn4, q4⟩
    | cont => cases r; exact ⟨items.length - (i + 1), by omega, i + 1, h4, t4, σ4, m4, o2, rfl, hlt, rfl, S4', T14, ho4, hIt2, hn4, q4⟩
    | brk => cases r; exact ⟨h4, t4, σ4, m4, .next, rfl, S4', Ts, rfl, q4⟩
    | ret v => obtain ⟨u, rfl, hu⟩ := r; exact ⟨h4, t4, σ4, m4, .ret v, rfl, S4', Ts, ⟨u, rfl, hu⟩, q4⟩
  · have he : i = items.length := by omega
    subst he
    refine wpAny_mono (hend c.toBx σ' _ _ o' (fun r s1 => r = none ∧ ∃ h2 tk2, Heap.ExtBut h1.objs.size h' h2 ∧ s1 = { s with heap := h2, toks := tk2 }) C' S'.sto T' ho' hIt fun h2 tk2 he => ⟨rfl, h2, tk2, he, rfl⟩) (fun r s1 q => ?_) fun _ _ z => z.elim
    obtain ⟨rfl, h2, tk2, he, rfl⟩ := q
    obtain ⟨S2, T2⟩ := but he
    exact wpAny_execs_nil ⟨h2, tk2, σ', m', .next, rfl, S2, (T1.trans T').trans T2, rfl, fin _ _ hJ⟩
end

-- part L7

section
variable {P : Pg} {σ : Store}
theorem iter_list {a : Addr} {xs : List V} (ha : σ a = some (.list xs)) : Iter P σ (.ref a) (fun σ' => σ' a = some (.list xs)) xs := by
  intro b s u S hv
  have e := VR_ref.mp hv; subst e
  refine ⟨fun i o => o.cls = .type "list_iterator" ∧ o.data = .fields #[.ref a, .int i 0], fun i o h => ⟨"list_iterator", h.1, by decide, Obj.isFreed_of_fields h.2, by unfold isTupO; rw [h.2]; simp⟩, ?_, ?_, ?_, ?_⟩
  · intro R h
    obtain ⟨items, hl, _⟩ := S.rep a _ ha
    exact wpAny_pyIter_list hl.isList (h _ ⟨rfl, rfl⟩)
  · intro b' σ' s' I o i x R hC S' T ho hI hx h
    obtain ⟨items, hl, hvs⟩ := S'.rep a _ hC
    obtain ⟨u, hu, hr⟩ := hvs.get hx
    refine wpAny_pyNext_list_item (x := u) ⟨o, ho, hI⟩ hl.isList (by rw [← hu]; simp) fun h' ⟨o', ho', hI'⟩ hs => ?_
    exact h u h' o' s'.toks hr hs ho' hI'
  · intro b' σ' s' I o R hC S' T ho hI h
    obtain ⟨items, hl, hvs⟩ := S'.rep a _ hC
    refine wpAny_pyNext_list_end (i := xs.length) b'.hh ⟨o, ho, hI⟩ hl.isList ?_ fun h' he => h h' s'.toks he
    have := hvs.length
    simp at this
    exact Array.getElem?_eq_none (by omega)
  · intro A s' I o i R ho hI h
    exact wpAny_pyIter_listiter ⟨o, ho, hI⟩ h

theorem iter_tup {xs : List V} : Iter P σ (.tup xs) (fun _ => True) xs := by
  intro b s u S hv
  obtain ⟨a, items, rfl, ht, hvs⟩ := VR_tup.mp hv
  have ht0 := ht
  obtain ⟨o0, ho0, hc0, n0, hd0⟩ := ht0
  have keep : ∀ {h' : Heap}, Tk s.heap h' → h'.IsTuple a items := fun {h'} T => ⟨o0, T _ _ ho0 (by unfold isTupO; rw [hc0, hd0]; rfl), hc0, n0, hd0⟩
  refine ⟨fun i o => o.cls = .type "tuple_iterator" ∧ o.data = .fields #[.ref a, .int i 0], fun i o h => ⟨"tuple_iterator", h.1, by decide, Obj.isFreed_of_fields h.2, by unfold isTupO; rw [h.2]; simp⟩, ?_, ?_, ?_, ?_⟩
  · intro R h
    exact wpAny_pyIter_tuple ht (h _ ⟨rfl, rfl⟩)
  · intro b' σ' s' I o i x R hC S' T ho hI hx h
    obtain ⟨u, hu, hr⟩ := hvs.get hx
    refine wpAny_pyNext_tuple_item (x := u) ⟨o, ho, hI⟩ (keep T) (by rw [← hu]; simp) fun h' ⟨o', ho', hI'⟩ hs => ?_
    exact h u h' o' s'.toks (hr.mono T) hs ho' hI'
  · intro b' σ' s' I o R hC S' T ho hI h
    refine wpAny_pyNext_tuple_end (i := xs.length) b'.hh ⟨o, ho, hI⟩ (keep T) ?_ fun h' he => h h' s'.toks he
    have := hvs.length
    simp at this
    exact Array.getElem?_eq_none (by omega)
  · intro A s' I o i R ho hI h
    exact wpAny_pyIter_tupleiter ⟨o, ho, hI⟩ h

theorem small_to (n : Int) (h : n < 2 ^ 40) : Builtin.Range.small 0 n 1 = true ∨ n < -(2 ^ 62) := by
  by_cases q : n < -(2 ^ 62)
  · exact .inr q
  · left
    unfold Builtin.Range.small Builtin.Range.rangeFitsLong Builtin.Range.rangeSize
    simp only [gt_iff_lt, show (0 : Int) < 1 from by decide, if_true]
    by_cases z : (0 : Int) < n
    · simp [z]; omega
    · simp [z]; omega
theorem size_to (n : Int) : Builtin.Range.rangeSize 0 n 1 = (n.toNat : Int) := by
  unfold Builtin.Range.rangeSize
  simp only [gt_iff_lt, show (0 : Int) < 1 from by decide, if_true]
  by_cases z : (0 : Int) < n
  · simp [z]; omega
  · simp [z]; omega

theorem iter_range {r : Addr} {n : Int} (hr : σ r = some (.range n)) (h0 : 0 ≤ n) (h1 : n < 2 ^ 40) : Iter P σ (.ref r) (fun _ => True) ((List.range n.toNat).map fun (i : Nat) => V.int (i : Int)) := by
  intro b s u S hv
  have e := VR_ref.mp hv; subst e
  refine ⟨fun i o => o = { cls := .type "range_iterator", data := .fields #[rawInt (i : Int), rawInt ((n.toNat : Int) - (i : Int)), rawInt 1] }, fun i o h => ⟨"range_iterator", by rw [h], by decide, by rw [h]; rfl, by rw [h]; rfl⟩, ?_, ?_, ?_, ?_⟩
  · intro R h
    obtain ⟨t, u, v, ho⟩ := S.rep r _ hr
    refine wpAny_pyIter_range ho ((small_to n h1).resolve_right (by omega)) ?_
    rw [size_to]
    exact h _ (by simp)
  · intro b' σ' s' I o i x R hC S' T ho hI hx h
    rw [List.getElem?_map] at hx
    obtain ⟨j, hj, rfl⟩ := Option.map_eq_some_iff.mp hx
    obtain ⟨hlt, e⟩ := List.getElem?_eq_some_iff.mp hj
    simp at hlt e
    subst e
    rw [hI] at ho
    refine wpAny_pyNext_range_item ho (by omega) fun h' ho' hs => ?_
    exact h _ h' _ _ (VR_int.mpr ⟨_, rfl⟩) hs ho' (by
      have e1 : ((i + 1 : Nat) : Int) = (i : Int) + 1 := by omega
      have e2 : (n.toNat : Int) - ((i + 1 : Nat) : Int) = (n.toNat : Int) - (i : Int) - 1 := by omega
      show _ = ({ cls := .type "range_iterator", data := .fields #[rawInt ((i + 1 : Nat) : Int), rawInt ((n.toNat : Int) - ((i + 1 : Nat) : Int)), rawInt 1] } : Obj)
      rw [e2, e1])
  · intro b' σ' s' I o R hC S' T ho hI h
    rw [hI] at ho
    exact wpAny_pyNext_range_end b'.hh ho (by rw [List.length_map, List.length_range]; omega) fun h' he => h h' s'.toks he
  · intro A s' I o i R ho hI h
    rw [hI] at ho
    exact wpAny_pyIter_rangeiter ho h

-- a dict's keys, whatever they are
theorem pyIter_dictG {A : Around} {s : Shared} {d : Addr} {o : Obj} {es : Array DictEntry} {ep : Nat} {R : Value → Shared → Prop} (hd : (d == sysModules) = false) (ho : s.heap.get? d = some o) (hx : o.ExactDict) (hdat : o.data = .dict es ep)
    (h : R (.ref s.heap.objs.size) { s with heap := s.heap.push { cls := .type "dict_keyiterator", data := .fields #[.ref d, .int 0 0, .int es.size 0, .int ep 0] } }) : wpAny (model P.prog P.w) A (pyIter (.ref d)) R noE s := by
  have hT : s.TypeIs (.ref d) "dict" := ⟨o, ho, hx.1⟩
  refine wpAny_pyIter_slot hT F.slot_dict_iter (wpAny_call_entry F.slot_dict_iter hT F.entry_dict_iter ?_ (F.args_dict_iter_1 _))
  unfold Builtin.«dict.__iter__» Builtin.Dict.dictSlotNone
  refine wpAny_bind (wpAny_bind (wpAny_notOrdered_dict hT (wpAny_pure ?_)))
  show wpAny _ _ (Builtin.Dict.showsAll d >>= _) _ _ s
  have e : Builtin.Dict.showsAll d = pure () := by unfold Builtin.Dict.showsAll; rw [hd]; rfl
  rw [e]
  refine wpAny_bind (wpAny_pure (wpAny_bind (wpAny_dictEntries ho hdat (wpAny_bind (wpAny_dictEpoch ho hdat ?_)))))
  exact wpAny_bind (wpAny_newObj_type (wpAny_pure ⟨_, rfl, "dict_keyiterator", _, ⟨_, Heap.get?_push_size _ rfl, rfl⟩, F.slot_dict_keyiterator_next.lookup, h⟩))

noncomputable def KIt (d : Addr) (n ep : Nat) (i : Nat) (o : Obj) : Prop := o.cls = .type "dict_keyiterator" ∧ o.data = .fields #[.ref d, .int i 0, .int n 0, .int ep 0]

theorem pyNext_dictG_item {A : Around} {s : Shared} {d it : Addr} {o io : Obj} {es : Array DictEntry} {ep i : Nat} {R : Option Value → Shared → Prop} (ho : s.heap.get? d = some o) (hdat : o.data = .dict es ep) (hio : s.heap.get? it = some io) (hI : KIt d es.size ep i io)
    (hlt : i < es.size) (h : ∀ h' io', Heap.SameBut it s.heap h' → h'.get? it = some io' → KIt d es.size ep (i + 1) io' → R (some es[i].key) { s with heap := h' }) : wpAny (model P.prog P.w) A (pyNext (.ref it)) R noE s := by
  obtain ⟨hc, hd⟩ := hI
  have hT : s.TypeIs (.ref it) "dict_keyiterator" := ⟨io, hio, hc⟩
  unfold pyNext
  refine wpAny_bind (wpAny_attempt (wpAny_callSpecial?_slot (name := Str.ofString "__next__") hT F.slot_dict_keyiterator_next
    (wpAny_call_entry F.slot_dict_keyiterator_next hT F.entry_dict_keyiterator_next ?_ (F.args_dict_keyiterator_next_1 _))))
  refine wpAny_bind (wpAny_pure (wpAny_bind (wpAny_bind (wpAny_bind (wpAny_typeNameOfWhole_keyiter hT (wpAny_pure ?_))))))
  refine wpAny_bind (wpAny_fieldsOf hio hd ?_)
  simp only [show Builtin.Dict_items.ownsTuple "dict_keyiterator" = false from by decide, Bool.false_eq_true, if_false]
  show wpAny _ _ (if (Value.ref d == Value.none) = true then _ else _) _ _ s
  rw [if_neg (show ¬ ((Value.ref d == Value.none) = true) from Bool.false_ne_true)]
  refine wpAny_bind (wpAny_pure (wpAny_bind (wpAny_dictEntries ho hdat ?_)))
  rw [if_neg (by simp)]
  refine wpAny_bind (wpAny_pure (wpAny_bind (wpAny_dictEpoch ho hdat ?_)))
  rw [if_neg (by simp)]
  refine wpAny_pure ?_
  simp only [show ¬ ((i : Int) < 0) from by omega, if_false, Int.toNat_natCast, Array.getElem?_eq_getElem hlt]
  refine wpAny_bind (wpAny_bind (wpAny_typeNameOfWhole_keyiter hT (wpAny_pure (wpAny_bind (wpAny_isOneOf_keyiter hT ?_)))))
  show wpAny _ _ (setField (.ref it) 1 (rawInt ((i : Int) + 1)) >>= _) _ _ s
  refine wpAny_bind (wpAny_setField hio hd (by simp) ?_)
  have g1 : (s.heap.update it (Obj.mapFields (·.setIfInBounds 1 (rawInt ((i : Int) + 1))))).get? it = some (io.mapFields (·.setIfInBounds 1 (rawInt ((i : Int) + 1)))) :=
    Heap.get?_update_self _ hio (Obj.isFreed_of_fields (Obj.data_mapFields hd _))
  have g2 : KIt d es.size ep (i + 1) (io.mapFields (·.setIfInBounds 1 (rawInt ((i : Int) + 1)))) := ⟨(Obj.cls_mapFields ..).trans hc, by rw [Obj.data_mapFields hd]; simp [rawInt]⟩
  refine wpAny_bind (wpAny_holding (wpAny_bind (wpAny_isOneOf_keyiter (s := { s with heap := s.heap.update it (Obj.mapFields (·.setIfInBounds 1 (rawInt ((i : Int) + 1)))) }) ⟨_, g1, g2.1⟩ ?_)))
  show wpAny _ _ (pure es[i].key) _ _ _
  exact wpAny_pure (wpAny_pure ⟨_, rfl, wpAny_pure (h _ _ (Heap.SameBut.update ..) g1 g2)⟩)

theorem pyNext_dictG_end {A : Around} {s : Shared} {d it : Addr} {o io : Obj} {es : Array DictEntry} {ep : Nat} {R : Option Value → Shared → Prop} (hh : A.handled = none) (ho : s.heap.get? d = some o) (hdat : o.data = .dict es ep) (hio : s.heap.get? it = some io) (hI : KIt d es.size ep es.size io)
    (h : ∀ h', Heap.ExtBut it s.heap h' → R none { s with heap := h' }) : wpAny (model P.prog P.w) A (pyNext (.ref it)) R noE s := by
  obtain ⟨hc, hd⟩ := hI
  have hT : s.TypeIs (.ref it) "dict_keyiterator" := ⟨io, hio, hc⟩
  unfold pyNext
  refine wpAny_bind (wpAny_attempt (wpAny_callSpecial?_slot (name := Str.ofString "__next__") hT F.slot_dict_keyiterator_next
    (wpAny_call_entry F.slot_dict_keyiterator_next hT F.entry_dict_keyiterator_next ?_ (F.args_dict_keyiterator_next_1 _))))
  refine wpAny_bind (wpAny_pure (wpAny_bind (wpAny_bind (wpAny_bind (wpAny_typeNameOfWhole_keyiter hT (wpAny_pure ?_))))))
  refine wpAny_bind (wpAny_fieldsOf hio hd ?_)
  simp only [show Builtin.Dict_items.ownsTuple "dict_keyiterator" = false from by decide, Bool.false_eq_true, if_false]
  show wpAny _ _ (if (Value.ref d == Value.none) = true then _ else _) _ _ s
  rw [if_neg (show ¬ ((Value.ref d == Value.none) = true) from Bool.false_ne_true)]
  refine wpAny_bind (wpAny_pure (wpAny_bind (wpAny_dictEntries ho hdat ?_)))
  rw [if_neg (by simp)]
  refine wpAny_bind (wpAny_pure (wpAny_bind (wpAny_dictEpoch ho hdat ?_)))
  rw [if_neg (by simp)]
  refine wpAny_pure ?_
  simp only [show ¬ (((es.size : Nat) : Int) < 0) from by omega, if_false, Int.toNat_natCast, Array.getElem?_eq_none (Nat.le_refl _)]
  refine wpAny_bind (wpAny_bind (wpAny_typeNameOfWhole_keyiter hT (wpAny_pure ?_)))
  show wpAny _ _ (setField (.ref it) 0 .none >>= _) _ _ s
  refine wpAny_bind (wpAny_setField hio hd (by simp) ?_)
  show wpAny _ _ (newExc (.type "StopIteration") [] >>= _) _ _ _
  refine wpAny_bind ?_
  simp only [newExc, newTuple]
  refine wpAny_bind (wpAny_newObj_type ?_ (by size_fits))
  refine wpAny_bind (m := firstArgMember _ _) (wpAny_of_eq (a := Value.none) (by first | rfl | (simp only [firstArgMember]; rfl)) ?_)
  refine wpAny_newObj_type ?_ (by size_fits)
  simp only [raiseNew]
  refine wpAny_bind (wpAny_handled ?_)
  rw [show A.in1.handled = none from hh]
  refine wpAny_bind (wpAny_pure (wpAny_throw ?_))
  refine wpAny_bind (wpAny_isInstance (T := "StopIteration") (b := true) ⟨_, Heap.get?_push_size _ rfl, rfl⟩ isSubtype_stop ?_)
  exact wpAny_pure (h _ (((Heap.SameBut.update ..).extBut.push _).push _))

theorem ER.get {w : World} {h : Heap} : ∀ {kvs : List (V × V)} {es : List DictEntry} {i : Nat} {k v : V}, ER w h kvs es → kvs[i]? = some (k, v) → ∃ e, es[i]? = some e ∧ VR h k e.key ∧ VR h v e.val ∧ e.hash = hashV w k
  | [], es, i, k, v, _, hx => by simp at hx
  | (x, y) :: r, es, i, k, v, e, hx => by
    obtain ⟨en, es', rfl, e2, e3, e4, e5⟩ := e
    cases i with
    | zero => simp at hx; obtain ⟨rfl, rfl⟩ := hx; exact ⟨en, rfl, e2, e3, e4⟩
    | succ i => simp at hx; obtain ⟨z, hz, r⟩ := ER.get e5 hx; exact ⟨z, by simpa using hz, r⟩

theorem iter_dict {d : Addr} {kvs : List (V × V)} {ep : Nat} (ha : σ d = some (.dict kvs ep)) : Iter P σ (.ref d) (fun σ' => σ' d = some (.dict kvs ep)) (kvs.map (·.1)) := by
  intro b s u S hv
  have e := VR_ref.mp hv; subst e
  refine ⟨fun i o => KIt d kvs.length ep i o, fun i o h => ⟨"dict_keyiterator", h.1, by decide, Obj.isFreed_of_fields h.2, by unfold isTupO; rw [h.2]; simp⟩, ?_, ?_, ?_, ?_⟩
  · intro R h
    obtain ⟨o, es, ho, hx, hdat, hr, hs, _⟩ := S.rep d _ ha
    have hl := hr.length
    simp at hl
    exact pyIter_dictG hs ho hx hdat (h _ ⟨rfl, by rw [hl]; rfl⟩)
  · intro b' σ' s' I o i x R hC S' T ho hI hx h
    obtain ⟨od, es, hod, hex, hdat, hr, hs⟩ := S'.rep d _ hC
    have hl := hr.length
    simp at hl
    rw [List.getElem?_map] at hx
    obtain ⟨⟨k, v⟩, hkv, rfl⟩ := Option.map_eq_some_iff.mp hx
    obtain ⟨e, he, h1, h2, h3⟩ := hr.get hkv
    obtain ⟨hlt, heq⟩ := List.getElem?_eq_some_iff.mp he
    simp at hlt heq
    refine pyNext_dictG_item hod hdat ho (by rw [hl]; exact hI) hlt fun h' io' hs' ho' hI' => ?_
    rw [hl] at hI'
    exact h _ h' io' s'.toks (by rw [heq]; exact h1) hs' ho' hI'
  · intro b' σ' s' I o R hC S' T ho hI h
    obtain ⟨od, es, hod, hex, hdat, hr, hs⟩ := S'.rep d _ hC
    have hl := hr.length
    simp at hl
    rw [List.length_map] at hI
    exact pyNext_dictG_end b'.hh hod hdat ho (by rw [hl]; exact hI) fun h' he => h h' s'.toks he
  · intro A s' I o i R ho hI h
    exact wpAny_pyIter_keyiter ⟨o, ho, hI⟩ h
end

-- part L8
-- comprehensions
noncomputable def freeL (scope : Scope) (m : Loc) : Loc := fun y => if scope.names.lookup y = some .free then m y else none

noncomputable def LoopRule (M : Model) (e : Expr) (depth : Nat) : Prop :=
  ∀ (A : Around) (it acc : Value) (env : Env) (R : Result → Shared → Prop) (I : Nat → Shared → Prop),
    (∀ n s, I n s → wpAny M A (compTurn e depth it acc env) (fun fin s' => match fin with | .done f => R (.ok f) s' | .again c' => c' = .compLoop e depth it acc env ∧ ∃ m, m < n ∧ I m s') noE s) →
    ∀ n s, I n s → codeAny M A (.compLoop e depth it acc env) R s
noncomputable def StartRule (M : Model) (e : Expr) (depth : Nat) : Prop :=
  ∀ (A : Around) (it acc : Value) (env : Env) (R : Result → Shared → Prop) (s : Shared), codeAny M A (.compLoop e depth it acc env) R s →
    wpAny M A (pyIter it) (fun it' s' => codeAny M A (.compLoop e depth it' acc env) R s') noE s → codeAny M A (.compStart e depth it acc env) R s

section
variable {P : Pg}
theorem loop_list {elt : Expr} {gens : List Comprehension} {scope : Scope} {pos : Pos} {depth : Nat} : LoopRule (model P.prog P.w) (.ListComp elt gens scope pos) depth := by
  intro A it acc env R I turn n s h
  refine codeAny_loop rfl I (fun n s hI => ?_) n h
  show wpAny _ A ((compTurn (.ListComp elt gens scope pos) depth it acc env).onRaise (fun x => do noteFrame x env; theTreesLotGoes x)) _ _ s
  exact wpAny_noted (wpAny_mono (turn n s hI) (fun _ _ p => p) fun _ _ z => z.elim)
theorem loop_dict {k v : Expr} {gens : List Comprehension} {scope : Scope} {pos : Pos} {depth : Nat} : LoopRule (model P.prog P.w) (.DictComp k v gens scope pos) depth := by
  intro A it acc env R I turn n s h
  refine codeAny_loop rfl I (fun n s hI => ?_) n h
  show wpAny _ A ((compTurn (.DictComp k v gens scope pos) depth it acc env).onRaise (fun x => do noteFrame x env; theTreesLotGoes x)) _ _ s
  exact wpAny_noted (wpAny_mono (turn n s hI) (fun _ _ p => p) fun _ _ z => z.elim)

theorem compStart_eq (e : Expr) (depth : Nat) (g : Comprehension) (hg : (clausesOf e)[depth]? = some g) (ha : g.is_async = 0) (it acc : Value) (env : Env) : compStart e depth it acc env = (do
    if (← ask).params.followText "comprehension-iter-twice" then return ← again (.compLoop e depth it acc env)
    rule "comprehension.iter-twice"
    standAt g.iter.pos
    again (.compLoop e depth (← pyIter it) acc env)) := by
  unfold compStart
  rw [hg]
  simp [Option.elim, ha]

theorem start_of {e : Expr} {depth : Nat} {g : Comprehension} (hg : (clausesOf e)[depth]? = some g) (ha : g.is_async = 0)
    (hden : ∀ (A : Around) (it acc : Value) (env : Env), A.under (.compStart e depth it acc env) = A ∧ (model P.prog P.w).den (.compStart e depth it acc env) = (compStart e depth it acc env).onRaise (fun x => do noteFrame x env; standAt theWindowsPlace)) : StartRule (model P.prog P.w) e depth := by
  intro A it acc env R s h0 h
  refine codeAny_of_tree ?_
  rw [(hden A it acc env).1, (hden A it acc env).2]
  refine wpAny_notedAt ?_
  rw [compStart_eq e depth g hg ha]
  refine wpAny_bind (wpAny_askSetting (wpAny_ite ?_))
  split
  · first
      | exact wpAny_bind (wpAny_pure (wpAny_pure (And.intro rfl h0)))
      | exact wpAny_pure (And.intro rfl h0)
  · exact wpAny_bind (wpAny_rule (wpAny_bind (wpAny_standAt (wpAny_bind (wpAny_mono h (fun it' s' h' => wpAny_pure (And.intro rfl h')) fun _ _ x => x.elim)))))
theorem start_list {elt : Expr} {gens : List Comprehension} {scope : Scope} {pos : Pos} {depth : Nat} {g : Comprehension} (hg : gens[depth]? = some g) (ha : g.is_async = 0) : StartRule (model P.prog P.w) (.ListComp elt gens scope pos) depth :=
  start_of hg ha fun A it acc env => ⟨rfl, rfl⟩
theorem start_dict {k v : Expr} {gens : List Comprehension} {scope : Scope} {pos : Pos} {depth : Nat} {g : Comprehension} (hg : gens[depth]? = some g) (ha : g.is_async = 0) : StartRule (model P.prog P.w) (.DictComp k v gens scope pos) depth :=
  start_of hg ha fun A it acc env => ⟨rfl, rfl⟩
end

noncomputable def TurnEq (e : Expr) (depth : Nat) (target iter : Expr) (ifs : List Expr) (act : Value → Env → Sem Unit) : Prop := ∀ (it : Value) (D : Addr) (env : Env), compTurn e depth it (.ref D) env = (standAt iter.pos >>= fun _ => pyNext it >>= fun r => match r with
  | none => pure (.done .next)
  | some v => letOwnedTupleGo target it v >>= fun _ => assign target env v >>= fun _ =>
    (forIn ifs true fun c r => if r = true then (do let ok ← isTrue c env (eval c env); pure (ForInStep.yield ok)) else pure (ForInStep.yield r)) >>= fun ok =>
    (if ok = true then act (.ref D) env else pure ()) >>= fun _ => again (.compLoop e depth it (.ref D) env))

section
variable {P : Pg} {sc : Scope} {c : Cx P sc} {m : Loc} {σ : Store}

-- one object that is no part of store and frame has changed
theorem St.aside {h h' : Heap} {I : Addr} {o : Obj} (S : St c m σ h) (hI : c.hb.get? I = none) (ho : h.get? I = some o) (ht : isTupO o = false) (hσ : σ I = none) (hL : I ≠ c.env.locals) (hC : ∀ x a, c.env.cells.lookup x = some a → I ≠ a)
    (k : ∀ b x, b ≠ I → h.get? b = some x → h'.get? b = some x) : St c m σ h' ∧ Tk h h' := by
  have T : Tk h h' := Tk.but ho ht k
  refine ⟨⟨⟨fun b x e => k b x (fun q => by rw [q, hI] at e; cases e) (S.sto.keep b x e), fun a x e => (S.sto.rep a x e).mono T fun z hz => k a z (fun q => by rw [q, hσ] at e; cases e) hz, S.sto.new⟩, ?_, S.dom, ?_, S.newL, S.newC, S.inj⟩, T⟩
  · obtain ⟨mm, hn, hm⟩ := S.ns
    refine ⟨mm, hn.at' fun x e => k _ x (Ne.symm hL) e, fun x v e1 e2 => ?_⟩
    obtain ⟨v', a, b⟩ := hm x v e1 e2
    exact ⟨v', a, b.mono T⟩
  · intro x a e
    obtain ⟨ov, ⟨oc, hoc, hd⟩, r⟩ := S.cell x a e
    refine ⟨ov, ⟨oc, k _ _ (Ne.symm (hC x a e)) hoc, hd⟩, fun v e1 e2 => ?_⟩
    obtain ⟨v', a, b⟩ := r v e1 e2
    exact ⟨v', a, b.mono T⟩

noncomputable def WIf (c : Cx P sc) : List Expr → Loc → Store → (Bool → Store → Prop) → Prop
  | [], m, σ, B => B true σ
  | [t], m, σ, B => WT c t m σ B
  | _, _, _, _ => False
theorem wif_run {ifs : List Expr} {B : Bool → Store → Prop} {s : Shared} (h : WIf c ifs m σ B) (S : St c m σ s.heap) :
    wpAny (model P.prog P.w) c.A (forIn ifs true fun t r => if r = true then (do let ok ← isTrue t c.env (eval t c.env); pure (ForInStep.yield ok)) else pure (ForInStep.yield r)) (PostE c m s fun b _ σ => B b σ) noE s := by
  match ifs, h with
  | [], h => exact wpAny_tests_nil (PostE.here' S h)
  | [t], h => exact wpAny_tests_one (h s S)

-- the accumulator: it stands apart from store and frame
structure Apart (c : Cx P sc) (σ : Store) (D : Addr) : Prop where
  hb : c.hb.get? D = none
  s : σ D = none
  L : D ≠ c.env.locals
  C : ∀ x a, c.env.cells.lookup x = some a → D ≠ a

-- what is done at each item that passes the tests
noncomputable def Act (c : Cx P sc) (act : Value → Env → Sem Unit) (D : Addr) (acc : O) (m : Loc) (σ : Store) (N : O → Store → Prop) : Prop :=
  ∀ s, St c m σ s.heap → Apart c σ D → Rep P.w s.heap D acc → wpAny (model P.prog P.w) c.A (act (.ref D) c.env)
    (fun _ s' => ∃ h' tk σ' acc', s' = { s with heap := h', toks := tk } ∧ St c m σ' h' ∧ Tk s.heap h' ∧ Rep P.w h' D acc' ∧ σ' D = none ∧ N acc' σ') noE s

theorem comp_loop {e : Expr} {depth : Nat} {target iter : Expr} {ifs : List Expr} {act : Value → Env → Sem Unit} {D I : Addr} {acc : O} {C : Store → Prop} {items : List V} {s₀ s : Shared} {o₀ : Obj}
    (hL : LoopRule (model P.prog P.w) e depth) (hT : TurnEq e depth target iter ifs act)
    (It : Nat → Obj → Prop) (hpl : ∀ i o, It i o → plainIt o)
    (hnext : ∀ (b' : Bx P) σ' (s' : Shared) I o i x (R : Option Value → Shared → Prop), C σ' → Sto P.w b'.hb σ' s'.heap → Tk s₀.heap s'.heap → s'.heap.get? I = some o → It i o → items[i]? = some x →
      (∀ u' h' o' tk, VR s'.heap x u' → Heap.SameBut I s'.heap h' → h'.get? I = some o' → It (i + 1) o' → R (some u') { s' with heap := h', toks := tk }) → wpAny (model P.prog P.w) b'.A (pyNext (.ref I)) R noE s')
    (hend : ∀ (b' : Bx P) σ' (s' : Shared) I o (R : Option Value → Shared → Prop), C σ' → Sto P.w b'.hb σ' s'.heap → Tk s₀.heap s'.heap → s'.heap.get? I = some o → It items.length o →
      (∀ h' tk, Heap.ExtBut I s'.heap h' → R none { s' with heap := h', toks := tk }) → wpAny (model P.prog P.w) b'.A (pyNext (.ref I)) R noE s')
    (J : Nat → O → Store → Prop) (jC : ∀ i acc σ, J i acc σ → C σ)
    (turn : ∀ i x acc σ, items[i]? = some x → J i acc σ → ∀ (c' : Cx P sc), c'.d = c.d → WA c' target x m σ fun m' σ' => (∀ y w, m y = some w → m' y = some w) ∧ ∀ (c' : Cx P sc), c'.d = c.d → WIf c' ifs m' σ' fun ok σ'' =>
      if ok then ∀ (c' : Cx P sc), c'.d = c.d → Act c' act D acc m' σ'' (J (i + 1)) else J (i + 1) acc σ'')
    (S : St c m σ s.heap) (Ts : Tk s₀.heap s.heap) (hI : Apart c σ I) (hID : I ≠ D) (ho₀ : s.heap.get? I = some o₀) (hit : It 0 o₀) (hD : Apart c σ D) (hacc : Rep P.w s.heap D acc) (j0 : J 0 acc σ)
    {R : Result → Shared → Prop} (fin : ∀ h' tk σ' acc', St c m σ' h' → Tk s.heap h' → Rep P.w h' D acc' → σ' D = none → J items.length acc' σ' → R (.ok .next) { s with heap := h', toks := tk }) :
    codeAny (model P.prog P.w) c.A (.compLoop e depth (.ref I) (.ref D) c.env) R s := by
  refine hL c.A _ _ _ R (fun k s' => ∃ i h' tk σ' o' acc', k = items.length - i ∧ i ≤ items.length ∧ s' = { s with heap := h', toks := tk } ∧ St c m σ' h' ∧ Tk s.heap h' ∧ h'.get? I = some o' ∧ It i o' ∧ σ' I = none ∧ σ' D = none ∧ Rep P.w h' D acc' ∧ J i acc' σ') ?_ (items.length - 0) s
    ⟨0, s.heap, s.toks, σ, o₀, acc, rfl, Nat.zero_le _, rfl, S, Tk.refl _, ho₀, hit, hI.s, hD.s, hacc, j0⟩
  rintro k s' ⟨i, h', tk, σ', o', acc', rfl, hi, rfl, S', T', ho', hIt, hσI, hσD, hrep, hJ⟩
  have C' := jC _ _ _ hJ
  rw [hT]
  refine wpAny_bind (wpAny_standAt (wpAny_bind ?_))
  by_cases hlt : i < items.length
  · refine wpAny_mono (hnext c.toBx σ' _ I o' i items[i] (fun r s1 => ∃ u' h2 o2 tk2, r = some u' ∧ VR h' items[i] u' ∧ Heap.SameBut I h' h2 ∧ h2.get? I = some o2 ∧ It (i + 1) o2 ∧ s1 = { s with heap := h2, toks := tk2 })
      C' S'.sto (Ts.trans T') ho' hIt (List.getElem?_eq_getElem hlt) fun u' h2 o2 tk2 a b d e => ⟨u', h2, o2, tk2, rfl, a, b, d, e, rfl⟩) (fun r s1 q => ?_) fun _ _ z => z.elim
    obtain ⟨u', h2, o2, tk2, rfl, hu', hs2, ho2, hIt2, rfl⟩ := q
    obtain ⟨n1, q1, q2, q3, q4⟩ := hpl _ _ hIt
    obtain ⟨S2, T2⟩ := S'.aside hI.hb ho' q4 hσI hI.L hI.C (fun b x q e => hs2.extBut b x q e)
    have hrep2 : Rep P.w h2 D acc' := hrep.mono T2 fun z hz => hs2.extBut _ _ (Ne.symm hID) hz
    refine wpAny_bind (wpAny_mono (letOwned ho2 (hpl _ _ hIt2) (R := fun _ s' => s' = { s with heap := h2, toks := tk2 }) rfl) (fun _ s2 e => ?_) fun _ _ z => z.elim)
    subst e
    obtain ⟨c1, hd1, hA1, hE1, hn1, Sc1, back1⟩ := S2.freeze hI.hb ho2 hσI hI.L hI.C
    -- the accumulator, while the target is stored and the tests run, is frozen too
    obtain ⟨xD, hxD, hxt⟩ := hrep2.notTup
    obtain ⟨c2, hd2, hA2, hE2, hn2, Sc2, back2⟩ := Sc1.freeze (hn1 D (Ne.symm hID) hD.hb) hxD hσD (by rw [hE1]; exact hD.L) (by rw [hE1]; exact hD.C)
    have hd21 : c2.d = c.d := hd2.trans hd1
    have hA21 : c2.A = c.A := hA2.trans hA1
    have hE21 : c2.env = c.env := hE2.trans hE1
    have tr := turn i items[i] acc' σ' (List.getElem?_eq_getElem hlt) hJ c2 hd21 { s with heap := h2, toks := tk2 } u' Sc2 (hu'.mono T2)
    rw [hA21, hE21] at tr
    refine wpAny_bind (thenL tr fun h3 tk3 σ3 m3 S3 T3 ⟨pm, r3⟩ => ?_)
    have wi := wif_run (s := { s with heap := h3, toks := tk3 }) (r3 c2 hd21) S3
    rw [hA21, hE21] at wi
    refine wpAny_bind (thenE wi fun ok h4 tk4 σ4 S4 T4 r4 => ?_)
    obtain ⟨S4a, hD4, hσD4⟩ := back2 _ _ _ S4
    obtain ⟨S4b, hI4, hσI4⟩ := back1 _ _ _ S4a
    have T24 : Tk h2 h4 := T3.trans T4
    have hrep4 : Rep P.w h4 D acc' := hrep2.mono T24 fun z hz => by rw [hxD] at hz; cases hz; exact hD4
    have T14 : Tk s.heap h4 := (T'.trans T2).trans T24
    cases ok with
    | false =>
      refine wpAny_bind (wpAny_pure (wpAny_pure ⟨rfl, items.length - (i + 1), by omega, i + 1, h4, tk4, σ4, o2, acc', rfl, hlt, rfl, S4b.subL pm, T14, hI4, hIt2, hσI4, hσD4, hrep4, r4⟩))
    | true =>
      have S4c := S4a
      have ac := r4 c1 hd1 { s with heap := h4, toks := tk4 } S4a ⟨hn1 D (Ne.symm hID) hD.hb, hσD4, by rw [hE1]; exact hD.L, by rw [hE1]; exact hD.C⟩ hrep4
      rw [hA1, hE1] at ac
      refine wpAny_bind (wpAny_mono ac (fun _ s5 ⟨h5, tk5, σ5, acc5, e5, S5, T5, hrep5, hσD5, j5⟩ => ?_) fun _ _ z => z.elim)
      subst e5
      obtain ⟨S5b, hI5, hσI5⟩ := back1 _ _ _ S5
      exact wpAny_pure ⟨rfl, items.length - (i + 1), by omega, i + 1, h5, tk5, σ5, o2, acc5, rfl, hlt, rfl, S5b.subL pm, T14.trans T5, hI5, hIt2, hσI5, hσD5, hrep5, j5⟩
  · have he : i = items.length := by omega
    subst he
    refine wpAny_mono (hend c.toBx σ' _ I o' (fun r s1 => r = none ∧ ∃ h2 tk2, Heap.ExtBut I h' h2 ∧ s1 = { s with heap := h2, toks := tk2 }) C' S'.sto (Ts.trans T') ho' hIt fun h2 tk2 he => ⟨rfl, h2, tk2, he, rfl⟩) (fun r s1 q => ?_) fun _ _ z => z.elim
    obtain ⟨rfl, h2, tk2, he, rfl⟩ := q
    obtain ⟨n1, q1, q2, q3, q4⟩ := hpl _ _ hIt
    obtain ⟨S2, T2⟩ := S'.aside hI.hb ho' q4 hσI hI.L hI.C (fun b x q e => he b x q e)
    exact wpAny_pure (fin h2 tk2 σ' acc' S2 (T'.trans T2) (hrep.mono T2 fun z hz => he _ _ (Ne.symm hID) hz) hσD hJ)
end

-- part L9
theorem closure_go (env : Env) : ∀ (names : List (PySem.Str × NameKind)) (acc : List (PySem.Str × Addr)), (∀ x ∈ names, x.2 = .free → (env.cells.lookup x.1).isSome = true) → (∀ x a, acc.lookup x = some a → env.cells.lookup x = some a) →
    ∃ cl, (forIn names acc fun (x : PySem.Str × NameKind) (cs : List (PySem.Str × Addr)) => (if (x.2 == .free) = true then (do let a ← cellOf env x.1; pure (ForInStep.yield ((x.1, a) :: cs))) else pure (ForInStep.yield cs) : Sem (ForInStep (List (PySem.Str × Addr))))) = pure cl ∧
      (∀ x a, cl.lookup x = some a → env.cells.lookup x = some a) ∧ (∀ x, (x, .free) ∈ names ∨ (acc.lookup x).isSome = true → (cl.lookup x).isSome = true) ∧ (∀ x a, cl.lookup x = some a → (x, .free) ∈ names ∨ (acc.lookup x).isSome = true)
  | [], acc, _, ha => ⟨acc, rfl, ha, fun x h => h.resolve_left (by simp), fun x a h => .inr (by rw [h]; rfl)⟩
  | (n, k) :: r, acc, hn, ha => by
    rw [List.forIn_cons]
    by_cases q : (k == NameKind.free) = true
    · obtain ⟨a, e⟩ := Option.isSome_iff_exists.mp (hn (n, k) (.head _) (by simpa using q))
      have qk : k = .free := by simpa using q
      obtain ⟨cl, e1, e2, e3, e4⟩ := closure_go env r ((n, a) :: acc) (fun x hx => hn x (.tail _ hx)) (fun x b hb => by
        rw [List.lookup_cons] at hb
        split at hb
        · rename_i z
          have z' : x = n := by simpa using z
          subst z'; cases hb; exact e
        · exact ha x b hb)
      refine ⟨cl, ?_, e2, fun x hx => e3 x ?_, fun x b hb => ?_⟩
      · dsimp only
        have : cellOf env n = pure a := by unfold cellOf; rw [e]
        rw [if_pos q, this]; simpa using e1
      · by_cases z : x = n
        · subst z; exact .inr (by simp)
        · rcases hx with hx | hx
          · rcases List.mem_cons.mp hx with hx | hx
            · cases hx; exact absurd rfl z
            · exact .inl hx
          · exact .inr (by rw [List.lookup_cons, beq_eq_false_iff_ne.mpr z]; exact hx)
      · rcases e4 x b hb with h | h
        · exact .inl (.tail _ h)
        · by_cases z : x = n
          · subst z; subst qk; exact .inl (.head _)
          · rw [List.lookup_cons, beq_eq_false_iff_ne.mpr z] at h; exact .inr h
    · obtain ⟨cl, e1, e2, e3, e4⟩ := closure_go env r acc (fun x hx => hn x (.tail _ hx)) ha
      have q' : (k == NameKind.free) = false := by simpa using q
      refine ⟨cl, ?_, e2, fun x hx => e3 x ?_, fun x b hb => (e4 x b hb).imp (.tail _) id⟩
      · dsimp only
        rw [if_neg q]; simpa using e1
      · rcases hx with hx | hx
        · rcases List.mem_cons.mp hx with hx | hx
          · cases hx; simp at q
          · exact .inl hx
        · exact .inr hx
theorem closure_ok (env : Env) (scope : Scope) (hn : ∀ x ∈ scope.names, x.2 = .free → (env.cells.lookup x.1).isSome = true) :
    ∃ cl, closureFor scope env = pure cl ∧ (∀ x a, cl.lookup x = some a → env.cells.lookup x = some a) ∧ (∀ x, (x, .free) ∈ scope.names → (cl.lookup x).isSome = true) ∧ (∀ x a, cl.lookup x = some a → (x, .free) ∈ scope.names) := by
  obtain ⟨cl, e1, e2, e3, e4⟩ := closure_go env scope.names [] hn (fun x a h => by simp at h)
  refine ⟨cl, ?_, e2, fun x hx => e3 x (.inl hx), fun x a h => (e4 x a h).resolve_right (by simp)⟩
  unfold closureFor
  have : (forIn scope.names ([] : List (PySem.Str × Addr)) fun (x : PySem.Str × NameKind) (r : List (PySem.Str × Addr)) => (match x with
      | (name, kind) => if (kind == NameKind.free) = true then (do let a ← cellOf env name; pure (ForInStep.yield ((name, a) :: r))) else pure (ForInStep.yield r) : Sem (ForInStep (List (PySem.Str × Addr))))) = pure cl := e1
  first
    | (rw [this]; rfl)
    | (show (_ >>= _) = _; rw [e1]; rfl)

theorem lookup_map_kind (g : PySem.Str → NameKind → NameKind) : ∀ (names : List (PySem.Str × NameKind)) (x : PySem.Str), (names.map fun (y : PySem.Str × NameKind) => (y.1, g y.1 y.2)).lookup x = (names.lookup x).map (g x)
  | [], x => rfl
  | (n, k) :: r, x => by
    simp only [List.map_cons, List.lookup_cons]
    by_cases q : (x == n) = true
    · have : x = n := by simpa using q
      subst this; simp
    · simp only [q]; exact lookup_map_kind g r x
theorem relabel_lookup (scope : Scope) (env : Env) (x : PySem.Str) : (relabel scope env).names.lookup x = (scope.names.lookup x).map fun k => if (k == .free && env.scope.kind == .function && env.kindOf x == some .cell) = true then .cell else k := by
  rw [← lookup_map_kind (fun n k => if (k == .free && env.scope.kind == .function && env.kindOf n == some .cell) = true then .cell else k)]
  congr 1
  show scope.names.map _ = _
  apply List.map_congr_left
  rintro ⟨n, k⟩ _
  dsimp only
  split <;> rfl

-- what a comprehension's table must be
noncomputable def compOk (sc scope : Scope) : Bool :=
  scope.kind == .function && scope.names.all fun x => match x.2 with
    | .free => sc.names.lookup x.1 == some .cell && scope.names.lookup x.1 == some .free
    | .local => scope.names.lookup x.1 == some .local
    | .cell => false
    | _ => true

section
variable {P : Pg} {sc scope : Scope} {c : Cx P sc} {m : Loc} {σ : Store}

theorem comp_enter {h h2 : Heap} {I C : Addr} {oI oD : Obj} {cl : List (PySem.Str × Addr)} (ok : compOk sc scope = true) (S : St c m σ h) (hI : Apart c σ I) (hoI : h.get? I = some oI) (hfD : oD.isFreed = false)
    (hcl : ∀ x a, cl.lookup x = some a → c.env.cells.lookup x = some a) (hcl' : ∀ x, (x, .free) ∈ scope.names → (cl.lookup x).isSome = true) (hcl2 : ∀ x a, cl.lookup x = some a → (x, .free) ∈ scope.names)
    (hC : C = h.objs.size + 1) {mm : PySem.Str → Option Value} (hn : h2.Ns C mm) (hs : Heap.SameBut C ((h.push oD).push { cls := .type "dict", data := .dict #[] }) h2) :
    ∃ cu : Cx P scope, cu.d = c.d ∧ cu.A = c.A ∧ cu.env = compEnvC scope cl C c.env ∧ St cu (freeL scope m) σ h2 ∧ Apart cu σ h.objs.size ∧ Apart cu σ I ∧ I ≠ h.objs.size ∧ Tk h h2 ∧ h2.get? I = some oI ∧ h2.get? h.objs.size = some oD ∧
      ∀ mc σ' h3 h4 acc, St cu mc σ' h3 → (∀ y v, freeL scope m y = some v → mc y = some v) → Tk h2 h3 → Rep P.w h3 h.objs.size acc → σ' h.objs.size = none → Heap.SameBut C h3 h4 →
        St c m (upd σ' h.objs.size acc) h4 ∧ Tk h3 h4 ∧ Apart c (upd σ' h.objs.size acc) C := by
  have hkind : scope.kind = .function := by unfold compOk at ok; rw [Bool.and_eq_true] at ok; simpa using ok.1
  have hall : ∀ x ∈ scope.names, (match x.2 with
    | .free => sc.names.lookup x.1 == some .cell && scope.names.lookup x.1 == some .free
    | .local => scope.names.lookup x.1 == some .local
    | .cell => false
    | _ => true) = true := by unfold compOk at ok; rw [Bool.and_eq_true] at ok; exact List.all_eq_true.mp ok.2
  have hfree : ∀ x, scope.names.lookup x = some .free → sc.names.lookup x = some .cell := fun x e => by
    have := hall (x, .free) (mem_of_lookup e); simp at this; exact this.1
  let D := h.objs.size
  have up : ∀ b o, h.get? b = some o → b ≠ C ∧ b ≠ D ∧ h2.get? b = some o := fun b o e => by
    have l := Heap.lt_size e
    have n1 : b ≠ C := by rw [hC]; exact Nat.ne_of_lt (Nat.lt_succ_of_lt l)
    exact ⟨n1, Nat.ne_of_lt l, hs.extBut b o n1 (Heap.get?_push_of_some _ (Heap.get?_push_of_some _ e))⟩
  have hDC : D ≠ C := by rw [hC]; exact Nat.ne_of_lt (Nat.lt_succ_self _)
  have hD2 : h2.get? D = some oD := hs.extBut _ _ hDC (Heap.get?_push_of_some _ (Heap.get?_push_size _ hfD))
  have T2 : Tk h h2 := fun b o e _ => (up b o e).2.2
  have fresh : ∀ a, D ≤ a → c.hb.get? a = none ∧ σ a = none := fun a ha => by
    have n : h.get? a = none := Heap.get?_none_of_le ha
    refine ⟨?_, S.sto.none_of_new n⟩
    cases q : c.hb.get? a with
    | none => rfl
    | some z => rw [S.sto.keep _ _ q] at n; cases n
  have hDle : D ≤ C := by rw [hC]; exact Nat.le_succ _
  let p : Addr → Bool := fun b => (σ b).isSome || b == C || b == I || b == D || scope.names.any fun x => cl.lookup x.1 == some b
  have hclfacts : ∀ x a, cl.lookup x = some a → c.hb.get? a = none ∧ σ a = none ∧ (∃ o, h.get? a = some o) ∧ p a = true := fun x a e => by
    have e' := hcl x a e
    obtain ⟨ov, ⟨o, ho, _⟩, _⟩ := S.cell x a e'
    refine ⟨(S.newC x a e').1, (S.newC x a e').2, ⟨o, ho⟩, ?_⟩
    have : (scope.names.any fun x => cl.lookup x.1 == some a) = true := List.any_eq_true.mpr ⟨_, hcl2 x a e, by rw [e]; simp⟩
    simp [p, this]
  have hpI : p I = true := by simp [p]
  have hpC : p C = true := by simp [p]
  have hpD : p D = true := by simp [p]
  have pσ : ∀ b, σ b ≠ none → p b = true := fun b e => by
    cases q : σ b with
    | none => exact absurd q e
    | some z => simp [p, q]
  have g1 : ∀ b x, (hideP h2 p).get? b = some x → h2.get? b = some x ∧ p b = false := fun b x e => by
    rw [hideP_get] at e
    split at e
    · cases e
    · rename_i q; exact ⟨e, by simpa using q⟩
  have g2 : ∀ b x, p b = false → h2.get? b = some x → (hideP h2 p).get? b = some x := fun b x q e => by rw [hideP_get, q]; exact e
  have g3 : ∀ b, p b = true → (hideP h2 p).get? b = none := fun b q => by rw [hideP_get, q]; rfl
  have hbp : ∀ b x, c.hb.get? b = some x → p b = false := fun b x e => by
    cases q : p b with
    | false => rfl
    | true =>
      exfalso
      have l := Heap.lt_size (S.sto.keep _ _ e)
      simp only [p, Bool.or_eq_true, beq_iff_eq] at q
      rcases q with (((q | q) | q) | q) | q
      · have := S.sto.new b (by rw [Option.isSome_iff_exists] at q; obtain ⟨z, hz⟩ := q; rw [hz]; simp)
        rw [e] at this; cases this
      · exact (up b x (S.sto.keep _ _ e)).1 q
      · rw [q, hI.hb] at e; cases e
      · exact (up b x (S.sto.keep _ _ e)).2.1 q
      · obtain ⟨y, _, hy⟩ := List.any_eq_true.mp q
        have := (hclfacts y.1 b (by simpa using hy)).1
        rw [e] at this; cases this
  have hb2 : ∀ b x, c.hb.get? b = some x → (hideP h2 p).get? b = some x := fun b x e => g2 b x (hbp b x e) (up b x (S.sto.keep _ _ e)).2.2
  have hlookup : ∀ x k, scope.names.lookup x = some k → k ≠ .free → (relabel scope c.env).names.lookup x = some k := fun x k e hk => by
    rw [relabel_lookup, e]; simp [hk]
  have hfreeK : ∀ x, scope.names.lookup x = some .free → (relabel scope c.env).names.lookup x = some .cell ∨ (relabel scope c.env).names.lookup x = some .free := fun x e => by
    rw [relabel_lookup, e, Option.map_some]
    split
    · exact .inl rfl
    · exact .inr rfl
  have fl : ∀ y v, freeL scope m y = some v → scope.names.lookup y = some .free ∧ m y = some v := fun y v e => by
    unfold freeL at e
    split at e
    · rename_i q; exact ⟨q, e⟩
    · cases e
  let cu : Cx P scope :=
    { A := c.A, hb := hideP h2 p, d := c.d, base := c.base.keeps hb2, hh := c.hh, room := c.room, units := c.units,
      env := compEnvC scope cl C c.env, kind := hkind, glob := c.glob, blt := c.blt, look := hlookup,
      cellsOk := fun x e => by have := hall (x, .cell) (mem_of_lookup e); simp at this }
  have hCL : ∀ b, (∃ o, h.get? b = some o) → b ≠ C := fun b ⟨o, e⟩ => (up b o e).1
  have hIC : I ≠ C := hCL I ⟨_, hoI⟩
  have Scu : St cu (freeL scope m) σ h2 := by
    refine ⟨⟨fun b x e => (g1 b x e).1, fun a o e => (S.sto.rep a o e).mono T2 fun z hz => (up _ _ hz).2.2, fun a e => g3 a (pσ a e)⟩, ⟨mm, hn, fun x v e hk => ?_⟩, fun x v e => ?_, fun x a e => ?_, ⟨g3 _ hpC, (fresh C hDle).2⟩, fun x a e => ⟨g3 _ (hclfacts x a e).2.2.2, (hclfacts x a e).2.1⟩, fun x y a e1 e2 => S.inj x y a (hcl _ _ e1) (hcl _ _ e2)⟩
    · rcases hfreeK x (fl x v e).1 with q | q
      · have hk' : (relabel scope c.env).names.lookup x = some .local := hk
        rw [q] at hk'; cases hk'
      · have hk' : (relabel scope c.env).names.lookup x = some .local := hk
        rw [q] at hk'; cases hk'
    · exact .inr ⟨hfreeK x (fl x v e).1, hcl' x (mem_of_lookup (fl x v e).1)⟩
    · obtain ⟨ov, ⟨o, ho, hd⟩, r⟩ := S.cell x a (hcl x a e)
      refine ⟨ov, ⟨o, (up _ _ ho).2.2, hd⟩, fun v e1 e2 => ?_⟩
      obtain ⟨q1, q2⟩ := fl x v e1
      obtain ⟨v', a', b'⟩ := r v q2 (by rw [c.look x _ (hfree x q1) (by simp)]; simp)
      exact ⟨v', a', b'.mono T2⟩
  refine ⟨cu, rfl, rfl, rfl, Scu, ⟨g3 _ hpD, (fresh D (Nat.le_refl _)).2, hDC, fun x a e q => ?_⟩, ⟨g3 _ hpI, hI.s, hIC, fun x a e => hI.C x a (hcl x a e)⟩, fun q => (up I _ hoI).2.1 q, T2, (up I _ hoI).2.2, hD2, fun mc σ' h3 h4 acc S3 hmc T23 hrep hσD hs4 => ?_⟩
  · obtain ⟨o, ho⟩ := (hclfacts x a e).2.2.1
    exact (up a o ho).2.1 q.symm
  · obtain ⟨mm3, hn3, _⟩ := S3.ns
    obtain ⟨oC, hoC, htC⟩ := Ns.notTup (show h3.Ns C mm3 from hn3)
    have kk : ∀ b x, b ≠ C → h3.get? b = some x → h4.get? b = some x := fun b x q e => hs4.extBut b x q e
    have T34 : Tk h3 h4 := Tk.but hoC htC kk
    have T24 : Tk h2 h4 := T23.trans T34
    have T4 : Tk h h4 := T2.trans T24
    have froz : ∀ b x, p b = false → h.get? b = some x → h4.get? b = some x := fun b x q e => kk b x (up b x e).1 (S3.sto.keep b x (g2 b x q (up b x e).2.2))
    have hσ'C : σ' C = none := S3.newL.2
    -- what the store did not name at first and is frozen is not named now
    have nn : ∀ b x, p b = false → h.get? b = some x → σ' b = none := fun b x q e => by
      cases z : σ' b with
      | none => rfl
      | some y => have := S3.sto.new b (by rw [z]; simp); rw [g2 b x q (up b x e).2.2] at this; cases this
    have hLp : p c.env.locals = false := by
      obtain ⟨mL, hnL, _⟩ := S.ns
      obtain ⟨oL, _, _, hoL, _⟩ := hnL
      cases q : p c.env.locals with
      | false => rfl
      | true =>
        exfalso
        simp only [p, Bool.or_eq_true, beq_iff_eq] at q
        rcases q with (((q | q) | q) | q) | q
        · rw [S.newL.2] at q; cases q
        · exact (up _ _ hoL).1 q
        · exact hI.L q.symm
        · exact (up _ _ hoL).2.1 q
        · obtain ⟨y, _, hy⟩ := List.any_eq_true.mp q
          obtain ⟨mL, hnL, _⟩ := S.ns
          obtain ⟨ov, hc, _⟩ := S.cell y.1 c.env.locals (hcl _ _ (by simpa using hy))
          exact Ns.ne_cell hnL hc rfl
    refine ⟨⟨⟨fun b x e => froz b x (hbp b x e) (S.sto.keep _ _ e), fun a o e => ?_, fun a e => ?_⟩, ?_, S.dom, fun x a e => ?_, ⟨S.newL.1, ?_⟩, fun x a e => ⟨(S.newC x a e).1, ?_⟩, S.inj⟩, T34, ⟨(fresh C hDle).1, ?_, ?_, ?_⟩⟩
    · by_cases q : a = D
      · subst q
        have e' : (upd σ' h.objs.size acc) h.objs.size = some o := e
        rw [upd_self] at e'; cases e'
        exact hrep.mono T34 fun z hz => kk _ _ hDC hz
      · have e' : (upd σ' D acc) a = some o := e
        rw [upd_ne _ _ q] at e'
        exact (S3.sto.rep a o e').mono T34 fun z hz => kk a z (fun z => by rw [z, hσ'C] at e'; cases e') hz
    · by_cases q : a = D
      · subst q; exact (fresh D (Nat.le_refl _)).1
      · have e' : (upd σ' D acc) a ≠ none := e
        rw [upd_ne _ _ q] at e'
        cases z : c.hb.get? a with
        | none => rfl
        | some y => have := S3.sto.new a e'; rw [hb2 _ _ z] at this; cases this
    · obtain ⟨mL, hnL, hmL⟩ := S.ns
      refine ⟨mL, hnL.at' fun o e => froz _ _ hLp e, fun x v e1 e2 => ?_⟩
      obtain ⟨v', a', b'⟩ := hmL x v e1 e2
      exact ⟨v', a', b'.mono T4⟩
    · obtain ⟨ov, ⟨o, ho, hd⟩, r⟩ := S.cell x a e
      by_cases q : p a = true
      · -- one of the cells that the comprehension reads
        have hq : (scope.names.any fun x => cl.lookup x.1 == some a) = true := by
          simp only [p, Bool.or_eq_true, beq_iff_eq] at q
          rcases q with (((q | q) | q) | q) | q
          · rw [(S.newC x a e).2] at q; cases q
          · exact absurd q (up a o ho).1
          · exact absurd q.symm (hI.C x a e)
          · exact absurd q (up a o ho).2.1
          · exact q
        obtain ⟨y, _, hy⟩ := List.any_eq_true.mp hq
        have hy : cl.lookup y.1 = some a := by simpa using hy
        have hyx : y.1 = x := S.inj _ _ a (hcl _ _ hy) e
        rw [hyx] at hy
        obtain ⟨ov3, ⟨o3, ho3, hd3⟩, r3⟩ := S3.cell x a hy
        refine ⟨ov3, ⟨o3, kk _ _ (hCL a ⟨o, ho⟩) ho3, hd3⟩, fun v e1 e2 => ?_⟩
        have hxf : scope.names.lookup x = some .free := by
          have := hall (x, .free) (hcl2 x a hy); simp at this; exact this.2
        obtain ⟨v', a', b'⟩ := r3 v (hmc x v (by unfold freeL; rw [if_pos hxf]; exact e1)) (by
          show (relabel scope c.env).names.lookup x ≠ some .local
          rcases hfreeK x hxf with q | q <;> rw [q] <;> simp)
        exact ⟨v', a', b'.mono T34⟩
      · have q' : p a = false := by simpa using q
        refine ⟨ov, ⟨o, froz _ _ q' ho, hd⟩, fun v e1 e2 => ?_⟩
        obtain ⟨v', a', b'⟩ := r v e1 e2
        exact ⟨v', a', b'.mono T4⟩
    · obtain ⟨mL, hnL, _⟩ := S.ns
      obtain ⟨oL, _, _, hoL, _⟩ := hnL
      show (upd σ' D acc) _ = none
      rw [upd_ne _ _ (up _ _ hoL).2.1]
      exact nn _ _ hLp hoL
    · obtain ⟨ov, ⟨o, ho, hd⟩, _⟩ := S.cell x a e
      show (upd σ' D acc) _ = none
      rw [upd_ne _ _ (up _ _ ho).2.1]
      by_cases q : p a = true
      · cases z : σ' a with
        | none => rfl
        | some y =>
          exfalso
          have hq : (scope.names.any fun x => cl.lookup x.1 == some a) = true := by
            simp only [p, Bool.or_eq_true, beq_iff_eq] at q
            rcases q with (((q | q) | q) | q) | q
            · rw [(S.newC x a e).2] at q; cases q
            · exact absurd q (up a o ho).1
            · exact absurd q.symm (hI.C x a e)
            · exact absurd q (up a o ho).2.1
            · exact q
          obtain ⟨w', _, hy⟩ := List.any_eq_true.mp hq
          have hy : cl.lookup w'.1 = some a := by simpa using hy
          have := (S3.newC w'.1 a hy).2
          rw [z] at this; cases this
      · exact nn _ _ (by simpa using q) ho
    · show (upd σ' D acc) C = none
      rw [upd_ne _ _ (Ne.symm hDC)]; exact hσ'C
    · obtain ⟨mL, hnL, _⟩ := S.ns
      exact fun q => hCL _ (let ⟨oL, _, _, hoL, _⟩ := hnL; ⟨oL, hoL⟩) q.symm
    · intro x a e q
      obtain ⟨ov, ⟨o, ho, hd⟩, _⟩ := S.cell x a e
      exact (up a o ho).1 q.symm
end

-- part L10
section
variable {P : Pg} {d : Nat} {σ : Store} {Q : V → Store → Prop}

theorem args1 {h : Heap} {a : V} {us : List Value} (hv : VRs h [a] us) : ∃ u, us = [u] ∧ VR h a u := by
  obtain ⟨u, us', rfl, e, e2⟩ := VRs_cons.mp hv
  have := VRs_nil.mp e2; subst this
  exact ⟨u, rfl, e⟩
theorem args2 {h : Heap} {a b : V} {us : List Value} (hv : VRs h [a, b] us) : ∃ u v, us = [u, v] ∧ VR h a u ∧ VR h b v := by
  obtain ⟨u, us', rfl, e, e2⟩ := VRs_cons.mp hv
  obtain ⟨v, rfl, e3⟩ := args1 e2
  exact ⟨u, v, rfl, e, e3⟩
theorem args3 {h : Heap} {a b c : V} {us : List Value} (hv : VRs h [a, b, c] us) : ∃ u v w, us = [u, v, w] ∧ VR h a u ∧ VR h b v ∧ VR h c w := by
  obtain ⟨u, us', rfl, e, e2⟩ := VRs_cons.mp hv
  obtain ⟨v, w, rfl, e3, e4⟩ := args2 e2
  exact ⟨u, v, w, rfl, e, e3, e4⟩

theorem PostB.tok {α : Type} {b : Bx P} {s : Shared} {R : α → Heap → Store → Prop} {a : α} (tk : Nat) (S : Sto P.w b.hb σ s.heap) (r : R a s.heap σ) : PostB b s R a { s with toks := tk } := ⟨s.heap, tk, σ, rfl, S, Tk.refl _, r⟩
theorem PostB.same {α : Type} {b : Bx P} {s : Shared} {R : α → Heap → Store → Prop} {a : α} (S : Sto P.w b.hb σ s.heap) (r : R a s.heap σ) : PostB b s R a s := ⟨s.heap, s.toks, σ, rfl, S, Tk.refl _, r⟩

-- ints
theorem lf_add {a b : Int} (h : Q (.int (a + b)) σ) : Leaf P d (op2 (binaryOp .Add)) [.int a, .int b] σ (asV Q) := by
  intro bx _ s us S hv
  obtain ⟨u, v, rfl, e1, e2⟩ := args2 hv
  obtain ⟨t, rfl⟩ := VR_int.mp e1; obtain ⟨t', rfl⟩ := VR_int.mp e2
  exact PySem.P.add_int (PostB.tok _ S ⟨_, VR_int.mpr ⟨_, rfl⟩, h⟩)
theorem lf_iadd {a b : Int} (h : Q (.int (a + b)) σ) : Leaf P d (op2 (inplaceOp .Add)) [.int a, .int b] σ (asV Q) := by
  intro bx _ s us S hv
  obtain ⟨u, v, rfl, e1, e2⟩ := args2 hv
  obtain ⟨t, rfl⟩ := VR_int.mp e1; obtain ⟨t', rfl⟩ := VR_int.mp e2
  exact PySem.P.iadd_int (PostB.tok _ S ⟨_, VR_int.mpr ⟨_, rfl⟩, h⟩)
theorem lf_sub {a b : Int} (h : Q (.int (a - b)) σ) : Leaf P d (op2 (binaryOp .Sub)) [.int a, .int b] σ (asV Q) := by
  intro bx _ s us S hv
  obtain ⟨u, v, rfl, e1, e2⟩ := args2 hv
  obtain ⟨t, rfl⟩ := VR_int.mp e1; obtain ⟨t', rfl⟩ := VR_int.mp e2
  exact PySem.P.sub_int (PostB.tok _ S ⟨_, VR_int.mpr ⟨_, rfl⟩, h⟩)
theorem lf_mul {a b : Int} (h : Q (.int (a * b)) σ) (hm : a.natAbs < 2 ^ 60 ∨ b.natAbs < 2 ^ 60) : Leaf P d (op2 (binaryOp .Mult)) [.int a, .int b] σ (asV Q) := by
  intro bx _ s us S hv
  obtain ⟨u, v, rfl, e1, e2⟩ := args2 hv
  obtain ⟨t, rfl⟩ := VR_int.mp e1; obtain ⟨t', rfl⟩ := VR_int.mp e2
  have bits : ∀ z : Int, z.natAbs < 2 ^ 60 → Builtin.Int.intBits z ≤ 64 := fun z hz => by
    unfold Builtin.Int.intBits
    split
    · omega
    · rename_i q
      have : z.natAbs.log2 < 60 := (Nat.log2_lt (by simpa using q)).mpr hz
      omega
  exact PySem.P.mul_int (PostB.tok _ S ⟨_, VR_int.mpr ⟨_, rfl⟩, h⟩) (hm.elim (fun q => IntMulOk.of_left (bits _ q)) fun q => IntMulOk.of_right (bits _ q))
theorem lf_fdiv {a b : Int} (h : Q (.int (a.fdiv b)) σ) (hb : b ≠ 0) (hs : b.natAbs < 1073741824) : Leaf P d (op2 (binaryOp .FloorDiv)) [.int a, .int b] σ (asV Q) := by
  intro bx _ s us S hv
  obtain ⟨u, v, rfl, e1, e2⟩ := args2 hv
  obtain ⟨t, rfl⟩ := VR_int.mp e1; obtain ⟨t', rfl⟩ := VR_int.mp e2
  exact PyProof.Rows.floordiv_int hb (PostB.tok _ S ⟨_, VR_int.mpr ⟨_, rfl⟩, h⟩) (.inl (PyProof.noPylong_small hs))
theorem lf_mod {a b : Int} (h : Q (.int (a.fmod b)) σ) (hb : b ≠ 0) : Leaf P d (op2 (binaryOp .Mod)) [.int a, .int b] σ (asV Q) := by
  intro bx _ s us S hv
  obtain ⟨u, v, rfl, e1, e2⟩ := args2 hv
  obtain ⟨t, rfl⟩ := VR_int.mp e1; obtain ⟨t', rfl⟩ := VR_int.mp e2
  exact PyProof.Rows.mod_int hb (PostB.tok _ S ⟨_, VR_int.mpr ⟨_, rfl⟩, h⟩)
theorem lf_neg {a : Int} (h : Q (.int (-a)) σ) : Leaf P d (op1 (unaryOp .USub)) [.int a] σ (asV Q) := by
  intro bx _ s us S hv
  obtain ⟨u, rfl, e1⟩ := args1 hv
  obtain ⟨t, rfl⟩ := VR_int.mp e1
  exact PySem.P.neg_int (PostB.tok _ S ⟨_, VR_int.mpr ⟨_, rfl⟩, h⟩)
theorem lf_eqi {a b : Int} (h : Q (.bool (a == b)) σ) : Leaf P d (op2 (compareOp .Eq)) [.int a, .int b] σ (asV Q) := by
  intro bx _ s us S hv
  obtain ⟨u, v, rfl, e1, e2⟩ := args2 hv
  obtain ⟨t, rfl⟩ := VR_int.mp e1; obtain ⟨t', rfl⟩ := VR_int.mp e2
  exact PySem.P.eq_int (PostB.same S ⟨_, VR_bool.mpr rfl, h⟩)
theorem lf_lti {a b : Int} (h : Q (.bool (decide (a < b))) σ) : Leaf P d (op2 (compareOp .Lt)) [.int a, .int b] σ (asV Q) := by
  intro bx _ s us S hv
  obtain ⟨u, v, rfl, e1, e2⟩ := args2 hv
  obtain ⟨t, rfl⟩ := VR_int.mp e1; obtain ⟨t', rfl⟩ := VR_int.mp e2
  exact PySem.P.lt_int (PostB.same S ⟨_, VR_bool.mpr rfl, h⟩)
theorem lf_gti {a b : Int} (h : Q (.bool (decide (a > b))) σ) : Leaf P d (op2 (compareOp .Gt)) [.int a, .int b] σ (asV Q) := by
  intro bx _ s us S hv
  obtain ⟨u, v, rfl, e1, e2⟩ := args2 hv
  obtain ⟨t, rfl⟩ := VR_int.mp e1; obtain ⟨t', rfl⟩ := VR_int.mp e2
  exact PySem.P.gt_int (PostB.same S ⟨_, VR_bool.mpr rfl, h⟩)
theorem lf_gei {a b : Int} (h : Q (.bool (decide (a ≥ b))) σ) : Leaf P d (op2 (compareOp .GtE)) [.int a, .int b] σ (asV Q) := by
  intro bx _ s us S hv
  obtain ⟨u, v, rfl, e1, e2⟩ := args2 hv
  obtain ⟨t, rfl⟩ := VR_int.mp e1; obtain ⟨t', rfl⟩ := VR_int.mp e2
  exact PySem.P.ge_int (PostB.same S ⟨_, VR_bool.mpr rfl, h⟩)
theorem lf_int {a : Int} (h : Q (.int a) σ) : Leaf P d (callL (.type "int")) [.int a] σ (asV Q) := by
  intro bx _ s us S hv
  obtain ⟨u, rfl, e1⟩ := args1 hv
  obtain ⟨t, rfl⟩ := VR_int.mp e1
  exact call_int_int (PostB.same S ⟨_, VR_int.mpr ⟨_, rfl⟩, h⟩)
theorem lf_range {n : Int} (h : ∀ a, σ a = none → Q (.ref a) (upd σ a (.range n))) : Leaf P d (callL (.type "range")) [.int n] σ (asV Q) := by
  intro bx _ s us S hv
  obtain ⟨u, rfl, e1⟩ := args1 hv
  obtain ⟨t, rfl⟩ := VR_int.mp e1
  have hn : s.heap.get? s.heap.objs.size = none := Heap.get?_none_of_le (Nat.le_refl _)
  have k : ∀ b x, s.heap.get? b = some x → (s.heap.push { cls := .type "range", data := .fields #[.int 0 s.toks, .int n t, .int 1 (s.toks + 1)] }).get? b = some x := fun b x e => Heap.get?_push_of_some _ e
  exact call_range_1 ⟨_, _, _, rfl, S.add (o' := .range n) hn k ⟨_, _, _, Heap.get?_push_size _ rfl⟩, Tk.of_keep k, _, VR_ref.mpr rfl, h _ (S.none_of_new hn)⟩

-- lists, tuples
theorem lf_len_list {a : Addr} {xs : List V} (ha : σ a = some (.list xs)) (hl : xs.length ≤ 1000000) (h : Q (.int xs.length) σ) : Leaf P d (callL (.builtin "len")) [.ref a] σ (asV Q) := by
  intro bx _ s us S hv
  obtain ⟨u, rfl, e1⟩ := args1 hv
  have e1 := VR_ref.mp e1; subst e1
  obtain ⟨items, hil, hvs⟩ := S.rep a _ ha
  have e := hvs.length
  simp at e
  exact call_len_list hil.isList (by omega) (PostB.tok _ S ⟨_, VR_int.mpr ⟨_, by rw [e]⟩, h⟩)
theorem lf_append {a : Addr} {xs : List V} {v : V} (ha : σ a = some (.list xs)) (hl : xs.length ≤ 1000000) (h : Q .none (upd σ a (.list (xs ++ [v])))) : Leaf P d (callL (.builtin "list.append")) [.ref a, v] σ (asV Q) := by
  intro bx _ s us S hv
  obtain ⟨u, w, rfl, e1, e2⟩ := args2 hv
  have e1 := VR_ref.mp e1; subst e1
  obtain ⟨items, hil, hvs⟩ := S.rep a _ ha
  have e := hvs.length
  simp at e
  refine wpAny_list_append_plain hil (fun h' hl' hs => ?_) (by rw [sizeLine_eq]; omega)
  obtain ⟨S', T⟩ := S.set (o' := .list (xs ++ [v])) ha (fun b x q e => hs.extBut b x q e) fun T => ⟨_, hl', by simpa using (hvs.mono T).append (VRs.one (e2.mono T))⟩
  exact ⟨_, _, _, rfl, S', T, _, VR_none.mpr rfl, h⟩
-- list(script)
theorem lf_list_script (hl : P.xs.length ≤ 1000000) (h : ∀ b, σ b = none → Q (.ref b) (upd σ b (.list (P.xs.map .int)))) : Leaf P d (callL (.type "list")) [.ref P.sc] σ (asV Q) := by
  intro bx _ s us S hv
  obtain ⟨u, rfl, e1⟩ := args1 hv
  have e1 := VR_ref.mp e1; subst e1
  obtain ⟨items, ⟨o, ho, hc, n, hd⟩, hi⟩ := (bx.base.of_sto S).scr
  have hvs := VRs.ints (h := s.heap).mpr hi
  have e := hvs.length
  simp at e
  have hn : s.heap.get? s.heap.objs.size = none := Heap.get?_none_of_le (Nat.le_refl _)
  refine call_list_seq P.sc (.inl rfl) ho hc hd (fun h' c' k hl' => ?_) (by rw [sizeLine_eq]; omega)
  have k' : Tk s.heap h' := Tk.of_keep k
  exact ⟨_, _, _, rfl, S.add (o' := .list (P.xs.map .int)) hn k ⟨_, ⟨_, hl'⟩, hvs.mono k'⟩, k', _, VR_ref.mpr rfl, h _ (S.none_of_new hn)⟩
theorem setItem_plain {A : Around} {E : Value → Shared → Prop} {s : Shared} {l : Addr} {items : Array Value} {k : Int} {t : Tok} {v : Value} {R : Unit → Shared → Prop} (hl : s.heap.PlainList l items) (h0 : 0 ≤ k) (hfit : k < 2 ^ 63) (hn : k < items.size)
    (hQ : ∀ h', h'.PlainList l (items.setIfInBounds k.toNat v) → Heap.SameBut l s.heap h' → R () { s with heap := h' }) : wpAny (model P.prog P.w) A (setItem (.ref l) (.int k t) v) R E s := by
  obtain ⟨n, ho⟩ := hl
  have hT := (Heap.PlainList.isList ⟨n, ho⟩).typeIs (s := s)
  unfold setItem
  try with_reducible refine wpAny_holding ?_
  first | refine wpAny_bind (wpAny_pure ?_) | skip
  refine wpAny_bind (wpAny_sequenceKey hT (by decide) ?_)
  refine wpAny_bind (wpAny_callSpecial?_slot (name := Str.ofString "__setitem__") hT slot_list_setitem (wpAny_call_entry slot_list_setitem hT entry_list_setitem ?_ (args_list_setitem _ _ _)))
  show wpAny _ _ (Builtin.List.listSubscript? (.int k t) >>= _) _ _ s
  refine wpAny_bind (wpAny_listSubscript_int (fitsIndex_of h0 hfit) ?_)
  clear hfit
  obtain ⟨j, rfl⟩ := Int.eq_ofNat_of_zero_le h0
  have hj : j < items.size := by omega
  show wpAny _ _ ((seqItemAt l j >>= fun r => pure (r.map (j, ·))) >>= _) _ _ s
  refine wpAny_bind (wpAny_bind (wpAny_seqItemAt ho rfl (wpAny_pure ?_)))
  rw [Array.getElem?_eq_getElem hj]
  show wpAny _ _ (setSeqItemAt l j v >>= _) _ _ s
  have hfin : (s.heap.update l (Obj.mapSeq (·.setIfInBounds j v))).PlainList l (items.setIfInBounds j v) := by
    obtain ⟨n', e⟩ : ∃ n', Obj.mapSeq (·.setIfInBounds j v) { cls := .type "list", data := .seq items n } = { cls := .type "list", data := .seq (items.setIfInBounds j v) n' } := ⟨_, rfl⟩
    exact ⟨n', by rw [Heap.get?_update_self _ ho (by rw [e]; rfl), e]⟩
  refine wpAny_bind (wpAny_setSeqItemAt ho rfl ?_)
  first
    | exact wpAny_bind (wpAny_pure (wpAny_pure ⟨.none, rfl, wpAny_pure (hQ _ hfin (Heap.SameBut.update ..))⟩))
    | exact wpAny_pure ⟨.none, rfl, wpAny_pure (hQ _ hfin (Heap.SameBut.update ..))⟩
-- the place that an index means
theorem lf_item_list {value slice : Expr} {a : Addr} {xs : List V} {i : Int} {x : V} (ha : σ a = some (.list xs)) (h0 : 0 ≤ i) (hx : xs[i.toNat]? = some x) (hi : i < 2 ^ 60) (h : Q x σ)
    (hs : ∀ o i, subscripted slice false o i = operate [o, i] (getItem o i) := by intros; rfl) : Leaf P d (op2 (subscriptTail value slice)) [.ref a, .int i] σ (asV Q) := by
  intro bx _ s us S hv
  obtain ⟨u, w, rfl, e1, e2⟩ := args2 hv
  have e1 := VR_ref.mp e1; subst e1
  obtain ⟨t, rfl⟩ := VR_int.mp e2
  obtain ⟨items, hil, hvs⟩ := S.rep a _ ha
  obtain ⟨v, hv1, hv2⟩ := hvs.get hx
  exact tail_any hil.isList.typeIs slot_list_getitem.lookup (wpAny_getItem_list hil.isList h0 (by omega) (by rw [← hv1]; simp) (PostB.same S ⟨_, hv2, h⟩)) (hs _ _)
theorem lf_get_list {a : Addr} {xs : List V} {i : Int} {x : V} (ha : σ a = some (.list xs)) (h0 : 0 ≤ i) (hx : xs[i.toNat]? = some x) (hi : i < 2 ^ 60) (h : Q x σ) : Leaf P d (op2 getItem) [.ref a, .int i] σ (asV Q) := by
  intro bx _ s us S hv
  obtain ⟨u, w, rfl, e1, e2⟩ := args2 hv
  have e1 := VR_ref.mp e1; subst e1
  obtain ⟨t, rfl⟩ := VR_int.mp e2
  obtain ⟨items, hil, hvs⟩ := S.rep a _ ha
  obtain ⟨v, hv1, hv2⟩ := hvs.get hx
  exact wpAny_getItem_list hil.isList h0 (by omega) (by rw [← hv1]; simp) (PostB.same S ⟨_, hv2, h⟩)
theorem lf_set_list {a : Addr} {xs : List V} {i : Int} {v : V} {R : Store → Prop} (ha : σ a = some (.list xs)) (h0 : 0 ≤ i) (hi : i.toNat < xs.length) (hi2 : i < 2 ^ 60) (h : R (upd σ a (.list (xs.set i.toNat v)))) :
    Leaf P d (op3 setItem) [.ref a, .int i, v] σ fun _ _ σ' => R σ' := by
  intro bx _ s us S hv
  obtain ⟨u, w, z, rfl, e1, e2, e3⟩ := args3 hv
  have e1 := VR_ref.mp e1; subst e1
  obtain ⟨t, rfl⟩ := VR_int.mp e2
  obtain ⟨items, hil, hvs⟩ := S.rep a _ ha
  have e := hvs.length
  simp at e
  refine setItem_plain hil h0 (by omega) (by omega) fun h' hl' hs => ?_
  obtain ⟨S', T⟩ := S.set (o' := .list (xs.set i.toNat v)) ha (fun b x q e => hs.extBut b x q e) fun T => ⟨_, hl', by simpa using (hvs.mono T).set (e3.mono T)⟩
  exact ⟨_, _, _, rfl, S', T, h⟩
theorem lf_item_tup {value slice : Expr} {xs : List V} {i : Int} {x : V} (h0 : 0 ≤ i) (hx : xs[i.toNat]? = some x) (hi : i < 2 ^ 60) (h : Q x σ)
    (hs : ∀ o i, subscripted slice false o i = operate [o, i] (getItem o i) := by intros; rfl) : Leaf P d (op2 (subscriptTail value slice)) [.tup xs, .int i] σ (asV Q) := by
  intro bx _ s us S hv
  obtain ⟨u, w, rfl, e1, e2⟩ := args2 hv
  obtain ⟨a, items, rfl, ht, hvs⟩ := VR_tup.mp e1
  obtain ⟨t, rfl⟩ := VR_int.mp e2
  obtain ⟨v, hv1, hv2⟩ := hvs.get hx
  have e := hvs.length
  simp at e
  have hlt : i.toNat < xs.length := (List.getElem?_eq_some_iff.mp hx).1
  refine tail_any ht.typeIs F.slot_tuple_getitem.lookup (getItem_tuple (j := i.toNat) ht (by omega) (by omega) ?_ (by rw [← hv1]; simp) (PostB.same S ⟨_, hv2, h⟩)) (hs _ _)
  unfold seqIndex?
  have : ¬ i < 0 := by omega
  simp [this]
  omega
theorem newL_of {s : Shared} {b : Bx P} {h' : Heap} {a : Addr} {xs : List V} {items : Array Value} (S : Sto P.w b.hb σ s.heap) (hn : s.heap.get? a = none) (k : ∀ b x, s.heap.get? b = some x → h'.get? b = some x) (hl : h'.PlainList a items) (hvs : VRs s.heap xs items.toList) :
    Sto P.w b.hb (upd σ a (.list xs)) h' ∧ Tk s.heap h' := ⟨S.add hn k ⟨_, hl, hvs.mono (Tk.of_keep k)⟩, Tk.of_keep k⟩
theorem lf_list_list {a : Addr} {xs : List V} (ha : σ a = some (.list xs)) (hl : xs.length ≤ 1000000) (h : ∀ b, σ b = none → Q (.ref b) (upd σ b (.list xs))) : Leaf P d (callL (.type "list")) [.ref a] σ (asV Q) := by
  intro bx _ s us S hv
  obtain ⟨u, rfl, e1⟩ := args1 hv
  have e1 := VR_ref.mp e1; subst e1
  obtain ⟨items, ⟨n, ho⟩, hvs⟩ := S.rep a _ ha
  have e := hvs.length
  simp at e
  have hn : s.heap.get? s.heap.objs.size = none := Heap.get?_none_of_le (Nat.le_refl _)
  refine call_list_seq a (.inl rfl) ho rfl rfl (fun h' c' k hl' => ?_) (by rw [sizeLine_eq]; omega)
  obtain ⟨S', T⟩ := newL_of (xs := xs) S hn k ⟨_, hl'⟩ hvs
  exact ⟨_, _, _, rfl, S', T, _, VR_ref.mpr rfl, h _ (S.none_of_new hn)⟩
theorem lf_list_tup {xs : List V} (hl : xs.length ≤ 1000000) (h : ∀ b, σ b = none → Q (.ref b) (upd σ b (.list xs))) : Leaf P d (callL (.type "list")) [.tup xs] σ (asV Q) := by
  intro bx _ s us S hv
  obtain ⟨u, rfl, e1⟩ := args1 hv
  obtain ⟨a, items, rfl, ⟨o, ho, hc, n, hd⟩, hvs⟩ := VR_tup.mp e1
  have e := hvs.length
  simp at e
  have hn : s.heap.get? s.heap.objs.size = none := Heap.get?_none_of_le (Nat.le_refl _)
  refine call_list_seq a (.inr rfl) ho hc hd (fun h' c' k hl' => ?_) (by rw [sizeLine_eq]; omega)
  obtain ⟨S', T⟩ := newL_of (xs := xs) S hn k ⟨_, hl'⟩ hvs
  exact ⟨_, _, _, rfl, S', T, _, VR_ref.mpr rfl, h _ (S.none_of_new hn)⟩
theorem lf_tuple_list {a : Addr} {xs : List V} (ha : σ a = some (.list xs)) (hl : xs.length ≤ 1000000) (h : Q (.tup xs) σ) : Leaf P d (callL (.type "tuple")) [.ref a] σ (asV Q) := by
  intro bx _ s us S hv
  obtain ⟨u, rfl, e1⟩ := args1 hv
  have e1 := VR_ref.mp e1; subst e1
  obtain ⟨items, hil, hvs⟩ := S.rep a _ ha
  have e := hvs.length
  simp at e
  refine call_tuple_list hil.isList (fun h' k => ?_) (by rw [sizeLine_eq]; omega)
  have k2 : ∀ b x, s.heap.get? b = some x → (h'.push { cls := .type "tuple", data := .seq items }).get? b = some x := fun b x e => Heap.get?_push_of_some _ (k b x e)
  exact ⟨_, _, σ, rfl, S.grow k2, Tk.of_keep k2, _, VR_tup.mpr ⟨_, items, rfl, IsTup.new _ _, hvs.mono (Tk.of_keep k2)⟩, h⟩
theorem lf_tuple_tup {xs : List V} (h : Q (.tup xs) σ) : Leaf P d (callL (.type "tuple")) [.tup xs] σ (asV Q) := by
  intro bx _ s us S hv
  obtain ⟨u, rfl, e1⟩ := args1 hv
  have e1' := e1
  obtain ⟨a, items, rfl, ht, hvs⟩ := VR_tup.mp e1
  exact call_tuple_same ht (PostB.same S ⟨_, e1', h⟩)
end

-- part L11
section
variable {P : Pg} {sc scope : Scope} {c : Cx P sc} {m : Loc} {σ : Store} {Q : V → Store → Prop} {F : Fl → Loc → Store → Prop}

theorem St.join {h : Heap} {D : Addr} {acc : O} (S : St c m σ h) (hD : Apart c σ D) (r : Rep P.w h D acc) : St c m (upd σ D acc) h := by
  refine ⟨⟨S.sto.keep, fun a o e => ?_, fun a e => ?_⟩, S.ns, S.dom, S.cell, ⟨S.newL.1, ?_⟩, fun x a e => ⟨(S.newC x a e).1, ?_⟩, S.inj⟩
  · by_cases q : a = D
    · subst q; rw [upd_self] at e; cases e; exact r
    · rw [upd_ne _ _ q] at e; exact S.sto.rep a o e
  · by_cases q : a = D
    · subst q; exact hD.hb
    · rw [upd_ne _ _ q] at e; exact S.sto.new a e
  · rw [upd_ne _ _ (Ne.symm hD.L)]; exact S.newL.2
  · rw [upd_ne _ _ (Ne.symm (hD.C x a e))]; exact (S.newC x a e).2
noncomputable def less (σ : Store) (D : Addr) : Store := fun a => if a = D then none else σ a
theorem less_upd {D : Addr} {acc acc' : O} (h : σ D = none) : less (upd (upd σ D acc) D acc') D = σ := by
  funext a
  unfold less
  by_cases q : a = D
  · subst q; simp [h]
  · simp [q, upd]
theorem St.part {h : Heap} {D : Addr} (S : St c m σ h) : St c m (less σ D) h := S.subS fun a o e => by
  unfold less at e
  split at e
  · cases e
  · exact e

noncomputable def listAct (elt : Expr) (acc : Value) (env : Env) : Sem Unit := eval elt env >>= fun x => call (.builtin "list.append") [acc, x] >>= fun _ => pure ()
theorem bind_fun {α β : Type} {t : Sem α} {f g : α → Sem β} (h : ∀ a, f a = g a) : (t >>= f) = (t >>= g) := by rw [show f = g from funext h]
theorem turn_list {elt target iter : Expr} {ifs : List Expr} {pos : Pos} : TurnEq (.ListComp elt [⟨target, iter, ifs, 0⟩] scope pos) 0 target iter ifs (listAct elt) := by
  intro it acc env
  rw [compTurn_list]
  refine bind_fun fun _ => bind_fun fun r => ?_
  cases r with
  | none => rfl
  | some v =>
    refine bind_fun fun _ => bind_fun fun _ => bind_fun fun ok => ?_
    cases ok <;> rfl
theorem act_list {D : Addr} {elt : Expr} {xs : List V} {N : O → Store → Prop} (hl : xs.length ≤ 1000000) (h : ∀ c' : Cx P sc, c'.d = c.d → WE c' elt m σ fun v σ' => N (.list (xs ++ [v])) σ') : Act c (listAct elt) D (.list xs) m σ N := by
  intro s S hD hrep
  obtain ⟨xD, hxD, hxt⟩ := hrep.notTup
  obtain ⟨c2, hd2, hA2, hE2, hn2, Sc2, back2⟩ := S.freeze hD.hb hxD hD.s hD.L hD.C
  have we := h c2 hd2 s Sc2
  rw [hA2, hE2] at we
  refine wpAny_bind (thenE we fun u h1 t1 σ1 S1 T1 ⟨v, hv, n⟩ => ?_)
  obtain ⟨S1', hD1, hσD⟩ := back2 _ _ _ S1
  have r1 : Rep P.w h1 D (.list xs) := hrep.mono T1 fun z hz => by rw [hxD] at hz; cases hz; exact hD1
  have hD' : Apart c σ1 D := ⟨hD.hb, hσD, hD.L, hD.C⟩
  have S2 := S1'.join hD' r1
  have lf := lf_append (P := P) (d := c.d) (σ := upd σ1 D (.list xs)) (a := D) (xs := xs) (v := v) (Q := fun _ σ' => σ' = upd (upd σ1 D (.list xs)) D (.list (xs ++ [v]))) (upd_self _ _ _) hl rfl
  refine wpAny_bind (thenE (lf.lift (s := { s with heap := h1, toks := t1 }) S2 (VRs_cons.mpr ⟨_, _, rfl, VR_ref.mpr rfl, VRs.one hv⟩)) fun r h3 t3 σ3 S3 T3 ⟨rv, _, e3⟩ => wpAny_pure ?_)
  subst e3
  refine ⟨h3, t3, σ1, .list (xs ++ [v]), rfl, ?_, T1.trans T3, S3.sto.rep D _ (upd_self _ _ _), hσD, n⟩
  have := S3.part (D := D)
  rwa [less_upd hσD] at this

theorem compr {gs : List Comprehension} {e : Expr} {iter : Expr} {x : PySem.Str} {px pos : Pos} {ifs : List Expr} {act : Value → Env → Sem Unit} {newAcc : Sem Value} {oD : Obj} {acc0 : O} {use : Option (Value → Sem Unit)} {s : Shared} {Qf : Value → Shared → Prop}
    (hcl : clausesOf e = ⟨.Name x px, iter, ifs, 0⟩ :: gs) (hL : LoopRule (model P.prog P.w) e 0) (hS : StartRule (model P.prog P.w) e 0) (hT : TurnEq e 0 (.Name x px) iter ifs act)
    (hacc : ∀ (s : Shared) (R : Value → Shared → Prop), R (.ref s.heap.objs.size) { s with heap := s.heap.push oD } → wpAny (model P.prog P.w) c.A newAcc R noE s) (hfD : oD.isFreed = false)
    (hrep : ∀ h : Heap, Base P h → Rep P.w (h.push oD) h.objs.size acc0)
    (ok : compOk sc scope = true) (hx : scope.names.lookup x = some .local) (hfold : ∀ v, foldedSetIterable iter c.env v = pure v) (S : St c m σ s.heap)
    (U : O → Store → Prop)
    (h : WE c iter m σ fun v σ₁ => ∃ C items, Iter P σ₁ v C items ∧ ∃ J : Nat → O → Store → Prop, J 0 acc0 σ₁ ∧ (∀ i acc σ, J i acc σ → C σ) ∧
      (∀ i v acc σ, items[i]? = some v → J i acc σ → ∀ c' : Cx P scope, c'.d = c.d → WIf c' ifs (setL (freeL scope m) x v) σ fun ok σ' => if ok then ∀ D, ∀ c' : Cx P scope, c'.d = c.d → Act c' act D acc (setL (freeL scope m) x v) σ' (J (i + 1)) else J (i + 1) acc σ') ∧
      (∀ acc σ, J items.length acc σ → U acc σ))
    (fin : ∀ h' tk σ' D C acc (mm : PySem.Str → Option Value), U acc σ' → σ' D = none → h'.Ns C mm → (∀ h4, Heap.SameBut C h' h4 → St c m (upd σ' D acc) h4 ∧ Tk h' h4 ∧ Apart c (upd σ' D acc) C) → Tk s.heap h' →
      compPost (model P.prog P.w) c.A noE use Qf (.ref D) C (.ok .next) { s with heap := h', toks := tk }) :
    wpAny (model P.prog P.w) c.A (comprehension e scope c.env pos newAcc false (eval iter c.env) use) Qf noE s := by
  have hkind : scope.kind = .function := by unfold compOk at ok; rw [Bool.and_eq_true] at ok; simpa using ok.1
  have hall : ∀ x ∈ scope.names, (match x.2 with
    | .free => sc.names.lookup x.1 == some .cell && scope.names.lookup x.1 == some .free
    | .local => scope.names.lookup x.1 == some .local
    | .cell => false
    | _ => true) = true := by unfold compOk at ok; rw [Bool.and_eq_true] at ok; exact List.all_eq_true.mp ok.2
  obtain ⟨cl, hclos, hcl1, hcl2, hcl3⟩ := closure_ok c.env scope fun y hy hf => by
    obtain ⟨n, k⟩ := y
    cases hf
    have := hall _ hy
    simp at this
    exact c.cellsOk n this.1
  refine wpAny_comprehension_free hcl hfold hclos hkind (fun y hy hl => by obtain ⟨n, k⟩ := y; cases hl; have := hall _ hy; simpa using this) (thenE (h s S) fun u h1 t1 σ1 S1 T1 ⟨v, hv, C, items, hit, J, j0, jC, turn, jU⟩ => ?_)
  obtain ⟨It, hpl, hiter, hnext, hend, hself⟩ := hit c.toBx { s with heap := h1, toks := t1 } u S1.sto hv
  refine hiter _ fun oI hoI => hacc _ _ ?_
  obtain ⟨nI, qI1, qI2, qI3, qI4⟩ := hpl _ _ hoI
  -- the iterator
  have k1 : ∀ b z, h1.get? b = some z → (h1.push oI).get? b = some z := fun b z e => Heap.get?_push_of_some _ e
  have hfr : (h1.push oI).get? h1.objs.size = some oI := Heap.get?_push_size _ qI3
  have hIn : h1.get? h1.objs.size = none := Heap.get?_none_of_le (Nat.le_refl _)
  have S1' : St c m σ1 (h1.push oI) := S1.grow k1
  have hIb : c.hb.get? h1.objs.size = none := by
    cases q : c.hb.get? h1.objs.size with
    | none => rfl
    | some z => rw [S1.sto.keep _ _ q] at hIn; cases hIn
  have hIA : Apart c σ1 h1.objs.size := ⟨hIb, S1.sto.none_of_new hIn, fun q => by obtain ⟨mm, hn, _⟩ := S1.ns; have := hn.lt; rw [← q] at this; exact absurd this (Nat.lt_irrefl _),
    fun y a e q => by obtain ⟨ov, hc, _⟩ := S1.cell y a e; have := hc.lt; rw [← q] at this; exact absurd this (Nat.lt_irrefl _)⟩
  refine wpAny_newFunctionEnv (fun y hy q => by obtain ⟨n, k⟩ := y; cases q; have := hall _ hy; simp at this) (by intro y hy; simp at hy) (fun h2 hns2 hsb2 => ?_) hkind
  dsimp only at hns2 hsb2 ⊢
  obtain ⟨cu, hdu, hAu, hEu, Scu, hDA, hIA2, hID, T2, hI2, hD2, back⟩ := comp_enter (scope := scope) ok S1' hIA hfr hfD hcl1 hcl2 hcl3 (C := ((h1.push oI).push oD).objs.size) (by rw [Heap.size_push]) hns2 hsb2
  have hrep2 : Rep P.w h2 (h1.push oI).objs.size acc0 := by
    have Bs : Base P (h1.push oI) := c.base.of_sto S1'.sto
    refine (hrep _ Bs).mono (Tk.of_keep fun b z e => ?_) fun z hz => ?_
    · exact hsb2.extBut b z (Nat.ne_of_lt (Heap.lt_size e)) (Heap.get?_push_of_some _ e)
    · exact hsb2.extBut _ z (Nat.ne_of_lt (Heap.lt_size hz)) (Heap.get?_push_of_some _ hz)
  have loop : ∀ s2 : Shared, s2 = { s with heap := h2, toks := t1 + ([] : List (PySem.Str × Value)).length } → codeAny (model P.prog P.w) c.A (.compLoop e 0 (.ref h1.objs.size) (.ref (h1.push oI).objs.size) (compEnvC scope cl ((h1.push oI).push oD).objs.size c.env))
      (compPost (model P.prog P.w) c.A noE use Qf (.ref (h1.push oI).objs.size) ((h1.push oI).push oD).objs.size) s2 := by
    rintro s2 rfl
    rw [← hAu, ← hEu]
    refine comp_loop (s := { s with heap := h2, toks := t1 + ([] : List (PySem.Str × Value)).length }) (s₀ := { s with heap := h1, toks := t1 }) hL hT It hpl hnext hend J jC (fun i w acc σ' hw hJ c' hd' => ?_) Scu ((Tk.of_keep k1).trans T2) hIA2 hID hI2 hoI hDA hrep2 j0 fun h' tk σ' acc' S' T' rep' hσ' hJ => ?_
    · refine a_name ⟨fun y z hy => ?_, fun c'' hd'' => ?_⟩ (by rw [hx]; rfl)
      · unfold setL
        by_cases q : y = x
        · subst q; unfold freeL at hy; rw [hx] at hy; simp at hy
        · simp [q, hy]
      · have hd2 : c''.d = c.d := hd''.trans hdu
        have tw := turn i w acc σ' hw hJ c'' hd2
        have key : ∀ ifs, WIf c'' ifs (setL (freeL scope m) x w) σ' (fun ok σ'_1 => if ok = true then ∀ (D : Addr) (c' : Cx P scope), c'.d = c.d → Act c' act D acc (setL (freeL scope m) x w) σ'_1 (J (i + 1)) else J (i + 1) acc σ'_1) →
            WIf c'' ifs (setL (freeL scope m) x w) σ' (fun ok σ'' => if ok = true then ∀ (c' : Cx P scope), c'.d = cu.d → Act c' act (h1.push oI).objs.size acc (setL (freeL scope m) x w) σ'' (J (i + 1)) else J (i + 1) acc σ'') := fun ifs hw => by
          match ifs, hw with
          | [], hw => exact fun c3 hd3 => hw _ c3 (hd3.trans hdu)
          | [t], hw =>
            refine WT.mono hw fun ok σ'' q => ?_
            cases ok with
            | true => exact fun c3 hd3 => q _ c3 (hd3.trans hdu)
            | false => exact q
        exact key ifs tw
    · obtain ⟨mm3, hn3, _⟩ := S'.ns
      have hns : h'.Ns ((h1.push oI).push oD).objs.size mm3 := by
        have := hn3; rw [hEu] at this; exact this
      have Ts : Tk s.heap h' := ((T1.trans (Tk.of_keep k1)).trans T2).trans T'
      rw [hAu]
      exact fin h' tk σ' _ _ acc' mm3 (jU _ _ hJ) hσ' hns (fun h4 hs4 => back _ _ _ _ _ S' (fun y z hy => hy) T' rep' hσ' hs4) Ts
  refine hS _ _ _ _ _ _ (loop _ rfl) (hself _ _ _ oI 0 _ hI2 hoI (loop _ rfl))

theorem e_listcomp {elt iter : Expr} {x : PySem.Str} {px pos : Pos} {ifs : List Expr}
    (h : WE c iter m σ fun v σ₁ => ∃ C items, Iter P σ₁ v C items ∧ ∃ J : Nat → List V → Store → Prop, J 0 [] σ₁ ∧ (∀ i acc σ, J i acc σ → C σ ∧ acc.length ≤ 1000000) ∧
      (∀ i v acc σ, items[i]? = some v → J i acc σ → ∀ c' : Cx P scope, c'.d = c.d → WIf c' ifs (setL (freeL scope m) x v) σ fun ok σ' => if ok then ∀ c' : Cx P scope, c'.d = c.d → WE c' elt (setL (freeL scope m) x v) σ' fun w σ'' => J (i + 1) (acc ++ [w]) σ'' else J (i + 1) acc σ') ∧
      (∀ acc σ, J items.length acc σ → ∀ a, σ a = none → Q (.ref a) (upd σ a (.list acc))))
    (ok : compOk sc scope = true := by decide +kernel) (hx : scope.names.lookup x = some .local := by kernel_rfl) (hfold : ∀ v, foldedSetIterable iter c.env v = pure v := by intro _; rfl) :
    WE c (.ListComp elt [⟨.Name x px, iter, ifs, 0⟩] scope pos) m σ Q := by
  intro s S
  rw [eval_ListComp]
  refine compr (act := listAct elt) (oD := { cls := .type "list", data := .seq #[] }) (acc0 := .list []) rfl loop_list (start_list rfl rfl) turn_list (fun s R r => wpAny_newObj_type r (by show (0 : Nat) ≤ _; exact Nat.zero_le _)) rfl (fun h _ => ⟨#[], ⟨_, Heap.get?_push_size _ rfl⟩, VRs_nil.mpr rfl⟩) ok hx hfold S
    (fun acc σ' => ∃ xs, acc = .list xs ∧ ∀ a, σ' a = none → Q (.ref a) (upd σ' a (.list xs))) ?_ ?_
  · refine h.mono fun v σ₁ ⟨C, items, hit, J, j0, jC, turn, fin⟩ => ⟨C, items, hit, fun i acc σ => ∃ xs, acc = .list xs ∧ J i xs σ, ⟨[], rfl, j0⟩, fun i acc σ ⟨xs, e, hJ⟩ => (jC i xs σ hJ).1, ?_, fun acc σ ⟨xs, e, hJ⟩ => ⟨xs, e, fin xs σ hJ⟩⟩
    rintro i v acc σ' hv ⟨xs, rfl, hJ⟩ c' hd
    have tw := turn i v xs σ' hv hJ c' hd
    have hl := (jC i xs σ' hJ).2
    match ifs, tw with
    | [], tw => exact fun D c3 hd3 => act_list hl fun c4 hd4 => (tw c4 (hd4.trans hd3)).mono fun w σ'' q => ⟨_, rfl, q⟩
    | [t], tw =>
      refine WT.mono tw fun ok σ'' q => ?_
      cases ok with
      | true => exact fun D c3 hd3 => act_list hl fun c4 hd4 => (q c4 (hd4.trans hd3)).mono fun w σ'' q => ⟨_, rfl, q⟩
      | false => exact ⟨xs, rfl, q⟩
  · rintro h' tk σ' D C acc mm ⟨xs, rfl, q⟩ hD hn back T
    refine ⟨mm, hn, fun h4 hs4 => ?_⟩
    obtain ⟨S4, T4, _⟩ := back h4 hs4
    exact ⟨h4, tk, _, rfl, S4, T.trans T4, _, VR_ref.mpr rfl, q D hD⟩

theorem x_listcomp {elt iter : Expr} {x y : PySem.Str} {px py pos pos' : Pos} {ifs : List Expr}
    (h : WE c iter m σ fun v σ₁ => ∃ C items, Iter P σ₁ v C items ∧ ∃ J : Nat → List V → Store → Prop, J 0 [] σ₁ ∧ (∀ i acc σ, J i acc σ → C σ ∧ acc.length ≤ 1000000) ∧
      (∀ i v acc σ, items[i]? = some v → J i acc σ → ∀ c' : Cx P scope, c'.d = c.d → WIf c' ifs (setL (freeL scope m) x v) σ fun ok σ' => if ok then ∀ c' : Cx P scope, c'.d = c.d → WE c' elt (setL (freeL scope m) x v) σ' fun w σ'' => J (i + 1) (acc ++ [w]) σ'' else J (i + 1) acc σ') ∧
      (∀ acc σ, J items.length acc σ → ∀ a, σ a = none → F .next (setL m y (.ref a)) (upd σ a (.list acc))))
    (hy : sc.names.lookup y = some .local := by kernel_rfl) (hpos : (py.line == pos.line) = true := by rfl) (hno : (scope.names.any fun (n, k) => n == y && (k == .local || k == .cell)) = false := by decide +kernel)
    (ok : compOk sc scope = true := by decide +kernel) (hx : scope.names.lookup x = some .local := by kernel_rfl) (hfold : ∀ v, foldedSetIterable iter c.env v = pure v := by intro _; rfl) :
    WX c (.Assign [.Name y py] (.ListComp elt [⟨.Name x px, iter, ifs, 0⟩] scope pos) pos') m σ F := by
  intro s S
  have ky := c.look y _ hy (by simp)
  have hsw : swapsWith (.ListComp elt [⟨.Name x px, iter, ifs, 0⟩] scope pos) (some (.Name y py)) pos'.line c.env = pure true := by
    unfold swapsWith
    have hb : (c.env.blockKind == .function) = true := by unfold Env.blockKind; rw [c.kind]; rfl
    have e2 : (c.env.kindOf y == some .local) = true := by rw [ky]; rfl
    show (pure _ : Sem Bool) = pure true
    congr 1
    show (c.env.blockKind == .function && c.env.kindOf y == some .local && py.line == pos.line && !(scope.names.any fun (n, k) => n == y && (k == .local || k == .cell))) = true
    rw [hb, e2, hpos, hno]; rfl
  rw [exec_Assign_Name_used _ _ _ _ hsw]
  refine wpAny_bind (wpAny_standAt (wpAny_bind ?_))
  show wpAny _ _ (do let _ ← comprehension (.ListComp elt [⟨.Name x px, iter, ifs, 0⟩] scope pos) scope c.env _ (newList []) false (eval iter c.env) (some (assign (.Name y py) c.env))) _ _ s
  refine wpAny_bind (wpAny_mono (compr (Qf := fun _ s' => PostL c s (F .next) () s') (act := listAct elt) (oD := { cls := .type "list", data := .seq #[] }) (acc0 := .list []) rfl loop_list (start_list rfl rfl) turn_list (fun s R r => wpAny_newObj_type r (by show (0 : Nat) ≤ _; exact Nat.zero_le _)) rfl (fun h _ => ⟨#[], ⟨_, Heap.get?_push_size _ rfl⟩, VRs_nil.mpr rfl⟩) ok hx hfold S
    (fun acc σ' => ∃ xs, acc = .list xs ∧ ∀ a, σ' a = none → F .next (setL m y (.ref a)) (upd σ' a (.list xs))) ?_ ?_) (fun v s' q => ?_) fun _ _ z => z)
  · refine h.mono fun v σ₁ ⟨C, items, hit, J, j0, jC, turn, fin⟩ => ⟨C, items, hit, fun i acc σ => ∃ xs, acc = .list xs ∧ J i xs σ, ⟨[], rfl, j0⟩, fun i acc σ ⟨xs, e, hJ⟩ => (jC i xs σ hJ).1, ?_, fun acc σ ⟨xs, e, hJ⟩ => ⟨xs, e, fin xs σ hJ⟩⟩
    rintro i v acc σ' hv ⟨xs, rfl, hJ⟩ c' hd
    have tw := turn i v xs σ' hv hJ c' hd
    have hl := (jC i xs σ' hJ).2
    match ifs, tw with
    | [], tw => exact fun D c3 hd3 => act_list hl fun c4 hd4 => (tw c4 (hd4.trans hd3)).mono fun w σ'' q => ⟨_, rfl, q⟩
    | [t], tw =>
      refine WT.mono tw fun ok σ'' q => ?_
      cases ok with
      | true => exact fun D c3 hd3 => act_list hl fun c4 hd4 => (q c4 (hd4.trans hd3)).mono fun w σ'' q => ⟨_, rfl, q⟩
      | false => exact ⟨xs, rfl, q⟩
  · rintro h' tk σ' D C acc mm ⟨xs, rfl, q⟩ hD hn back T
    obtain ⟨S4, _, hC⟩ := back h' (Heap.SameBut.refl _ _)
    obtain ⟨oC, hoC, htC⟩ := Ns.notTup hn
    obtain ⟨c1, hd1, hA1, hE1, hn1, Sc1, back1⟩ := S4.freeze hC.hb hoC hC.s hC.L hC.C
    have sn := store_name (c := c1) (x := y) (s := { s with heap := h', toks := tk }) (v := .ref D) (u := .ref D) (G := F .next) Sc1 (VR_ref.mpr rfl) (by rw [hy]; rfl) (q D hD)
    rw [hA1, hE1] at sn
    show wpAny _ _ (assign (.Name y py) c.env (.ref D)) _ _ _
    refine wpAny_assign_Name (thenL sn fun h5 t5 σ5 m5 S5 T5 r => ?_)
    obtain ⟨S5', hC5, hσ5⟩ := back1 _ _ _ S5
    refine ⟨mm, hn.at' fun o e => by rw [hoC] at e; cases e; exact hC5, fun h6 hs6 => ?_⟩
    obtain ⟨S6, T6⟩ := S5'.aside hC.hb hC5 htC hσ5 hC.L hC.C fun b z q e => hs6.extBut b z q e
    exact ⟨h6, t5, σ5, m5, rfl, S6, (T.trans T5).trans T6, r⟩
  · obtain ⟨h', tk, σ', m', rfl, S', T', r⟩ := q
    exact wpAny_pure (wpAny_pure ⟨h', tk, σ', m', .next, rfl, S', T', rfl, r⟩)
end

-- part L12
-- dicts
section
variable {K α : Type} [DecidableEq K]
noncomputable def dget (l : List (K × α)) (k : K) : Option α := (l.find? fun kv => decide (kv.1 = k)).map (·.2)
noncomputable def dset (l : List (K × α)) (k : K) (v : α) : List (K × α) := if l.any (fun kv => decide (kv.1 = k)) then l.map (fun kv => if kv.1 = k then (kv.1, v) else kv) else l ++ [(k, v)]
theorem dset_length_le (l : List (K × α)) (k : K) (v : α) : (dset l k v).length ≤ l.length + 1 := by
  unfold dset; split <;> simp
end
noncomputable def mapI (l : List (Int × V)) : List (V × V) := l.map fun p => (.int p.1, p.2)
noncomputable def keyT (ks : List Int) : V := .tup (ks.map .int)
noncomputable def mapT (l : List (List Int × V)) : List (V × V) := l.map fun p => (keyT p.1, p.2)

noncomputable def VP {K : Type} (h : Heap) : List (K × V) → List (K × Value) → Prop
  | [], vs => vs = []
  | (k, v) :: r, vs => ∃ u vs', vs = (k, u) :: vs' ∧ VR h v u ∧ VP h r vs'
section
variable {K : Type} {h h' : Heap}
theorem VP.length : ∀ {l : List (K × V)} {vs : List (K × Value)}, VP h l vs → vs.length = l.length
  | [], vs, e => by cases e; rfl
  | (k, v) :: r, vs, ⟨u, vs', e, _, e3⟩ => by subst e; simp [VP.length e3]
theorem VP.mono (T : Tk h h') : ∀ {l : List (K × V)} {vs : List (K × Value)}, VP h l vs → VP h' l vs
  | [], vs, e => e
  | (k, v) :: r, vs, ⟨u, vs', e, e2, e3⟩ => ⟨u, vs', e, e2.mono T, VP.mono T e3⟩
variable [DecidableEq K]
theorem VP.get : ∀ {l : List (K × V)} {vs : List (K × Value)} {k : K}, VP h l vs → match dget l k with | some v => ∃ u, valueAt vs k = some u ∧ VR h v u | none => valueAt vs k = none
  | [], vs, k, e => by cases e; rfl
  | (k0, v) :: r, vs, k, ⟨u, vs', e, e2, e3⟩ => by
    subst e
    by_cases q : k0 = k
    · subst q; simp [dget, valueAt]; exact e2
    · have ih := VP.get (k := k) e3
      have e1 : dget ((k0, v) :: r) k = dget r k := by simp [dget, List.find?_cons, q]
      have e4 : valueAt ((k0, u) :: vs') k = valueAt vs' k := by simp [valueAt, List.find?_cons, q]
      rw [e1, e4]; exact ih
theorem VP.any : ∀ {l : List (K × V)} {vs : List (K × Value)} {k : K}, VP h l vs → (vs.any fun kv => decide (kv.1 = k)) = (l.any fun kv => decide (kv.1 = k))
  | [], vs, k, e => by cases e; rfl
  | (k0, v) :: r, vs, k, ⟨u, vs', e, e2, e3⟩ => by subst e; simp only [List.any_cons, VP.any e3]
theorem VP.repl {v : V} {u : Value} (f : VR h v u) {k : K} : ∀ {l : List (K × V)} {vs : List (K × Value)}, VP h l vs → VP h (l.map fun kv => if kv.1 = k then (kv.1, v) else kv) (vs.map fun kv => if kv.1 = k then (kv.1, u) else kv)
  | [], vs, e => by cases e; exact rfl
  | (k0, w) :: r, vs, ⟨z, vs', e, e2, e3⟩ => by
    subst e
    simp only [List.map_cons]
    by_cases q : k0 = k
    · simp only [q, if_true]; exact ⟨u, _, rfl, f, VP.repl f e3⟩
    · simp only [q, if_false]; exact ⟨z, _, rfl, e2, VP.repl f e3⟩
theorem VP.snoc {k : K} {v : V} {u : Value} (f : VR h v u) : ∀ {l : List (K × V)} {vs : List (K × Value)}, VP h l vs → VP h (l ++ [(k, v)]) (vs ++ [(k, u)])
  | [], vs, e => by cases e; exact ⟨u, [], rfl, f, rfl⟩
  | (k0, w) :: r, vs, ⟨z, vs', e, e2, e3⟩ => by subst e; exact ⟨z, _, rfl, e2, VP.snoc f e3⟩
theorem VP.store {k : K} {v : V} {u : Value} (f : VR h v u) {l : List (K × V)} {vs : List (K × Value)} (e : VP h l vs) : VP h (dset l k v) (stored vs k u) := by
  unfold dset stored
  rw [e.any]
  split
  · exact e.repl f
  · exact e.snoc f
theorem VP.keys : ∀ {l : List (K × V)} {vs : List (K × Value)}, VP h l vs → vs.map (·.1) = l.map (·.1)
  | [], vs, e => by cases e; rfl
  | (k0, v) :: r, vs, ⟨u, vs', e, e2, e3⟩ => by subst e; simp [VP.keys e3]
end

theorem nodup_map_inj {α β : Type} {f : α → β} (hf : ∀ x y, f x = f y → x = y) : ∀ {l : List α}, l.Nodup → (l.map f).Nodup
  | [], _ => List.nodup_nil
  | a :: l, h => by
    rw [List.nodup_cons] at h
    rw [List.map_cons, List.nodup_cons]
    refine ⟨fun q => ?_, nodup_map_inj hf h.2⟩
    obtain ⟨b, hb, e⟩ := List.mem_map.mp q
    rw [hf _ _ e] at hb; exact h.1 hb
theorem nodup_of_map {α β : Type} {f : α → β} : ∀ {l : List α}, (l.map f).Nodup → l.Nodup
  | [], _ => List.nodup_nil
  | a :: l, h => by
    rw [List.map_cons, List.nodup_cons] at h
    rw [List.nodup_cons]
    exact ⟨fun q => h.1 (List.mem_map_of_mem q), nodup_of_map h.2⟩

section
variable {P : Pg} {h : Heap} {d : Addr}
theorem erI : ∀ {l : List (Int × V)} {es : List DictEntry}, ER P.w h (mapI l) es → ∃ vs, Pairs (intKind P.prog P.w) es vs ∧ VP h l vs ∧ ∀ e ∈ es, ∃ k, (intKind P.prog P.w).is k e.key = true ∧ e.hash = (intKind P.prog P.w).hash k
  | [], es, e => by cases e; exact ⟨[], .nil, rfl, fun _ h => by cases h⟩
  | (k, v) :: r, es, ⟨en, es', e1, e2, e3, e4, e5⟩ => by
    subst e1
    obtain ⟨vs, p1, p2, p3⟩ := erI (l := r) e5
    obtain ⟨t, ht⟩ := VR_int.mp e2
    have hk : (intKind P.prog P.w).is k en.key = true := by rw [ht]; exact intKind_is _ _ _ _
    exact ⟨(k, en.val) :: vs, .cons hk rfl p1, ⟨en.val, vs, rfl, e3, p2⟩, fun e he => by
      rcases List.mem_cons.mp he with rfl | he
      · exact ⟨k, hk, e4⟩
      · exact p3 e he⟩
theorem erI' : ∀ {vs : List (Int × Value)} {l : List (Int × V)} {es : List DictEntry}, Pairs (intKind P.prog P.w) es vs → VP h l vs → (∀ e ∈ es, ∃ k, (intKind P.prog P.w).is k e.key = true ∧ e.hash = (intKind P.prog P.w).hash k) → ER P.w h (mapI l) es
  | _, [], es, p, e, _ => by cases e; cases p; exact rfl
  | _, (k, v) :: r, es, p, ⟨u, vs', e, e2, e3⟩, hk => by
    subst e
    cases p with
    | @cons en _ es' _ h1 h2 p' =>
      obtain ⟨k', q1, q2⟩ := hk en (.head _)
      have : k = k' := (intKind P.prog P.w).inj _ _ _ h1 q1
      subst this
      obtain ⟨t, ht⟩ := Value.isInt_shape h1
      exact ⟨en, es', rfl, VR_int.mpr ⟨t, ht⟩, by rw [h2]; exact e2, q2, erI' p' e3 fun e he => hk e (.tail _ he)⟩
theorem int_inj : ∀ x y : Int, V.int x = V.int y → x = y := fun x y e => by cases e; rfl
theorem mapI_keys (l : List (Int × V)) : (mapI l).map (·.1) = (l.map (·.1)).map V.int := by simp [mapI, Function.comp_def]
theorem dI_to {l : List (Int × V)} {ep : Nat} (r : Rep P.w h d (.dict (mapI l) ep)) : ∃ vs, h.DictOf (intKind P.prog P.w) d vs ∧ VP h l vs ∧ (d == sysModules) = false := by
  obtain ⟨o, es, ho, hx, hd, he, hs, hn⟩ := r
  obtain ⟨vs, p1, p2, p3⟩ := erI he
  refine ⟨vs, ⟨o, es, ep, ho, hx, hd, fun e he => p3 e (by simpa using he), p1, ?_⟩, p2, hs⟩
  rw [p2.keys]
  rw [mapI_keys] at hn
  exact nodup_of_map hn
theorem dI_of {l : List (Int × V)} {vs : List (Int × Value)} (r : h.DictOf (intKind P.prog P.w) d vs) (e : VP h l vs) (hs : (d == sysModules) = false) : ∃ ep, Rep P.w h d (.dict (mapI l) ep) := by
  obtain ⟨o, es, ep, ho, hx, hd, hk, hp, hn⟩ := r
  refine ⟨ep, o, es, ho, hx, hd, erI' hp e (fun en he => hk en (by simpa using he)), hs, ?_⟩
  rw [mapI_keys]
  rw [e.keys] at hn
  exact nodup_map_inj int_inj hn

-- tuple keys
noncomputable def XP (h : Heap) : List (List Int × V) → List (List Int × Addr × Value) → Prop
  | [], xs => xs = []
  | (k, v) :: r, xs => ∃ a u xs', xs = (k, a, u) :: xs' ∧ VR h v u ∧ XP h r xs'
theorem XP.length : ∀ {l : List (List Int × V)} {xs : List (List Int × Addr × Value)}, XP h l xs → xs.length = l.length
  | [], vs, e => by cases e; rfl
  | (k, v) :: r, vs, ⟨a, u, vs', e, _, e3⟩ => by subst e; simp [XP.length e3]
theorem XP.mono {h' : Heap} (T : Tk h h') : ∀ {l : List (List Int × V)} {xs : List (List Int × Addr × Value)}, XP h l xs → XP h' l xs
  | [], vs, e => e
  | (k, v) :: r, vs, ⟨a, u, vs', e, e2, e3⟩ => ⟨a, u, vs', e, e2.mono T, XP.mono T e3⟩
theorem XP.keys : ∀ {l : List (List Int × V)} {xs : List (List Int × Addr × Value)}, XP h l xs → xs.map (·.1) = l.map (·.1)
  | [], vs, e => by cases e; rfl
  | (k0, v) :: r, vs, ⟨a, u, vs', e, e2, e3⟩ => by subst e; simp [XP.keys e3]
theorem XP.get : ∀ {l : List (List Int × V)} {xs : List (List Int × Addr × Value)} {k : List Int}, XP h l xs → match dget l k with | some v => ∃ a u, atKey xs k = some (a, u) ∧ VR h v u | none => atKey xs k = none
  | [], vs, k, e => by cases e; rfl
  | (k0, v) :: r, vs, k, ⟨a, u, vs', e, e2, e3⟩ => by
    subst e
    by_cases q : k0 = k
    · subst q; simp [dget, atKey]; exact ⟨a, u, ⟨rfl, rfl⟩, e2⟩
    · have ih := XP.get (k := k) e3
      have e1 : dget ((k0, v) :: r) k = dget r k := by simp [dget, List.find?_cons, q]
      have e4 : atKey ((k0, a, u) :: vs') k = atKey vs' k := by simp [atKey, List.find?_cons, q]
      rw [e1, e4]; exact ih
theorem dget_isSome {K α : Type} [DecidableEq K] (l : List (K × α)) (k : K) : (dget l k).isSome = l.any fun kv => decide (kv.1 = k) := by
  induction l with
  | nil => rfl
  | cons p r ih =>
    by_cases q : p.1 = k
    · simp [dget, List.find?_cons, q]
    · have : dget (p :: r) k = dget r k := by simp [dget, List.find?_cons, q]
      rw [this, ih]; simp [q]
theorem XP.repl {v : V} {u : Value} (f : VR h v u) {k : List Int} : ∀ {l : List (List Int × V)} {xs : List (List Int × Addr × Value)}, XP h l xs → XP h (l.map fun kv => if kv.1 = k then (kv.1, v) else kv) (xs.map (putAt k u))
  | [], vs, e => by cases e; exact rfl
  | (k0, w) :: r, vs, ⟨a, z, vs', e, e2, e3⟩ => by
    subst e
    simp only [List.map_cons, putAt]
    by_cases q : k0 = k
    · simp only [q, if_true]; exact ⟨a, u, _, rfl, f, XP.repl f e3⟩
    · simp only [q, if_false]; exact ⟨a, z, _, rfl, e2, XP.repl f e3⟩
theorem XP.snoc {k : List Int} {v : V} {a : Addr} {u : Value} (f : VR h v u) : ∀ {l : List (List Int × V)} {xs : List (List Int × Addr × Value)}, XP h l xs → XP h (l ++ [(k, v)]) (xs ++ [(k, a, u)])
  | [], vs, e => by cases e; exact ⟨a, u, [], rfl, f, rfl⟩
  | (k0, w) :: r, vs, ⟨b, z, vs', e, e2, e3⟩ => by subst e; exact ⟨b, z, _, rfl, e2, XP.snoc f e3⟩
theorem XP.store {k : List Int} {v : V} {a : Addr} {u : Value} (f : VR h v u) {l : List (List Int × V)} {xs : List (List Int × Addr × Value)} (e : XP h l xs) : XP h (dset l k v) (storedH xs k a u) := by
  unfold dset storedH
  have g := e.get (k := k)
  rw [← dget_isSome]
  cases q : dget l k with
  | some w => rw [q] at g; obtain ⟨b, z, g, _⟩ := g; rw [g]; exact e.repl f
  | none => rw [q] at g; rw [g]; exact e.snoc f

abbrev tk (P : Pg) : HeapKind P.prog P.w (List Int) := tupleKind (intKind P.prog P.w)
theorem items_are : ∀ {ks : List Int} {us : List Value}, VRs h (ks.map .int) us ↔ ItemsAre (intKind P.prog P.w) ks us
  | [], us => by
    constructor
    · intro e; have e := VRs_nil.mp e; subst e; exact .nil
    · intro e; cases e; exact VRs_nil.mpr rfl
  | k :: ks, us => by
    constructor
    · intro e
      obtain ⟨u, us', rfl, e2, e3⟩ := VRs_cons.mp e
      obtain ⟨t, rfl⟩ := VR_int.mp e2
      exact .cons (intKind_is _ _ _ _) (items_are.mp e3)
    · intro e
      cases e with
      | cons h1 h2 =>
        obtain ⟨t, rfl⟩ := Value.isInt_shape h1
        exact VRs_cons.mpr ⟨_, _, rfl, VR_int.mpr ⟨t, rfl⟩, items_are.mpr h2⟩
theorem key_is {ks : List Int} {u : Value} : VR h (keyT ks) u ↔ ∃ a, u = .ref a ∧ (tk P).is h ks a := by
  constructor
  · intro e
    obtain ⟨a, items, rfl, ⟨o, ho, hc, n, hd⟩, hv⟩ := VR_tup.mp e
    exact ⟨a, rfl, o, items, n, ho, hc, hd, items_are.mp hv⟩
  · rintro ⟨a, rfl, o, items, n, ho, hc, hd, hi⟩
    exact VR_tup.mpr ⟨a, items, rfl, ⟨o, ho, hc, n, hd⟩, items_are.mpr hi⟩
theorem hash_key (ks : List Int) : hashV P.w (keyT ks) = (tk P).hash ks := by
  show reduceHash (Builtin.Tuple.tupleHashOf ((ks.map V.int).map fun | .int i => hashInt i | _ => 0)) = reduceHash (Builtin.Tuple.tupleHashOf (ks.map hashInt))
  rw [List.map_map]; rfl
theorem erT : ∀ {l : List (List Int × V)} {es : List DictEntry}, ER P.w h (mapT l) es → ∃ xs, es = xs.map (entryOfKey (tk P)) ∧ XP h l xs ∧ ∀ x ∈ xs, (tk P).is h x.1 x.2.1
  | [], es, e => by cases e; exact ⟨[], rfl, rfl, fun _ h => by cases h⟩
  | (k, v) :: r, es, ⟨en, es', e1, e2, e3, e4, e5⟩ => by
    subst e1
    obtain ⟨xs, p1, p2, p3⟩ := erT (l := r) e5
    obtain ⟨a, ha, hk⟩ := (key_is (P := P)).mp e2
    refine ⟨(k, a, en.val) :: xs, ?_, ⟨a, en.val, xs, rfl, e3, p2⟩, fun x hx => ?_⟩
    · rw [List.map_cons, p1]
      congr 1
      obtain ⟨h1, h2, h3⟩ := en
      dsimp only at ha e4
      subst ha
      rw [e4, hash_key]; rfl
    · rcases List.mem_cons.mp hx with rfl | hx
      · exact hk
      · exact p3 x hx
theorem erT' : ∀ {xs : List (List Int × Addr × Value)} {l : List (List Int × V)}, XP h l xs → (∀ x ∈ xs, (tk P).is h x.1 x.2.1) → ER P.w h (mapT l) (xs.map (entryOfKey (tk P)))
  | _, [], e, _ => by cases e; exact rfl
  | _, (k, v) :: r, ⟨a, u, xs', e, e2, e3⟩, hk => by
    subst e
    exact ⟨_, _, rfl, (key_is (P := P)).mpr ⟨a, rfl, hk _ (.head _)⟩, e2, (hash_key k).symm, erT' e3 fun x hx => hk x (.tail _ hx)⟩
theorem map_int_inj : ∀ {xs ys : List Int}, xs.map V.int = ys.map V.int → xs = ys
  | [], [], _ => rfl
  | [], _ :: _, e => by cases e
  | _ :: _, [], e => by cases e
  | x :: xs, y :: ys, e => by
    simp only [List.map_cons, List.cons.injEq] at e
    rw [int_inj _ _ e.1, map_int_inj e.2]
theorem keyT_inj : ∀ x y : List Int, keyT x = keyT y → x = y := fun x y e => by unfold keyT at e; injection e with e; exact map_int_inj e
theorem mapT_keys (l : List (List Int × V)) : (mapT l).map (·.1) = (l.map (·.1)).map keyT := by simp [mapT, Function.comp_def]
theorem dT_to {l : List (List Int × V)} {ep : Nat} (r : Rep P.w h d (.dict (mapT l) ep)) : ∃ xs, h.DictOfH (tk P) d xs ∧ XP h l xs ∧ (d == sysModules) = false := by
  obtain ⟨o, es, ho, hx, hd, he, hs, hn⟩ := r
  obtain ⟨xs, p1, p2, p3⟩ := erT he
  refine ⟨xs, ⟨o, es, ep, ho, hx, hd, p1, p3, ?_⟩, p2, hs⟩
  rw [p2.keys]
  rw [mapT_keys] at hn
  exact nodup_of_map hn
theorem dT_of {l : List (List Int × V)} {xs : List (List Int × Addr × Value)} (r : h.DictOfH (tk P) d xs) (e : XP h l xs) (hs : (d == sysModules) = false) : ∃ ep, Rep P.w h d (.dict (mapT l) ep) := by
  obtain ⟨o, es, ep, ho, hx, hd, he, hk, hn⟩ := r
  refine ⟨ep, o, es, ho, hx, hd, by rw [he]; exact erT' e hk, hs, ?_⟩
  rw [mapT_keys]
  rw [e.keys] at hn
  exact nodup_map_inj keyT_inj hn
end

section
variable {P : Pg} {d : Nat} {σ : Store} {Q : V → Store → Prop} {R : Store → Prop}
theorem lf_ninI {a : Addr} {l : List (Int × V)} {ep : Nat} {k : Int} (ha : σ a = some (.dict (mapI l) ep)) (h : Q (.bool (!(dget l k).isSome)) σ) : Leaf P d (op2 (compareOp .NotIn)) [.int k, .ref a] σ (asV Q) := by
  intro bx _ s us S hv
  obtain ⟨u, v, rfl, e1, e2⟩ := args2 hv
  obtain ⟨t, rfl⟩ := VR_int.mp e1; have e2 := VR_ref.mp e2; subst e2
  obtain ⟨vs, hd, hp, hs⟩ := dI_to (P := P) (S.rep a _ ha)
  have g := hp.get (k := k)
  refine wpAny_notIn_of (intKind_is _ _ k t) hs hd.mapOf (PostB.tok _ S ⟨_, VR_bool.mpr rfl, ?_⟩)
  cases q : dget l k with
  | some w => rw [q] at g h; obtain ⟨z, g, _⟩ := g; rw [g]; exact h
  | none => rw [q] at g h; rw [g]; exact h
theorem lf_itemI {value slice : Expr} {a : Addr} {l : List (Int × V)} {ep : Nat} {k : Int} {x : V} (ha : σ a = some (.dict (mapI l) ep)) (hx : dget l k = some x) (h : Q x σ)
    (hsub : ∀ o i, subscripted slice false o i = operate [o, i] (getItem o i) := by intros; rfl) : Leaf P d (op2 (subscriptTail value slice)) [.ref a, .int k] σ (asV Q) := by
  intro bx _ s us S hv
  obtain ⟨u, v, rfl, e1, e2⟩ := args2 hv
  obtain ⟨t, rfl⟩ := VR_int.mp e2; have e1 := VR_ref.mp e1; subst e1
  obtain ⟨vs, hd, hp, hs⟩ := dI_to (P := P) (S.rep a _ ha)
  have g := hp.get (k := k)
  rw [hx] at g
  obtain ⟨z, g, gz⟩ := g
  exact tail_any hd.typeIs slot_dict_getitem.lookup (wpAny_getItem_of (intKind_is _ _ k t) hd.mapOf g (PostB.tok _ S ⟨_, gz, h⟩)) (hsub _ _)
theorem lf_setI {a : Addr} {l : List (Int × V)} {ep : Nat} {k : Int} {v : V} (ha : σ a = some (.dict (mapI l) ep)) (hl : l.length ≤ 1000000) (h : ∀ ep', R (upd σ a (.dict (mapI (dset l k v)) ep'))) :
    Leaf P d (op3 setItem) [.ref a, .int k, v] σ fun _ _ σ' => R σ' := by
  intro bx _ s us S hv
  obtain ⟨u, w, z, rfl, e1, e2, e3⟩ := args3 hv
  obtain ⟨t, rfl⟩ := VR_int.mp e2; have e1 := VR_ref.mp e1; subst e1
  obtain ⟨vs, hd, hp, hs⟩ := dI_to (P := P) (S.rep a _ ha)
  refine wpAny_setItem_pairs (intKind_is _ _ k t) hd (fun h' hd' hsb => ?_) (by rw [hp.length, sizeLine_eq]; omega)
  obtain ⟨xo, hxo, hxt⟩ := (S.rep a _ ha).notTup
  have T : Tk s.heap h' := Tk.but hxo hxt fun b x q e => hsb.extBut b x q e
  obtain ⟨ep', r⟩ := dI_of (P := P) (l := dset l k v) hd' ((hp.mono T).store (e3.mono T)) hs
  obtain ⟨S', T'⟩ := S.set (o' := .dict (mapI (dset l k v)) ep') ha (fun b x q e => hsb.extBut b x q e) fun _ => r
  exact ⟨_, _, _, rfl, S', T', h ep'⟩
theorem lf_dsetI {a : Addr} {l : List (Int × V)} {ep : Nat} {k : Int} {v : V} (ha : σ a = some (.dict (mapI l) ep)) (hl : l.length ≤ 1000000) (h : ∀ ep', R (upd σ a (.dict (mapI (dset l k v)) ep'))) :
    Leaf P d (op2 (dictSet a)) [.int k, v] σ fun _ _ σ' => R σ' := by
  intro bx _ s us S hv
  obtain ⟨w, z, rfl, e2, e3⟩ := args2 hv
  obtain ⟨t, rfl⟩ := VR_int.mp e2
  obtain ⟨vs, hd, hp, hs⟩ := dI_to (P := P) (S.rep a _ ha)
  refine wpAny_dictSet_pairs (intKind_is _ _ k t) hd (fun h' hd' hsb => ?_) (by rw [hp.length, sizeLine_eq]; omega)
  obtain ⟨xo, hxo, hxt⟩ := (S.rep a _ ha).notTup
  have T : Tk s.heap h' := Tk.but hxo hxt fun b x q e => hsb.extBut b x q e
  obtain ⟨ep', r⟩ := dI_of (P := P) (l := dset l k v) hd' ((hp.mono T).store (e3.mono T)) hs
  obtain ⟨S', T'⟩ := S.set (o' := .dict (mapI (dset l k v)) ep') ha (fun b x q e => hsb.extBut b x q e) fun _ => r
  exact ⟨_, _, _, rfl, S', T', h ep'⟩
theorem lf_getI {a : Addr} {l : List (Int × V)} {ep : Nat} {k : Int} {v : V} (ha : σ a = some (.dict (mapI l) ep)) (h : Q ((dget l k).getD v) σ) : Leaf P d (callL (.builtin "dict.get")) [.ref a, .int k, v] σ (asV Q) := by
  intro bx _ s us S hv
  obtain ⟨u, w, z, rfl, e1, e2, e3⟩ := args3 hv
  obtain ⟨t, rfl⟩ := VR_int.mp e2; have e1 := VR_ref.mp e1; subst e1
  obtain ⟨vs, hd, hp, hs⟩ := dI_to (P := P) (S.rep a _ ha)
  have g := hp.get (k := k)
  refine call_meetsIn PySem.F.slot_dict_get hd.typeIs PySem.F.entry_dict_get (PySem.F.args_dict_get_3 _ _ _) (meets_dict_get_default (intKind P.prog P.w) a (intKind_is _ _ k t) hs z) ⟨_, hd.mapOf, ?_⟩
  cases q : dget l k with
  | some w => rw [q] at g h; obtain ⟨z', g, gz⟩ := g; rw [g]; exact PostB.tok _ S ⟨_, gz, h⟩
  | none => rw [q] at g h; rw [g]; exact PostB.tok _ S ⟨_, e3, h⟩
theorem lf_setdefI {a : Addr} {l : List (Int × V)} {ep : Nat} {k : Int} {v : V} (ha : σ a = some (.dict (mapI l) ep)) (hl : l.length ≤ 1000000) (h1 : ∀ x, dget l k = some x → Q x σ) (h2 : dget l k = none → ∀ ep', Q v (upd σ a (.dict (mapI (dset l k v)) ep'))) :
    Leaf P d (callL (.builtin "dict.setdefault")) [.ref a, .int k, v] σ (asV Q) := by
  intro bx _ s us S hv
  obtain ⟨u, w, z, rfl, e1, e2, e3⟩ := args3 hv
  obtain ⟨t, rfl⟩ := VR_int.mp e2; have e1 := VR_ref.mp e1; subst e1
  obtain ⟨vs, hd, hp, hs⟩ := dI_to (P := P) (S.rep a _ ha)
  have g := hp.get (k := k)
  refine call_meetsIn PySem.F.slot_dict_setdefault hd.typeIs PySem.F.entry_dict_setdefault (PySem.F.args_dict_setdefault_3 _ _ _) (kt_meets_setdefault (intKind P.prog P.w) a (intKind_is _ _ k t) hs z) ⟨vs, hd, by rw [hp.length, sizeLine_eq]; omega, fun x hx => ?_, fun hx h' hd' hsb => ?_⟩
  · cases q : dget l k with
    | some w => rw [q] at g; obtain ⟨z', g, gz⟩ := g; rw [g] at hx; cases hx; exact PostB.tok _ S ⟨_, gz, h1 _ q⟩
    | none => rw [q] at g; rw [g] at hx; cases hx
  · have q : dget l k = none := by
      cases q : dget l k with
      | some w => rw [q] at g; obtain ⟨z', g, gz⟩ := g; rw [g] at hx; cases hx
      | none => rfl
    obtain ⟨xo, hxo, hxt⟩ := (S.rep a _ ha).notTup
    have T : Tk s.heap h' := Tk.but hxo hxt fun b x q e => hsb.extBut b x q e
    obtain ⟨ep', r⟩ := dI_of (P := P) (l := dset l k v) hd' ((hp.mono T).store (e3.mono T)) hs
    obtain ⟨S', T'⟩ := S.set (o' := .dict (mapI (dset l k v)) ep') ha (fun b x q e => hsb.extBut b x q e) fun _ => r
    exact ⟨_, _, _, rfl, S', T', _, e3.mono T, h2 q ep'⟩
theorem lf_lenD {a : Addr} {l : List (Int × V)} {ep : Nat} (ha : σ a = some (.dict (mapI l) ep)) (hl : l.length ≤ 1000000) (h : Q (.int l.length) σ) : Leaf P d (callL (.builtin "len")) [.ref a] σ (asV Q) := by
  intro bx _ s us S hv
  obtain ⟨u, rfl, e1⟩ := args1 hv
  have e1 := VR_ref.mp e1; subst e1
  obtain ⟨vs, hd, hp, hs⟩ := dI_to (P := P) (S.rep a _ ha)
  have e := hp.length
  exact call_len_dict hs hd (by omega) (PostB.tok _ S ⟨_, VR_int.mpr ⟨_, by rw [e]⟩, h⟩)

theorem unitsOk (bx : Bx P) : (tk P).room bx.A.in1 := by
  have := bx.units
  show bx.A.units + 1 < 9900
  omega
theorem lf_ninT {a : Addr} {l : List (List Int × V)} {ep : Nat} {k : List Int} (ha : σ a = some (.dict (mapT l) ep)) (h : Q (.bool (!(dget l k).isSome)) σ) : Leaf P d (op2 (compareOp .NotIn)) [keyT k, .ref a] σ (asV Q) := by
  intro bx _ s us S hv
  obtain ⟨u, v, rfl, e1, e2⟩ := args2 hv
  obtain ⟨b, rfl, hk⟩ := (key_is (P := P)).mp e1; have e2 := VR_ref.mp e2; subst e2
  obtain ⟨xs, hd, hp, hs⟩ := dT_to (P := P) (S.rep a _ ha)
  have g := hp.get (k := k)
  refine wpAny_notIn_heap (unitsOk bx) hk hs hd (PostB.tok _ S ⟨_, VR_bool.mpr rfl, ?_⟩)
  cases q : dget l k with
  | some w => rw [q] at g h; obtain ⟨a', z, g, _⟩ := g; rw [g]; exact h
  | none => rw [q] at g h; rw [g]; exact h
theorem lf_itemT {value slice : Expr} {a : Addr} {l : List (List Int × V)} {ep : Nat} {k : List Int} {x : V} (ha : σ a = some (.dict (mapT l) ep)) (hx : dget l k = some x) (h : Q x σ)
    (hsub : ∀ o i, subscripted slice false o i = operate [o, i] (getItem o i) := by intros; rfl) : Leaf P d (op2 (subscriptTail value slice)) [.ref a, keyT k] σ (asV Q) := by
  intro bx _ s us S hv
  obtain ⟨u, v, rfl, e1, e2⟩ := args2 hv
  obtain ⟨b, rfl, hk⟩ := (key_is (P := P)).mp e2; have e1 := VR_ref.mp e1; subst e1
  obtain ⟨xs, hd, hp, hs⟩ := dT_to (P := P) (S.rep a _ ha)
  have g := hp.get (k := k)
  rw [hx] at g
  obtain ⟨a', z, g, gz⟩ := g
  exact tail_any hd.typeIs slot_dict_getitem.lookup (wpAny_getItem_heap (unitsOk bx) hk hd g (PostB.tok _ S ⟨_, gz, h⟩)) (hsub _ _)
theorem lf_setT {a : Addr} {l : List (List Int × V)} {ep : Nat} {k : List Int} {v : V} (ha : σ a = some (.dict (mapT l) ep)) (hl : l.length ≤ 1000000) (h : ∀ ep', R (upd σ a (.dict (mapT (dset l k v)) ep'))) :
    Leaf P d (op3 setItem) [.ref a, keyT k, v] σ fun _ _ σ' => R σ' := by
  intro bx _ s us S hv
  obtain ⟨u, w, z, rfl, e1, e2, e3⟩ := args3 hv
  obtain ⟨b, rfl, hk⟩ := (key_is (P := P)).mp e2; have e1 := VR_ref.mp e1; subst e1
  obtain ⟨xs, hd, hp, hs⟩ := dT_to (P := P) (S.rep a _ ha)
  refine wpAny_setItem_heap (unitsOk bx) hk hd (fun h' hd' hsb => ?_) (by rw [hp.length, sizeLine_eq]; omega)
  obtain ⟨xo, hxo, hxt⟩ := (S.rep a _ ha).notTup
  have T : Tk s.heap h' := Tk.but hxo hxt fun b x q e => hsb.extBut b x q e
  obtain ⟨ep', r⟩ := dT_of (P := P) (l := dset l k v) hd' ((hp.mono T).store (e3.mono T)) hs
  obtain ⟨S', T'⟩ := S.set (o' := .dict (mapT (dset l k v)) ep') ha (fun b x q e => hsb.extBut b x q e) fun _ => r
  exact ⟨_, _, _, rfl, S', T', h ep'⟩
theorem lf_dsetT {a : Addr} {l : List (List Int × V)} {ep : Nat} {k : List Int} {v : V} (ha : σ a = some (.dict (mapT l) ep)) (hl : l.length ≤ 1000000) (h : ∀ ep', R (upd σ a (.dict (mapT (dset l k v)) ep'))) :
    Leaf P d (op2 (dictSet a)) [keyT k, v] σ fun _ _ σ' => R σ' := by
  intro bx _ s us S hv
  obtain ⟨w, z, rfl, e2, e3⟩ := args2 hv
  obtain ⟨b, rfl, hk⟩ := (key_is (P := P)).mp e2
  obtain ⟨xs, hd, hp, hs⟩ := dT_to (P := P) (S.rep a _ ha)
  have hr : (tk P).room bx.A := by have := bx.units; show bx.A.units < 9900; omega
  refine wpAny_dictSet_heap hr hk hd (fun h' hd' hsb => ?_) (by rw [hp.length, sizeLine_eq]; omega)
  obtain ⟨xo, hxo, hxt⟩ := (S.rep a _ ha).notTup
  have T : Tk s.heap h' := Tk.but hxo hxt fun b x q e => hsb.extBut b x q e
  obtain ⟨ep', r⟩ := dT_of (P := P) (l := dset l k v) hd' ((hp.mono T).store (e3.mono T)) hs
  obtain ⟨S', T'⟩ := S.set (o' := .dict (mapT (dset l k v)) ep') ha (fun b x q e => hsb.extBut b x q e) fun _ => r
  exact ⟨_, _, _, rfl, S', T', h ep'⟩
theorem lf_getT {a : Addr} {l : List (List Int × V)} {ep : Nat} {k : List Int} {v : V} (ha : σ a = some (.dict (mapT l) ep)) (h : Q ((dget l k).getD v) σ) : Leaf P d (callL (.builtin "dict.get")) [.ref a, keyT k, v] σ (asV Q) := by
  intro bx _ s us S hv
  obtain ⟨u, w, z, rfl, e1, e2, e3⟩ := args3 hv
  obtain ⟨b, rfl, hk⟩ := (key_is (P := P)).mp e2; have e1 := VR_ref.mp e1; subst e1
  obtain ⟨xs, hd, hp, hs⟩ := dT_to (P := P) (S.rep a _ ha)
  have g := hp.get (k := k)
  refine call_meetsIn PySem.F.slot_dict_get hd.typeIs PySem.F.entry_dict_get (PySem.F.args_dict_get_3 _ _ _) (meetsH_dict_get_default (tk P) a b hs z) ⟨unitsOk bx, k, xs, hk, hd, ?_⟩
  cases q : dget l k with
  | some w => rw [q] at g h; obtain ⟨a', z', g, gz⟩ := g; rw [g]; exact PostB.tok _ S ⟨_, gz, h⟩
  | none => rw [q] at g h; rw [g]; exact PostB.tok _ S ⟨_, e3, h⟩
end

-- part L13
section
variable {P : Pg} {sc : Scope} {c : Cx P sc} {m : Loc} {d : Nat} {σ : Store} {Q : V → Store → Prop} {R : Store → Prop} {B : Bool → Store → Prop}

theorem e_dict0 {pos : Pos} (h : ∀ a, σ a = none → Q (.ref a) (upd σ a (.dict [] 0))) : WE c (.Dict [] [] pos) m σ Q := by
  intro s S
  refine wpAny_Dict_empty ?_
  have k : Tk s.heap (s.heap.push { cls := .type "dict", data := .dict #[] }) := Tk.of_keep fun b x e => Heap.get?_push_of_some _ e
  obtain ⟨n, S2⟩ := S.add (o := { cls := .type "dict", data := .dict #[] }) (a := .dict [] 0) rfl ⟨_, #[], Heap.get?_push_size _ rfl, ⟨rfl, rfl, rfl⟩, rfl, rfl, (c.base.of_sto S.sto).sys, List.nodup_nil⟩
  exact ⟨_, _, _, rfl, S2, k, _, VR_ref.mpr rfl, h _ n⟩

theorem lf_tbool {b : Bool} (h : B b σ) : Leaf P d (op1 truthy) [.bool b] σ fun b _ σ => B b σ := by
  intro bx _ s us S hv
  obtain ⟨u, rfl, e1⟩ := args1 hv
  have e1 := VR_bool.mp e1; subst e1
  exact wpAny_truthy_bool (PostB.same S h)

-- membership
theorem lf_inL {a : Addr} {ns : List Int} {k : Int} (ha : σ a = some (.list (ns.map .int))) (h : Q (.bool (ns.any (· == k))) σ) : Leaf P d (op2 (compareOp .In)) [.int k, .ref a] σ (asV Q) := by
  intro bx _ s us S hv
  obtain ⟨u, v, rfl, e1, e2⟩ := args2 hv
  obtain ⟨t, rfl⟩ := VR_int.mp e1; have e2 := VR_ref.mp e2; subst e2
  obtain ⟨items, hl, hvs⟩ := S.rep a _ ha
  exact in_list_ints (vs := items.toList) (by simpa using hl.isList) (VRs.ints.mp hvs) (PostB.same S ⟨_, VR_bool.mpr rfl, h⟩)
theorem lf_ninL {a : Addr} {ns : List Int} {k : Int} (ha : σ a = some (.list (ns.map .int))) (h : Q (.bool (!ns.any (· == k))) σ) : Leaf P d (op2 (compareOp .NotIn)) [.int k, .ref a] σ (asV Q) := by
  intro bx _ s us S hv
  obtain ⟨u, v, rfl, e1, e2⟩ := args2 hv
  obtain ⟨t, rfl⟩ := VR_int.mp e1; have e2 := VR_ref.mp e2; subst e2
  obtain ⟨items, hl, hvs⟩ := S.rep a _ ha
  exact notin_list_ints (vs := items.toList) (by simpa using hl.isList) (VRs.ints.mp hvs) (PostB.same S ⟨_, VR_bool.mpr rfl, h⟩)

theorem VRs.strs {h : Heap} : ∀ {ns : List PySem.Str} {vs : List Value}, VRs h (ns.map .str) vs → StrsAre vs ns
  | [], vs, e => by have e := VRs_nil.mp e; subst e; exact .nil
  | n :: ns, vs, e => by
    obtain ⟨v, vs', rfl, e2, e3⟩ := VRs_cons.mp e
    obtain ⟨t, rfl⟩ := VR_str.mp e2
    exact .cons _ _ (VRs.strs e3)
theorem lf_inS {xs : List PySem.Str} {x : PySem.Str} (h : Q (.bool (xs.any (· == x))) σ) : Leaf P d (op2 (compareOp .In)) [.str x, .tup (xs.map .str)] σ (asV Q) := by
  intro bx _ s us S hv
  obtain ⟨u, v, rfl, e1, e2⟩ := args2 hv
  obtain ⟨t, rfl⟩ := VR_str.mp e1
  obtain ⟨a, items, rfl, ht, hvs⟩ := VR_tup.mp e2
  exact in_tuple_strs ht (VRs.strs hvs) (PostB.same S ⟨_, VR_bool.mpr rfl, h⟩)
theorem lf_ninS {xs : List PySem.Str} {x : PySem.Str} (h : Q (.bool (!xs.any (· == x))) σ) : Leaf P d (op2 (compareOp .NotIn)) [.str x, .tup (xs.map .str)] σ (asV Q) := by
  intro bx _ s us S hv
  obtain ⟨u, v, rfl, e1, e2⟩ := args2 hv
  obtain ⟨t, rfl⟩ := VR_str.mp e1
  obtain ⟨a, items, rfl, ht, hvs⟩ := VR_tup.mp e2
  exact notin_tuple_strs ht (VRs.strs hvs) (PostB.same S ⟨_, VR_bool.mpr rfl, h⟩)

open Classical in
noncomputable def hitB {h : Heap} (P : Pg) (k : List Int) (v : Value) : Bool := decide (∃ b, v = .ref b ∧ (tk P).is h k b)
theorem hit_eq {h : Heap} {x k : List Int} {b : Addr} (hb : (tk P).is h x b) : hitB (h := h) P k (.ref b) = (x == k) := by
  unfold hitB
  by_cases q : x = k
  · subst q
    rw [@decide_eq_true _ (_) ⟨b, rfl, hb⟩]; simp
  · have : ¬ ∃ b', Value.ref b = .ref b' ∧ (tk P).is h k b' := by
      rintro ⟨b', e, hb'⟩; cases e
      exact q ((tk P).inj hb hb')
    rw [@decide_eq_false _ (_) this]
    exact (beq_eq_false_iff_ne.mpr q).symm
theorem any_keys {h : Heap} {k : List Int} : ∀ {ks : List (List Int)} {vs : List Value}, VRs h (ks.map keyT) vs → vs.any (hitB (h := h) P k) = ks.any (· == k)
  | [], vs, e => by have e := VRs_nil.mp e; subst e; rfl
  | x :: ks, vs, e => by
    obtain ⟨v, vs', rfl, e2, e3⟩ := VRs_cons.mp e
    obtain ⟨b, rfl, hb⟩ := (key_is (P := P)).mp e2
    rw [List.any_cons, List.any_cons, any_keys e3]
    rw [hit_eq hb]
theorem lf_ninK {a : Addr} {ks : List (List Int)} {k : List Int} (ha : σ a = some (.list (ks.map keyT))) (h : Q (.bool (!ks.any (· == k))) σ) : Leaf P d (op2 (compareOp .NotIn)) [keyT k, .ref a] σ (asV Q) := by
  intro bx _ s us S hv
  obtain ⟨u, v, rfl, e1, e2⟩ := args2 hv
  obtain ⟨b, rfl, hk⟩ := (key_is (P := P)).mp e1; have e2 := VR_ref.mp e2; subst e2
  obtain ⟨items, hl, hvs⟩ := S.rep a _ ha
  refine SeqAt.notIn_listAt (hitB (h := s.heap) P k) hl.isList (fun y hy prog w E Q' hq => ?_) (PostB.same S ⟨_, VR_bool.mpr (by rw [← Array.any_toList, any_keys hvs]), h⟩)
  obtain ⟨i, hi⟩ := List.getElem?_of_mem (by simpa using hy : y ∈ items.toList)
  obtain ⟨x, hx, hxy⟩ := hvs.getV hi
  rw [List.getElem?_map] at hx
  obtain ⟨k', _, rfl⟩ := Option.map_eq_some_iff.mp hx
  obtain ⟨b', rfl, hk'⟩ := (key_is (P := P)).mp hxy
  have hu := bx.units
  have conv : ∀ {ks : List Int} {a : Addr}, (tk P).is s.heap ks a → IsTupleKey (intKind prog w) s.heap ks a := fun {ks a} ⟨o, items, n, ho, hc, hd, hi⟩ => ⟨o, items, n, ho, hc, hd, (items_are (P := ⟨prog, w, P.K, P.sc, P.xs⟩) (h := s.heap)).mp ((items_are (P := P)).mpr hi)⟩
  refine wpAny_eqBool_tuple (knd := intKind prog w) (by show bx.A.units + 1 < 9900; omega) (conv hk') (conv hk) ?_
  rw [hit_eq hk'] at hq
  have e : (k' == k) = decide (k' = k) := by
    by_cases q : k' = k
    · subst q; simp
    · simp [q]
  rw [← e]; exact hq

-- pop, extend
theorem lf_pop {a : Addr} {xs : List V} {v : V} (ha : σ a = some (.list (xs ++ [v]))) (hl : xs.length ≤ 1000000) (h : Q v (upd σ a (.list xs))) : Leaf P d (callL (.builtin "list.pop")) [.ref a] σ (asV Q) := by
  intro bx _ s us S hv
  obtain ⟨u, rfl, e1⟩ := args1 hv
  have e1 := VR_ref.mp e1; subst e1
  obtain ⟨items, ⟨n, ho⟩, hvs⟩ := S.rep a _ ha
  have e := hvs.length
  simp at e
  obtain ⟨u, hu, hr⟩ := hvs.get (i := xs.length) (x := v) (by simp)
  have hT : s.TypeIs (.ref a) "list" := ⟨_, ho, rfl⟩
  refine call_meets F.slot_list_pop hT F.entry_list_pop (F.args_list_pop_1 _) (MeetsSeq.list_pop_last a items n u (by rw [e]; simpa using hu) (by rw [e, sizeLine_eq]; omega)) ⟨ho, ?_⟩
  obtain ⟨n', e'⟩ : ∃ n', Obj.mapSeq (fun xs => xs.eraseIdxIfInBounds (items.size - 1)) { cls := .type "list", data := .seq items n } = { cls := .type "list", data := .seq (items.eraseIdxIfInBounds (items.size - 1)) n' } := ⟨_, rfl⟩
  have hl' : (s.heap.update a (Obj.mapSeq fun xs => xs.eraseIdxIfInBounds (items.size - 1))).PlainList a (items.eraseIdxIfInBounds (items.size - 1)) := ⟨n', by rw [Heap.get?_update_self _ ho (by rw [e']; rfl), e']⟩
  have hlist : (items.eraseIdxIfInBounds (items.size - 1)).toList = items.toList.take xs.length := by
    rw [e]
    have : xs.length + 1 - 1 = xs.length := by omega
    rw [this, Array.eraseIdxIfInBounds]
    rw [dif_pos (by omega), Array.toList_eraseIdx]
    rw [List.eraseIdx_eq_take_drop_succ, List.drop_eq_nil_of_le (by simp; omega)]
    simp
  obtain ⟨S', T⟩ := S.set (o' := .list xs) ha (fun b x q z => Heap.SameBut.extBut (Heap.SameBut.update ..) b x q z) fun T => ⟨_, hl', by rw [hlist]; have := (hvs.mono T).take xs.length; simpa using this⟩
  exact ⟨_, _, _, rfl, S', T, v, hr.mono T, h⟩
theorem lf_extend {a b : Addr} {xs ys : List V} (ha : σ a = some (.list xs)) (hb : σ b = some (.list ys)) (hl : xs.length ≤ 1000000) (hl2 : ys.length ≤ 1000000) (h : Q .none (upd σ a (.list (xs ++ ys)))) : Leaf P d (callL (.builtin "list.extend")) [.ref a, .ref b] σ (asV Q) := by
  intro bx _ s us S hv
  obtain ⟨u, w, rfl, e1, e2⟩ := args2 hv
  have e1 := VR_ref.mp e1; subst e1
  have e2 := VR_ref.mp e2; subst e2
  obtain ⟨items, ⟨n, ho⟩, hvs⟩ := S.rep a _ ha
  obtain ⟨items2, ⟨n2, ho2⟩, hvs2⟩ := S.rep b _ hb
  have e := hvs.length
  have e2 := hvs2.length
  simp at e e2
  have hT : s.TypeIs (.ref a) "list" := ⟨_, ho, rfl⟩
  refine call_meets F.slot_list_extend hT F.entry_list_extend (F.args_list_extend_2 _ _) (AutoSeq1.list_extend_list_list_0 a items n b items2 n2 (by
    have : Builtin.List.listTooLong (items.size + items2.size) = false := by unfold Builtin.List.listTooLong; rw [e, e2, sizeLine_eq]; simp; omega
    rw [this]; simp) (by rw [e, sizeLine_eq]; omega) (by rw [e, e2, sizeLine_eq]; omega)) ⟨ho, ho2, ?_⟩
  obtain ⟨n', e'⟩ : ∃ n', Obj.mapSeq (fun x => x ++ items2) { cls := .type "list", data := .seq items n } = { cls := .type "list", data := .seq (items ++ items2) n' } := ⟨_, rfl⟩
  have hl' : (s.heap.update a (Obj.mapSeq fun x => x ++ items2)).PlainList a (items ++ items2) := ⟨n', by rw [Heap.get?_update_self _ ho (by rw [e']; rfl), e']⟩
  obtain ⟨S', T⟩ := S.set (o' := .list (xs ++ ys)) ha (fun b x q z => Heap.SameBut.extBut (Heap.SameBut.update ..) b x q z) fun T => ⟨_, hl', by simpa using (hvs.mono T).append (hvs2.mono T)⟩
  exact ⟨_, _, _, rfl, S', T, _, VR_none.mpr rfl, h⟩
end

-- part L14
section
variable {P : Pg} {sc : Scope} {c : Cx P sc} {m : Loc} {d : Nat} {σ : Store} {Q : V → Store → Prop} {R : Store → Prop} {B : Bool → Store → Prop}

-- str
theorem lf_str_int {i : Int} (h0 : 0 ≤ i) (h1 : i < 4611686018427387904) (h : Q (.str (toString i)) σ) : Leaf P d (callL (.type "str")) [.int i] σ (asV Q) := by
  intro bx _ s us S hv
  obtain ⟨u, rfl, e1⟩ := args1 hv
  obtain ⟨t, rfl⟩ := VR_int.mp e1
  exact str_of_int_fit (N := 4611686018427387904) (by rw [if_neg (by omega)]; omega) (by omega) fun _ => PostB.tok _ S ⟨_, VR_str.mpr ⟨_, rfl⟩, h⟩
theorem lf_add_str {x y : PySem.Str} (h : Q (.str (x ++ y)) σ) (hl : x.length + y.length ≤ sizeLine) : Leaf P d (op2 (binaryOp .Add)) [.str x, .str y] σ (asV Q) := by
  intro bx _ s us S hv
  obtain ⟨u, v, rfl, e1, e2⟩ := args2 hv
  obtain ⟨t, rfl⟩ := VR_str.mp e1; obtain ⟨t', rfl⟩ := VR_str.mp e2
  exact PyProof.Rows.add_str (fun t'' tk => PostB.tok tk S ⟨_, VR_str.mpr ⟨_, rfl⟩, h⟩) hl

-- sorted, list ==
theorem ints_of {h : Heap} {ns : List Int} {vs : List Value} (e : IntsAre vs ns) : VRs h (ns.map .int) vs := VRs.ints.mpr e
theorem lf_sortedL {a : Addr} {ns : List Int} (ha : σ a = some (.list (ns.map .int))) (hl : ns.length < 64) (h : ∀ ns' : List Int, ns'.Perm ns → ns'.Pairwise (· ≤ ·) → ∀ b, σ b = none → Q (.ref b) (upd σ b (.list (ns'.map .int)))) :
    Leaf P d (callL (.builtin "sorted")) [.ref a] σ (asV Q) := by
  intro bx _ s us S hv
  obtain ⟨u, rfl, e1⟩ := args1 hv
  have e1 := VR_ref.mp e1; subst e1
  obtain ⟨items, hil, hvs⟩ := S.rep a _ ha
  have e := hvs.length
  simp at e
  refine sorted_ints (vs := items.toList) (by simpa using hil.isList) (VRs.ints.mp hvs) (by simp [e, hl]) fun out ns' q1 q2 q3 => ?_
  have k : ∀ b x, s.heap.get? b = some x → (sortedAll s.heap items.toList out).get? b = some x := fun b x z => sortedAll_old z
  obtain ⟨ne, he⟩ := sortedAll_at s.heap items.toList out
  have hn : s.heap.get? (s.heap.objs.size + 1) = none := Heap.get?_none_of_le (Nat.le_succ _)
  exact ⟨_, s.toks, _, rfl, S.add (o' := .list (ns'.map .int)) hn k ⟨out, ⟨ne, he⟩, ints_of q1⟩, Tk.of_keep k, _, VR_ref.mpr rfl, h ns' q2 q3 _ (S.none_of_new hn)⟩
theorem itemsOf_ints {kvs : List (Int × Value)} {acc : Array Value} (h : ItemsOf (fun i v => ∃ k x, kvs[i]? = some (k, x) ∧ (intKind P.prog P.w).is k v = true) acc kvs.length) : IntsAre acc.toList (kvs.map (·.1)) := by
  obtain ⟨h1, h2⟩ := h
  have h2 : ∀ j v, acc.toList[j]? = some v → ∃ k x, kvs[j]? = some (k, x) ∧ (intKind P.prog P.w).is k v = true := fun j v e => h2 j v (by rw [← Array.getElem?_toList]; exact e)
  have h1 : acc.toList.length = kvs.length := by rw [Array.length_toList]; exact h1
  revert h1 h2
  generalize acc.toList = vs
  clear h2 h1 acc
  induction kvs generalizing vs with
  | nil => intro h2 h1; have := List.length_eq_zero_iff.mp h1; subst this; exact .nil
  | cons p r ih =>
    intro h2 h1
    cases vs with
    | nil => simp at h1
    | cons v vs =>
      obtain ⟨k, x, e, hk⟩ := h2 0 v rfl
      simp at e
      obtain ⟨t, rfl⟩ := Value.isInt_shape hk
      subst e
      exact .cons _ _ (ih vs (fun j v e => by simpa using h2 (j + 1) v (by simpa using e)) (by simpa using h1))
theorem lf_listI {a : Addr} {l : List (Int × V)} {ep : Nat} (ha : σ a = some (.dict (mapI l) ep)) (hl : l.length ≤ 1000000) (h : ∀ b, σ b = none → Q (.ref b) (upd σ b (.list ((l.map (·.1)).map .int)))) :
    Leaf P d (callL (.type "list")) [.ref a] σ (asV Q) := by
  intro bx _ s us S hv
  obtain ⟨u, rfl, e1⟩ := args1 hv
  have e1 := VR_ref.mp e1; subst e1
  obtain ⟨vs, hd, hp, hs⟩ := dI_to (P := P) (S.rep a _ ha)
  obtain ⟨ep, hat⟩ := hd.dictAt
  refine kdl_call (kdl_dict (knd := intKind P.prog P.w) (kvs := vs) (ep := ep) hs) bx.hh hat (by rw [hp.length, sizeLine_eq]; omega) fun h' tk acc' c' hk hD hacc => ?_
  have hn : s.heap.get? s.heap.objs.size = none := Heap.get?_none_of_le (Nat.le_refl _)
  exact ⟨_, tk, _, rfl, S.add (o' := .list ((l.map (·.1)).map .int)) hn hk ⟨acc', ⟨c', hD⟩, ints_of (by rw [← hp.keys]; exact itemsOf_ints hacc)⟩, Tk.of_keep hk, _, VR_ref.mpr rfl, h _ (S.none_of_new hn)⟩
theorem lf_sortedI {a : Addr} {l : List (Int × V)} {ep : Nat} (ha : σ a = some (.dict (mapI l) ep)) (hl : l.length < 64) (h : ∀ ns' : List Int, ns'.Perm (l.map (·.1)) → ns'.Pairwise (· ≤ ·) → ∀ b, σ b = none → Q (.ref b) (upd σ b (.list (ns'.map .int)))) :
    Leaf P d (callL (.builtin "sorted")) [.ref a] σ (asV Q) := by
  intro bx _ s us S hv
  obtain ⟨u, rfl, e1⟩ := args1 hv
  have e1 := VR_ref.mp e1; subst e1
  obtain ⟨vs, hd, hp, hs⟩ := dI_to (P := P) (S.rep a _ ha)
  obtain ⟨ep, hat⟩ := hd.dictAt
  refine call_function_entry kind_sorted plain_sorted entry_sorted (args_sorted1 _) ?_
  unfold Builtin.«sorted»
  refine wpAny_bind (m := checkCount "sorted" 1 1 _) (wpAny_pure ?_)
  refine wpAny_bind (kdu_collect (A := bx.A.in1) (kdl_dict (knd := intKind P.prog P.w) (kvs := vs) (ep := ep) hs) bx.hh hat (by rw [hp.length, sizeLine_eq]; omega) fun h' tk acc hk hacc => ?_)
  have hi := itemsOf_ints hacc
  rw [hp.keys] at hi
  have hlen : acc.toList.length = l.length := by rw [Array.length_toList, hacc.1, hp.length]
  refine wpAny_bind (wpAny_newList ?_ (by rw [hlen, sizeLine_eq]; omega))
  have hD : (h'.push (seqObj "list" acc.toList.toArray 0)).get? h'.objs.size = some (seqObj "list" acc.toList.toArray 0) := Heap.get?_push_size _ rfl
  refine wpAny_bind (wpAny_holding (wpAny_call_entry slot_list_sort ⟨_, hD, rfl⟩ entry_list_sort (list_sort_tree hD hi (by omega) fun out ns' q1 q2 q3 => ⟨_, rfl, ?_⟩) (args_list_sort _)))
  refine wpAny_pure ⟨_, rfl, ?_⟩
  have k : ∀ b x, s.heap.get? b = some x → (sortedHeap (h'.push (seqObj "list" acc.toList.toArray 0)) h'.objs.size acc.toList out).get? b = some x := fun b x z => by
    have hlt := Heap.lt_size (hk b x z)
    rw [sortedHeap_old (Nat.ne_of_lt hlt) (by rw [size_push']; exact Nat.lt_succ_of_lt hlt)]
    exact Heap.get?_push_of_some _ (hk b x z)
  obtain ⟨ne, he⟩ := sortedHeap_at (vs := acc.toList) (out := out) hD
  have hn : s.heap.get? h'.objs.size = none := by
    cases q : s.heap.get? h'.objs.size with
    | none => rfl
    | some z => have := Heap.lt_size (hk _ _ q); exact absurd this (Nat.lt_irrefl _)
  exact ⟨_, tk, _, rfl, S.add (o' := .list (ns'.map .int)) hn k ⟨out, ⟨ne, he⟩, ints_of q1⟩, Tk.of_keep k, _, VR_ref.mpr rfl, h ns' q2 q3 _ (S.none_of_new hn)⟩
theorem units64 (bx : Bx P) (h : 1 ≤ bx.d) : bx.A.units + 64 < cLine := by
  have := bx.units
  show bx.A.units + 64 < 9900
  omega
theorem lf_eqL {a b : Addr} {ns ms : List Int} (ha : σ a = some (.list (ns.map .int))) (hb : σ b = some (.list (ms.map .int))) (h : Q (.bool (decide (ns = ms))) σ) : Leaf P d (op2 (compareOp .Eq)) [.ref a, .ref b] σ (asV Q) := by
  intro bx _ s us S hv
  obtain ⟨u, v, rfl, e1, e2⟩ := args2 hv
  have e1 := VR_ref.mp e1; subst e1
  have e2 := VR_ref.mp e2; subst e2
  obtain ⟨items, hl, hvs⟩ := S.rep a _ ha
  obtain ⟨items2, hl2, hvs2⟩ := S.rep b _ hb
  have := bx.units
  exact ke_eq_ints (xs := items.toList) (ys := items2.toList) (by simpa using hl.isList) (by simpa using hl2.isList) (VRs.ints.mp hvs) (VRs.ints.mp hvs2) (by show bx.A.units + 64 < 9900; omega) (PostB.same S ⟨_, VR_bool.mpr rfl, h⟩)
theorem lf_neL {a b : Addr} {ns ms : List Int} (ha : σ a = some (.list (ns.map .int))) (hb : σ b = some (.list (ms.map .int))) (h : Q (.bool (!decide (ns = ms))) σ) : Leaf P d (op2 (compareOp .NotEq)) [.ref a, .ref b] σ (asV Q) := by
  intro bx _ s us S hv
  obtain ⟨u, v, rfl, e1, e2⟩ := args2 hv
  have e1 := VR_ref.mp e1; subst e1
  have e2 := VR_ref.mp e2; subst e2
  obtain ⟨items, hl, hvs⟩ := S.rep a _ ha
  obtain ⟨items2, hl2, hvs2⟩ := S.rep b _ hb
  have := bx.units
  exact ke_ne_ints (xs := items.toList) (ys := items2.toList) (by simpa using hl.isList) (by simpa using hl2.isList) (VRs.ints.mp hvs) (VRs.ints.mp hvs2) (by show bx.A.units + 64 < 9900; omega) (PostB.same S ⟨_, VR_bool.mpr rfl, h⟩)

-- xs[:n]
theorem e_upto {value : Expr} {n : Nat} {k : Nat} {p p2 pos : Pos} (h : WE c value m σ fun v σ₁ => ∃ a xs, v = .ref a ∧ σ₁ a = some (.list xs) ∧ xs.length ≤ 1000000 ∧ ∀ b, σ₁ b = none → Q (.ref b) (upd σ₁ b (.list (xs.take n)))) :
    WE c (.Subscript value (.Slice none (some (.Constant (.int n) k p2)) none p) pos) m σ Q := by
  intro s S
  refine Subscript_ (thenE (h s S) fun u h1 t1 σ1 S1 T1 ⟨v, hv, a, xs, e, ha, hl, q⟩ => ?_)
  subst e
  have hv := VR_ref.mp hv; subst hv
  obtain ⟨items, hil, hvs⟩ := S1.sto.rep a _ ha
  have e := hvs.length
  simp at e
  refine wpAny_Slice ?_
  rw [evalPart_none]
  refine wpAny_pure ?_
  show wpAny _ _ (eval (.Constant (.int n) k p2) c.env) _ _ _
  refine wpAny_Constant_int ?_
  refine wpAny_pure ?_
  refine tail_any (hil.isList.push _).typeIs slot_list_getitem.lookup (wpAny_getItem_list_slice (hil.isList.push _) (Heap.IsSliceOf.new ..) .none (.int _ _) .none (by simp) ?_ (by rw [sizeLine_eq]; omega)) rfl
  have hpick : (slicePick items none (some (n : Int)) none).toList = items.toList.take n := by
    rw [slicePick_plain]
    simp only [Option.elim, clipAt_nat]
    simp
  have hn : h1.get? h1.objs.size = none := Heap.get?_none_of_le (Nat.le_refl _)
  have hn2 : h1.get? (h1.objs.size + 1) = none := Heap.get?_none_of_le (Nat.le_succ _)
  generalize hso : ({ cls := .type "slice", data := .fields #[.none, .int n t1, .none] } : Obj) = so
  have k1 : ∀ b x, h1.get? b = some x → (h1.push so).get? b = some x := fun b x e => Heap.get?_push_of_some _ e
  have S2 := S1.grow k1
  have k2 : Tk (h1.push so) ((h1.push so).push { cls := .type "list", data := .seq (slicePick items none (some (n : Int)) none) }) := Tk.of_keep fun b x e => Heap.get?_push_of_some _ e
  obtain ⟨nn, S3⟩ := S2.add (o := { cls := .type "list", data := .seq (slicePick items none (some (n : Int)) none) }) (a := .list (xs.take n)) rfl ⟨_, ⟨_, Heap.get?_push_size _ rfl⟩, by rw [hpick]; exact ((hvs.mono (Tk.of_keep k1)).mono k2).take n⟩
  subst hso
  exact ⟨_, _, _, rfl, S3, T1.trans ((Tk.of_keep k1).trans k2), _, VR_ref.mpr rfl, q _ nn⟩
end

-- part L15
section
variable {P : Pg} {A : Around} {E : Value → Shared → Prop} {s : Shared} {d : Nat} {σ : Store} {Q : V → Store → Prop}

theorem same_pairsH {nm : String} {a b : Addr} {xs ys : List (List Int × Addr × Value)} {R : Bool → Shared → Prop} (hr : (tk P).room A) (ha : (a == sysModules) = false) (hb : (b == sysModules) = false)
    (da : s.heap.DictOfH (tk P) a xs) (db : s.heap.DictOfH (tk P) b ys) (hlen : xs.length = ys.length)
    (hits : ∀ x ∈ xs, ∃ (j : Nat) (q : Addr × Value), ys[j]? = some (x.1, q) ∧ ∀ Q : Bool → Shared → Prop, Q true s → wpAny (model P.prog P.w) A (eqBool x.2.2 q.2) Q E s) (h : R true s) :
    wpAny (model P.prog P.w) A (Builtin.Dict.samePairs nm a b) R E s := by
  obtain ⟨oa, es, ep, hoa, _, hda, hea, hia, _⟩ := da
  obtain ⟨ob, es', ep', hob, _, hdb, heb, hib, hnb⟩ := db
  have hla : xs.length = es.size := by rw [← Array.length_toList, hea, List.length_map]
  have hlb : ys.length = es'.size := by rw [← Array.length_toList, heb, List.length_map]
  unfold Builtin.Dict.samePairs Builtin.Dict.showsAll
  rw [if_neg (show ¬ (a == sysModules) = true by rw [ha]; exact Bool.false_ne_true), if_neg (show ¬ (b == sysModules) = true by rw [hb]; exact Bool.false_ne_true)]
  refine wpAny_bind (wpAny_pure (wpAny_bind (wpAny_pure ?_)))
  refine wpAny_bind (wpAny_dictEntries hoa hda ?_)
  dsimp only
  refine wpAny_bind (wpAny_dictEntries hob hdb ?_)
  rw [if_neg (by rw [← hla, ← hlb, hlen]; simp)]
  refine wpAny_bind (wpAny_dictEpoch hoa hda ?_)
  refine wpAny_bind ?_
  rw [Std.Legacy.Range.forIn_eq_forIn_range']
  simp only [Std.Legacy.Range.size, Nat.sub_zero, Nat.add_sub_cancel, Nat.div_one]
  refine wpAny_forIn_list _ (fun rest q s' => s' = s ∧ q = (none, ()) ∧ ∃ i, rest = List.range' i (es.size - i) ∧ i ≤ es.size) _ ?_ ?_ _ _ ⟨rfl, rfl, 0, by simp, Nat.zero_le _⟩
  · rintro x rest q s' ⟨rfl, rfl, i, hrr, hi⟩
    have hlt : i < es.size := by
      rcases Nat.lt_or_ge i es.size with h | h
      · exact h
      · rw [Nat.sub_eq_zero_of_le h] at hrr; simp at hrr
    obtain ⟨rfl, hrest⟩ : x = i ∧ rest = List.range' (i + 1) (es.size - (i + 1)) := by
      have e : es.size - i = (es.size - (i + 1)) + 1 := by omega
      rw [e, List.range'_succ] at hrr
      injection hrr with h1 h2
      exact ⟨h1, h2⟩
    refine wpAny_bind (wpAny_dictEntries hoa hda ?_)
    rw [Array.getElem?_eq_getElem hlt]
    have hlt' : x < xs.length := by rw [hla]; exact hlt
    have hen : es[x] = entryOfKey (tk P) xs[x] := by
      have e1 : es.toList[x]? = some es[x] := by rw [Array.getElem?_toList]; exact Array.getElem?_eq_getElem hlt
      rw [hea, List.getElem?_map, List.getElem?_eq_getElem hlt'] at e1
      exact (Option.some.inj e1).symm
    have hmem : xs[x] ∈ xs := List.getElem_mem hlt'
    obtain ⟨⟨k, a', v⟩, hz⟩ : ∃ z, xs[x] = z := ⟨_, rfl⟩
    rw [hz] at hmem hen
    obtain ⟨j, q, hj, heq⟩ := hits (k, a', v) hmem
    have hki : (tk P).is s'.heap k a' := hia _ hmem
    rw [hen]
    refine wpAny_bind (wpAny_holding ?_)
    show wpAny _ _ (dictFind b (.ref a') ((tk P).hash k) >>= _) _ _ _
    refine wpAny_bind (wpAny_dictFind_heap hr hki hob hdb heb hib hnb (fun hno => absurd hj (hno j q)) fun j' p' hj' => ?_)
    have hjj : es'[j']? = some (entryOfKey (tk P) (k, p')) := by
      rw [← Array.getElem?_toList, heb, List.getElem?_map, hj']; rfl
    have hpq : p' = q := by
      have e : j = j' := by
        have h1 : (ys.map (·.1))[j]? = some k := by rw [List.getElem?_map, hj]; rfl
        have h2 : (ys.map (·.1))[j']? = some k := by rw [List.getElem?_map, hj']; rfl
        exact (List.getElem?_inj (by rw [List.length_map]; exact (List.getElem?_eq_some_iff.mp hj).1) hnb).mp (h1.trans h2.symm)
      subst e
      rw [hj] at hj'
      exact (congrArg Prod.snd (Option.some.inj hj')).symm
    subst hpq
    refine wpAny_bind (wpAny_dictEntries hob hdb ?_)
    rw [hjj]
    refine wpAny_holding (heq _ ?_)
    show wpAny _ _ (if (!true) = true then _ else _) _ _ _
    rw [if_neg (by decide)]
    refine wpAny_bind (wpAny_dictEpoch hoa hda ?_)
    rw [if_neg (by simp)]
    exact wpAny_pure ⟨rfl, rfl, x + 1, hrest, hlt⟩
  · rintro q s' ⟨rfl, rfl, i, hrr, hi⟩
    exact wpAny_pure h
theorem XP.mem {h : Heap} : ∀ {l : List (List Int × V)} {xs : List (List Int × Addr × Value)} {x : List Int × Addr × Value}, XP h l xs → x ∈ xs → ∃ v, (x.1, v) ∈ l ∧ VR h v x.2.2
  | [], xs, x, e, hx => by cases e; cases hx
  | (k, v) :: r, xs, x, ⟨a, u, xs', e, e2, e3⟩, hx => by
    subst e
    rcases List.mem_cons.mp hx with rfl | hx
    · exact ⟨v, .head _, e2⟩
    · obtain ⟨v', h1, h2⟩ := XP.mem e3 hx
      exact ⟨v', .tail _ h1, h2⟩
theorem XP.idx {h : Heap} {k : List Int} {v : V} : ∀ {l : List (List Int × V)} {xs : List (List Int × Addr × Value)}, XP h l xs → dget l k = some v → ∃ (j : Nat) (q : Addr × Value), xs[j]? = some (k, q) ∧ VR h v q.2
  | [], xs, e, hd => by simp [dget] at hd
  | (k0, v0) :: r, xs, ⟨a, u, xs', e, e2, e3⟩, hd => by
    subst e
    by_cases q : k0 = k
    · subst q
      have : v0 = v := by simpa [dget] using hd
      subst this
      exact ⟨0, (a, u), rfl, e2⟩
    · have : dget r k = some v := by simpa [dget, List.find?_cons, q] using hd
      obtain ⟨j, p, h1, h2⟩ := XP.idx e3 this
      exact ⟨j + 1, p, by simpa using h1, h2⟩
theorem lf_eqT {a b : Addr} {la lb : List (List Int × V)} {ea eb : Nat} (ha : σ a = some (.dict (mapT la) ea)) (hb : σ b = some (.dict (mapT lb) eb)) (hlen : la.length = lb.length)
    (hv : ∀ k v, (k, v) ∈ la → ∃ (x y : Addr) (ns : List Int), v = .ref x ∧ dget lb k = some (.ref y) ∧ σ x = some (.list (ns.map .int)) ∧ σ y = some (.list (ns.map .int))) (h : Q (.bool true) σ) : Leaf P d (op2 (compareOp .Eq)) [.ref a, .ref b] σ (asV Q) := by
  intro bx _ s us S hus
  obtain ⟨u, v, rfl, e1, e2⟩ := args2 hus
  have e1 := VR_ref.mp e1; subst e1
  have e2 := VR_ref.mp e2; subst e2
  obtain ⟨xs, da, pa, sa⟩ := dT_to (P := P) (S.rep a _ ha)
  obtain ⟨ys, db, pb, sb⟩ := dT_to (P := P) (S.rep b _ hb)
  have hu := bx.units
  refine wpAny_richCompare_same_room (op := .Eq) da.typeIs db.typeIs PySem.F.slot_dict_eq (wpAny_call_entry PySem.F.slot_dict_eq da.typeIs PySem.F.entry_dict_eq ?_ (PySem.F.args_dict_eq_2 _ _)) (by show bx.A.units < 9900; omega)
  show wpAny _ _ (Builtin.Dict.dictSlotArgs "__eq__" ⟨[.ref a, .ref b], []⟩ >>= _) _ _ s
  refine wpAny_bind ?_
  unfold Builtin.Dict.dictSlotArgs
  refine wpAny_bind (wpAny_notOrdered_dict da.typeIs ?_)
  show wpAny _ _ (pure (Value.ref a, Value.ref b)) _ _ s
  refine wpAny_pure ?_
  refine wpAny_bind (wpAny_isInstance (T := "dict") db.typeIs PySem.F.sub_dict_dict ?_)
  simp only [Bool.not_true, Bool.false_eq_true, if_false]
  refine wpAny_bind (wpAny_pure (wpAny_bind (wpAny_pure ?_)))
  refine wpAny_bind (same_pairsH (unitsOk bx) sa sb da db (by rw [pa.length, pb.length, hlen]) (fun x hx => ?_) ?_)
  · obtain ⟨v, hm, hvr⟩ := pa.mem hx
    obtain ⟨xa, ya, ns, rfl, hd, hx1, hy1⟩ := hv _ _ hm
    obtain ⟨j, q, hj, hq⟩ := pb.idx hd
    have hvr := VR_ref.mp hvr
    have hq := VR_ref.mp hq
    obtain ⟨i1, l1, v1⟩ := S.rep xa _ hx1
    obtain ⟨i2, l2, v2⟩ := S.rep ya _ hy1
    refine ⟨j, q, hj, fun Q' h' => ?_⟩
    rw [hvr, hq]
    have kk := keq_ints (A := bx.A) (s := s) (vs := i1.toList) (us := i2.toList) (by simpa using l1.isList) (VRs.ints.mp v1) (by simpa using l2.isList) (VRs.ints.mp v2) (by show bx.A.units + 1 + 64 < 9900; omega)
    exact kk _ _ _ _ (by simpa using h')
  · refine wpAny_pure ⟨_, rfl, fun x => (nomatch x), ?_⟩
    exact PostB.same S ⟨_, VR_bool.mpr rfl, h⟩
end

-- part L16
section
variable {P : Pg} {sc scope : Scope} {c : Cx P sc} {m : Loc} {σ : Store} {Q : V → Store → Prop} {F : Fl → Loc → Store → Prop}

-- dict comprehensions
noncomputable def dictAct (kx vx : Expr) (acc : Value) (env : Env) : Sem Unit := do
  let kv ← eval kx env
  let vv ← holding [kv] (eval vx env)
  match acc with
  | .ref d => do
    standAt { kx.pos with endLine := vx.pos.endLine, endCol := vx.pos.endCol }
    holding [kv, vv] (dictSet d kv vv)
  | _ => unsupported "internal:dictcomp"
theorem turn_dict {kx vx target iter : Expr} {ifs : List Expr} {pos : Pos} : TurnEq (.DictComp kx vx [⟨target, iter, ifs, 0⟩] scope pos) 0 target iter ifs (dictAct kx vx) := by
  intro it D env
  rw [compTurn_dict]
  refine bind_fun fun _ => bind_fun fun r => ?_
  cases r with
  | none => rfl
  | some v =>
    refine bind_fun fun _ => bind_fun fun _ => bind_fun fun ok => ?_
    cases ok <;> rfl
theorem act_dict {D : Addr} {kx vx : Expr} {acc : O} {N : O → Store → Prop} (h : ∀ c' : Cx P sc, c'.d = c.d → WE c' kx m σ fun k σ1 => ∀ c' : Cx P sc, c'.d = c.d → WE c' vx m σ1 fun v σ2 =>
      Leaf P c.d (op2 (dictSet D)) [k, v] (upd σ2 D acc) fun _ _ σ' => ∃ acc', σ' = upd (upd σ2 D acc) D acc' ∧ N acc' σ2) : Act c (dictAct kx vx) D acc m σ N := by
  intro s S hD hrep
  obtain ⟨xD, hxD, hxt⟩ := hrep.notTup
  obtain ⟨c2, hd2, hA2, hE2, hn2, Sc2, back2⟩ := S.freeze hD.hb hxD hD.s hD.L hD.C
  have we := h c2 hd2 s Sc2
  rw [hA2, hE2] at we
  refine wpAny_bind (thenE we fun u h1 t1 σ1 S1 T1 ⟨k, hk, n⟩ => ?_)
  have we2 := n c2 hd2 { s with heap := h1, toks := t1 } S1
  rw [hA2, hE2] at we2
  refine wpAny_bind (wpAny_holding (thenE we2 fun u2 h2 t2 σ2 S2 T2 ⟨v, hv, lf⟩ => ?_))
  obtain ⟨S2', hD1, hσD⟩ := back2 _ _ _ S2
  have r2 : Rep P.w h2 D acc := hrep.mono (T1.trans T2) fun z hz => by rw [hxD] at hz; cases hz; exact hD1
  have hD' : Apart c σ2 D := ⟨hD.hb, hσD, hD.L, hD.C⟩
  have S3 := S2'.join hD' r2
  refine wpAny_bind (wpAny_standAt (wpAny_holding (thenE (lf.lift (s := { s with heap := h2, toks := t2 }) S3 (VRs_cons.mpr ⟨_, _, rfl, hk.mono T2, VRs.one hv⟩)) fun r h3 t3 σ3 S4 T3 ⟨acc', e3, n⟩ => ?_)))
  subst e3
  refine ⟨h3, t3, σ2, acc', rfl, ?_, (T1.trans T2).trans T3, S4.sto.rep D _ (upd_self _ _ _), hσD, n⟩
  have := S4.part (D := D)
  rwa [less_upd hσD] at this
theorem eval_DictComp' (kx vx : Expr) (gens : List Comprehension) (scope : Scope) (pos : Pos) (env : Env) : eval (.DictComp kx vx gens scope pos) env =
    comprehension (.DictComp kx vx gens scope pos) scope env (firstIterPos gens pos) newDict (firstAsync gens) (firstIter gens env) := rfl
theorem new_dict {A : Around} (s : Shared) (R : Value → Shared → Prop) (r : R (.ref s.heap.objs.size) { s with heap := s.heap.push { cls := .type "dict", data := .dict #[] } }) : wpAny (model P.prog P.w) A newDict R noE s := by
  simp only [newDict, newObj]
  exact wpAny_bind (wpAny_alloc (wpAny_pure r))
theorem rep_dict0 (h : Heap) (B : Base P h) : Rep P.w (h.push { cls := .type "dict", data := .dict #[] }) h.objs.size (.dict [] 0) := ⟨_, #[], Heap.get?_push_size _ rfl, ⟨rfl, rfl, rfl⟩, rfl, rfl, B.sys, List.nodup_nil⟩

-- what is asked of a dict comprehension
noncomputable def DComp (c : Cx P sc) (scope : Scope) (x : PySem.Str) (kx vx : Expr) (ifs : List Expr) (m : Loc) (U : O → Store → Prop) (v : V) (σ₁ : Store) : Prop :=
  ∃ C items, Iter P σ₁ v C items ∧ ∃ J : Nat → O → Store → Prop, J 0 (.dict [] 0) σ₁ ∧ (∀ i acc σ, J i acc σ → C σ) ∧
      (∀ i v acc σ, items[i]? = some v → J i acc σ → ∀ c' : Cx P scope, c'.d = c.d → WIf c' ifs (setL (freeL scope m) x v) σ fun ok σ' => if ok then ∀ c' : Cx P scope, c'.d = c.d →
        WE c' kx (setL (freeL scope m) x v) σ' fun k σ'' => ∀ c' : Cx P scope, c'.d = c.d → WE c' vx (setL (freeL scope m) x v) σ'' fun w σ3 => ∀ D, Leaf P c.d (op2 (dictSet D)) [k, w] (upd σ3 D acc) fun _ _ σ' => ∃ acc', σ' = upd (upd σ3 D acc) D acc' ∧ J (i + 1) acc' σ3
        else J (i + 1) acc σ') ∧
      (∀ acc σ, J items.length acc σ → U acc σ)

theorem dcomp_run {kx vx iter : Expr} {x : PySem.Str} {px pos pos2 : Pos} {ifs : List Expr} {use : Option (Value → Sem Unit)} {s : Shared} {Qf : Value → Shared → Prop} {U : O → Store → Prop}
    (h : WE c iter m σ (DComp c scope x kx vx ifs m U)) (S : St c m σ s.heap)
    (fin : ∀ h' tk σ' D C acc (mm : PySem.Str → Option Value), U acc σ' → σ' D = none → h'.Ns C mm → (∀ h4, Heap.SameBut C h' h4 → St c m (upd σ' D acc) h4 ∧ Tk h' h4 ∧ Apart c (upd σ' D acc) C) → Tk s.heap h' →
      compPost (model P.prog P.w) c.A noE use Qf (.ref D) C (.ok .next) { s with heap := h', toks := tk })
    (ok : compOk sc scope = true) (hx : scope.names.lookup x = some .local) (hfold : ∀ v, foldedSetIterable iter c.env v = pure v) :
    wpAny (model P.prog P.w) c.A (comprehension (.DictComp kx vx [⟨.Name x px, iter, ifs, 0⟩] scope pos) scope c.env pos2 newDict false (eval iter c.env) use) Qf noE s := by
  refine compr (act := dictAct kx vx) (oD := { cls := .type "dict", data := .dict #[] }) (acc0 := .dict [] 0) rfl loop_dict (start_dict rfl rfl) turn_dict new_dict rfl rep_dict0 ok hx hfold S U ?_ fin
  refine h.mono fun v σ₁ ⟨C, items, hit, J, j0, jC, turn, jU⟩ => ⟨C, items, hit, J, j0, jC, ?_, jU⟩
  intro i v acc σ' hv hJ c' hd
  have tw := turn i v acc σ' hv hJ c' hd
  match ifs, tw with
  | [], tw => exact fun D c3 hd3 => act_dict fun c4 hd4 => (tw c4 (hd4.trans hd3)).mono fun k σ1 q c5 hd5 => (q c5 (hd5.trans hd3)).mono fun w σ2 q => by rw [hd3]; exact q D
  | [t], tw =>
    refine WT.mono tw fun ok σ'' q => ?_
    cases ok with
    | true => exact fun D c3 hd3 => act_dict fun c4 hd4 => (q c4 (hd4.trans hd3)).mono fun k σ1 q c5 hd5 => (q c5 (hd5.trans hd3)).mono fun w σ2 q => by rw [hd3]; exact q D
    | false => exact q

theorem e_dictcomp {kx vx iter : Expr} {x : PySem.Str} {px pos : Pos} {ifs : List Expr}
    (h : WE c iter m σ (DComp c scope x kx vx ifs m fun acc σ => ∀ a, σ a = none → Q (.ref a) (upd σ a acc)))
    (ok : compOk sc scope = true := by decide +kernel) (hx : scope.names.lookup x = some .local := by kernel_rfl) (hfold : ∀ v, foldedSetIterable iter c.env v = pure v := by intro _; rfl) :
    WE c (.DictComp kx vx [⟨.Name x px, iter, ifs, 0⟩] scope pos) m σ Q := by
  intro s S
  rw [eval_DictComp']
  refine dcomp_run h S ?_ ok hx hfold
  rintro h' tk σ' D C acc mm q hD hn back T
  refine ⟨mm, hn, fun h4 hs4 => ?_⟩
  obtain ⟨S4, T4, _⟩ := back h4 hs4
  exact ⟨h4, tk, _, rfl, S4, T.trans T4, _, VR_ref.mpr rfl, q D hD⟩

theorem fin_use {s : Shared} {y : PySem.Str} {py : Pos} (hy : sc.names.lookup y = some .local) {h' : Heap} {tk : Nat} {σ' : Store} {D C : Addr} {acc : O} {mm : PySem.Str → Option Value} (hD : σ' D = none) (hn : h'.Ns C mm)
    (q : F .next (setL m y (.ref D)) (upd σ' D acc))
    (back : ∀ h4, Heap.SameBut C h' h4 → St c m (upd σ' D acc) h4 ∧ Tk h' h4 ∧ Apart c (upd σ' D acc) C) (T : Tk s.heap h') :
    compPost (model P.prog P.w) c.A noE (some (assign (.Name y py) c.env)) (fun _ s' => PostL c s (F .next) () s') (.ref D) C (.ok .next) { s with heap := h', toks := tk } := by
  obtain ⟨S4, _, hC⟩ := back h' (Heap.SameBut.refl _ _)
  obtain ⟨oC, hoC, htC⟩ := Ns.notTup hn
  obtain ⟨c1, hd1, hA1, hE1, hn1, Sc1, back1⟩ := S4.freeze hC.hb hoC hC.s hC.L hC.C
  have sn := store_name (c := c1) (x := y) (s := { s with heap := h', toks := tk }) (v := .ref D) (u := .ref D) (G := F .next) Sc1 (VR_ref.mpr rfl) (by rw [hy]; rfl) q
  rw [hA1, hE1] at sn
  show wpAny _ _ (assign (.Name y py) c.env (.ref D)) _ _ _
  refine wpAny_assign_Name (thenL sn fun h5 t5 σ5 m5 S5 T5 r => ?_)
  obtain ⟨S5', hC5, hσ5⟩ := back1 _ _ _ S5
  refine ⟨mm, hn.at' fun o e => by rw [hoC] at e; cases e; exact hC5, fun h6 hs6 => ?_⟩
  obtain ⟨S6, T6⟩ := S5'.aside hC.hb hC5 htC hσ5 hC.L hC.C fun b z q e => hs6.extBut b z q e
  exact ⟨h6, t5, σ5, m5, rfl, S6, (T.trans T5).trans T6, r⟩

theorem x_dictcomp {kx vx iter : Expr} {x y : PySem.Str} {px py pos pos' : Pos} {ifs : List Expr}
    (h : WE c iter m σ (DComp c scope x kx vx ifs m fun acc σ => ∀ a, σ a = none → F .next (setL m y (.ref a)) (upd σ a acc)))
    (hy : sc.names.lookup y = some .local := by kernel_rfl) (hpos : (py.line == pos.line) = true := by rfl) (hno : (scope.names.any fun (n, k) => n == y && (k == .local || k == .cell)) = false := by decide +kernel)
    (ok : compOk sc scope = true := by decide +kernel) (hx : scope.names.lookup x = some .local := by kernel_rfl) (hfold : ∀ v, foldedSetIterable iter c.env v = pure v := by intro _; rfl) :
    WX c (.Assign [.Name y py] (.DictComp kx vx [⟨.Name x px, iter, ifs, 0⟩] scope pos) pos') m σ F := by
  intro s S
  have ky := c.look y _ hy (by simp)
  have hsw : swapsWith (.DictComp kx vx [⟨.Name x px, iter, ifs, 0⟩] scope pos) (some (.Name y py)) pos'.line c.env = pure true := by
    unfold swapsWith
    have hb : (c.env.blockKind == .function) = true := by unfold Env.blockKind; rw [c.kind]; rfl
    have e2 : (c.env.kindOf y == some .local) = true := by rw [ky]; rfl
    show (pure _ : Sem Bool) = pure true
    congr 1
    show (c.env.blockKind == .function && c.env.kindOf y == some .local && py.line == pos.line && !(scope.names.any fun (n, k) => n == y && (k == .local || k == .cell))) = true
    rw [hb, e2, hpos, hno]; rfl
  rw [exec_Assign_Name_used _ _ _ _ hsw]
  refine wpAny_bind (wpAny_standAt (wpAny_bind ?_))
  show wpAny _ _ (do let _ ← comprehension (.DictComp kx vx [⟨.Name x px, iter, ifs, 0⟩] scope pos) scope c.env _ newDict false (eval iter c.env) (some (assign (.Name y py) c.env))) _ _ s
  refine wpAny_bind (wpAny_mono (dcomp_run (Qf := fun _ s' => PostL c s (F .next) () s') h S ?_ ok hx hfold) (fun v s' q => ?_) fun _ _ z => z)
  · rintro h' tk σ' D C acc mm q hD hn back T
    exact fin_use hy hD hn (q D hD) back T
  · obtain ⟨h', tk, σ', m', rfl, S', T', r⟩ := q
    exact wpAny_pure (wpAny_pure ⟨h', tk, σ', m', .next, rfl, S', T', rfl, r⟩)
end

-- part L17
section
variable {P : Pg} {sc scope : Scope} {c : Cx P sc} {m : Loc} {σ : Store} {Q : V → Store → Prop} {F : Fl → Loc → Store → Prop}

noncomputable def nestAct (e i1 : Expr) (acc : Value) (env : Env) : Sem Unit :=
  eval i1 env >>= fun x => standAt i1.pos >>= fun _ => foldedSetIterable i1 env x >>= fun x => holding [x] (pyIter x) >>= fun it => runOwn (.compStart e 1 it acc env) env >>= fun _ => pure ()
theorem turn_nest0 {elt t0 i0 t1 i1 : Expr} {pos : Pos} : TurnEq (.ListComp elt [⟨t0, i0, [], 0⟩, ⟨t1, i1, [], 0⟩] scope pos) 0 t0 i0 [] (nestAct (.ListComp elt [⟨t0, i0, [], 0⟩, ⟨t1, i1, [], 0⟩] scope pos) i1) := by
  intro it D env
  show (standAt i0.pos >>= fun _ => pyNext it >>= fun r => _) = _
  refine bind_fun fun _ => bind_fun fun r => ?_
  cases r with
  | none => rfl
  | some v =>
    refine bind_fun fun _ => bind_fun fun _ => ?_
    show (eval i1 env >>= fun x => standAt i1.pos >>= fun _ => foldedSetIterable i1 env x >>= fun x => holding [x] (pyIter x) >>= fun it' => runOwn (.compStart (.ListComp elt [⟨t0, i0, [], 0⟩, ⟨t1, i1, [], 0⟩] scope pos) 1 it' (.ref D) env) env >>= fun _ => again (.compLoop (.ListComp elt [⟨t0, i0, [], 0⟩, ⟨t1, i1, [], 0⟩] scope pos) 0 it (.ref D) env)) = (nestAct (.ListComp elt [⟨t0, i0, [], 0⟩, ⟨t1, i1, [], 0⟩] scope pos) i1 (.ref D) env >>= fun _ => again (.compLoop (.ListComp elt [⟨t0, i0, [], 0⟩, ⟨t1, i1, [], 0⟩] scope pos) 0 it (.ref D) env))
    simp only [nestAct, bind_assoc, pure_bind]
theorem turn_nest1 {elt t0 i0 t1 i1 : Expr} {pos : Pos} : TurnEq (.ListComp elt [⟨t0, i0, [], 0⟩, ⟨t1, i1, [], 0⟩] scope pos) 1 t1 i1 [] (listAct elt) := by
  intro it D env
  show (standAt i1.pos >>= fun _ => pyNext it >>= fun r => _) = _
  refine bind_fun fun _ => bind_fun fun r => ?_
  cases r with
  | none => rfl
  | some v =>
    refine bind_fun fun _ => bind_fun fun _ => ?_
    rfl

theorem act_nest {elt t0 i0 i1 : Expr} {x : PySem.Str} {px pos : Pos} {D : Addr} {acc : O} {N : O → Store → Prop} {c : Cx P scope}
    (h : ∀ c' : Cx P scope, c'.d = c.d → WE c' i1 m σ fun v σ1 => ∃ C items, Iter P σ1 v C items ∧ ∃ J : Nat → O → Store → Prop, J 0 acc σ1 ∧ (∀ i acc σ, J i acc σ → C σ) ∧
      (∀ i v acc σ, items[i]? = some v → J i acc σ → ∀ c' : Cx P scope, c'.d = c.d → Act c' (listAct elt) D acc (setL m x v) σ (J (i + 1))) ∧ (∀ acc σ, J items.length acc σ → N acc σ))
    (hx : scope.names.lookup x = some .local) (hm : m x = none) (hfold : ∀ env v, foldedSetIterable i1 env v = pure v) :
    Act c (nestAct (.ListComp elt [⟨t0, i0, [], 0⟩, ⟨.Name x px, i1, [], 0⟩] scope pos) i1) D acc m σ N := by
  intro s S hD hrep
  obtain ⟨xD, hxD, hxt⟩ := hrep.notTup
  obtain ⟨c2, hd2, hA2, hE2, hn2, Sc2, back2⟩ := S.freeze hD.hb hxD hD.s hD.L hD.C
  have we := h c2 hd2 s Sc2
  rw [hA2, hE2] at we
  refine wpAny_bind (thenE we fun u h1 t1 σ1 S1 T1 ⟨v, hv, C, items, hit, J, j0, jC, turn, fin⟩ => ?_)
  obtain ⟨S1', hD1, hσD⟩ := back2 _ _ _ S1
  refine wpAny_bind (wpAny_standAt ?_)
  rw [hfold, pure_bind]
  obtain ⟨It, hpl, hiter, hnext, hend, hself⟩ := hit c.toBx { s with heap := h1, toks := t1 } u S1'.sto hv
  refine wpAny_bind (wpAny_holding (hiter _ fun oI hoI => ?_))
  obtain ⟨nI, qI1, qI2, qI3, qI4⟩ := hpl _ _ hoI
  have k1 : ∀ b z, h1.get? b = some z → (h1.push oI).get? b = some z := fun b z e => Heap.get?_push_of_some _ e
  have hfr : (h1.push oI).get? h1.objs.size = some oI := Heap.get?_push_size _ qI3
  have hIn : h1.get? h1.objs.size = none := Heap.get?_none_of_le (Nat.le_refl _)
  have S2 : St c m σ1 (h1.push oI) := S1'.grow k1
  have hIb : c.hb.get? h1.objs.size = none := by
    cases q : c.hb.get? h1.objs.size with
    | none => rfl
    | some z => rw [S1'.sto.keep _ _ q] at hIn; cases hIn
  have hIA : Apart c σ1 h1.objs.size := ⟨hIb, S1'.sto.none_of_new hIn, fun q => by obtain ⟨mm, hn, _⟩ := S1'.ns; have := hn.lt; rw [← q] at this; exact absurd this (Nat.lt_irrefl _),
    fun y a e q => by obtain ⟨ov, hc, _⟩ := S1'.cell y a e; have := hc.lt; rw [← q] at this; exact absurd this (Nat.lt_irrefl _)⟩
  have hID : h1.objs.size ≠ D := fun q => by rw [← q, hIn] at hD1; cases hD1
  have hDA : Apart c σ1 D := ⟨hD.hb, hσD, hD.L, hD.C⟩
  have r2 : Rep P.w (h1.push oI) D acc := hrep.mono (T1.trans (Tk.of_keep k1)) fun z hz => by rw [hxD] at hz; cases hz; exact k1 _ _ hD1
  have loop : codeAny (model P.prog P.w) c.A (.compLoop (.ListComp elt [⟨t0, i0, [], 0⟩, ⟨.Name x px, i1, [], 0⟩] scope pos) 1 (.ref h1.objs.size) (.ref D) c.env)
      (fun r s' => match r with | .ok f => wpAny (model P.prog P.w) c.A (pure () : Sem Unit) (fun _ s' => ∃ h' tk σ' acc', s' = { s with heap := h', toks := tk } ∧ St c m σ' h' ∧ Tk s.heap h' ∧ Rep P.w h' D acc' ∧ σ' D = none ∧ N acc' σ') noE s' | .error e => cameBackBy (model P.prog P.w) c.A c.env noE e s') { s with heap := h1.push oI, toks := t1 } := by
    refine comp_loop (s := { s with heap := h1.push oI, toks := t1 }) (s₀ := { s with heap := h1, toks := t1 }) loop_list turn_nest1 It hpl hnext hend J jC (fun i w acc σ' hw hJ c' hd' => ?_) S2 (Tk.of_keep k1) hIA hID hfr hoI hDA r2 j0 fun h' tk σ' acc' S' T' rep' hσ' hJ => ?_
    · refine a_name ⟨fun y z hy => ?_, fun c'' hd'' => fun c3 hd3 => turn i w acc σ' hw hJ c3 hd3⟩ (by rw [hx]; rfl)
      unfold setL
      by_cases q : y = x
      · subst q; rw [hm] at hy; cases hy
      · simp [q, hy]
    · exact wpAny_pure ⟨h', tk, σ', acc', rfl, S', (T1.trans (Tk.of_keep k1)).trans T', rep', hσ', fin _ _ hJ⟩
  refine wpAny_bind (wpAny_runOwn ?_)
  refine start_list rfl rfl _ _ _ _ _ _ loop (hself _ _ _ oI 0 _ hfr hoI loop)

theorem x_listcomp2 {elt i0 i1 : Expr} {x x1 y : PySem.Str} {px px1 py pos pos' : Pos}
    (h : WE c i0 m σ fun v σ₁ => ∃ C items, Iter P σ₁ v C items ∧ ∃ J : Nat → O → Store → Prop, J 0 (.list []) σ₁ ∧ (∀ i acc σ, J i acc σ → C σ) ∧
      (∀ i v acc σ, items[i]? = some v → J i acc σ → ∀ c' : Cx P scope, c'.d = c.d → WE c' i1 (setL (freeL scope m) x v) σ fun v1 σ1 => ∃ C1 items1, Iter P σ1 v1 C1 items1 ∧ ∃ J1 : Nat → List V → Store → Prop, (∃ xs, acc = .list xs ∧ J1 0 xs σ1) ∧ (∀ i acc σ, J1 i acc σ → C1 σ ∧ acc.length ≤ 1000000) ∧
        (∀ i1 w xs σ, items1[i1]? = some w → J1 i1 xs σ → ∀ c' : Cx P scope, c'.d = c.d → WE c' elt (setL (setL (freeL scope m) x v) x1 w) σ fun z σ2 => J1 (i1 + 1) (xs ++ [z]) σ2) ∧ (∀ xs σ, J1 items1.length xs σ → J (i + 1) (.list xs) σ)) ∧
      (∀ acc σ, J items.length acc σ → ∀ a, σ a = none → F .next (setL m y (.ref a)) (upd σ a acc)))
    (hy : sc.names.lookup y = some .local := by kernel_rfl) (hpos : (py.line == pos.line) = true := by rfl) (hno : (scope.names.any fun (n, k) => n == y && (k == .local || k == .cell)) = false := by decide +kernel)
    (ok : compOk sc scope = true := by decide +kernel) (hx : scope.names.lookup x = some .local := by kernel_rfl) (hx1 : scope.names.lookup x1 = some .local := by kernel_rfl) (hxx : (x1 == x) = false := by decide +kernel) (hfold : ∀ v, foldedSetIterable i0 c.env v = pure v := by intro _; rfl) (hfold1 : ∀ env v, foldedSetIterable i1 env v = pure v := by intro _ _; rfl) :
    WX c (.Assign [.Name y py] (.ListComp elt [⟨.Name x px, i0, [], 0⟩, ⟨.Name x1 px1, i1, [], 0⟩] scope pos) pos') m σ F := by
  intro s S
  have ky := c.look y _ hy (by simp)
  have hsw : swapsWith (.ListComp elt [⟨.Name x px, i0, [], 0⟩, ⟨.Name x1 px1, i1, [], 0⟩] scope pos) (some (.Name y py)) pos'.line c.env = pure true := by
    unfold swapsWith
    have hb : (c.env.blockKind == .function) = true := by unfold Env.blockKind; rw [c.kind]; rfl
    have e2 : (c.env.kindOf y == some .local) = true := by rw [ky]; rfl
    show (pure _ : Sem Bool) = pure true
    congr 1
    show (c.env.blockKind == .function && c.env.kindOf y == some .local && py.line == pos.line && !(scope.names.any fun (n, k) => n == y && (k == .local || k == .cell))) = true
    rw [hb, e2, hpos, hno]; rfl
  rw [exec_Assign_Name_used _ _ _ _ hsw]
  refine wpAny_bind (wpAny_standAt (wpAny_bind ?_))
  show wpAny _ _ (do let _ ← comprehension (.ListComp elt [⟨.Name x px, i0, [], 0⟩, ⟨.Name x1 px1, i1, [], 0⟩] scope pos) scope c.env _ (newList []) false (eval i0 c.env) (some (assign (.Name y py) c.env))) _ _ s
  refine wpAny_bind (wpAny_mono (compr (Qf := fun _ s' => PostL c s (F .next) () s') (act := nestAct (.ListComp elt [⟨.Name x px, i0, [], 0⟩, ⟨.Name x1 px1, i1, [], 0⟩] scope pos) i1) (oD := { cls := .type "list", data := .seq #[] }) (acc0 := .list []) rfl loop_list (start_list rfl rfl) turn_nest0 (fun s R r => wpAny_newObj_type r (by show (0 : Nat) ≤ _; exact Nat.zero_le _)) rfl (fun h _ => ⟨#[], ⟨_, Heap.get?_push_size _ rfl⟩, VRs_nil.mpr rfl⟩) ok hx hfold S
    (fun acc σ' => ∀ a, σ' a = none → F .next (setL m y (.ref a)) (upd σ' a acc)) ?_ ?_) (fun v s' q => ?_) fun _ _ z => z)
  · refine h.mono fun v σ₁ ⟨C, items, hit, J, j0, jC, turn, fin⟩ => ⟨C, items, hit, J, j0, jC, ?_, fin⟩
    intro i v acc σ' hv hJ c' hd D c3 hd3
    refine act_nest (fun c4 hd4 => (turn i v acc σ' hv hJ c4 (hd4.trans hd3)).mono fun v1 σ1 ⟨C1, items1, hit1, J1, ⟨xs, e, j10⟩, jC1, turn1, fin1⟩ => ⟨C1, items1, hit1, fun i acc σ => ∃ xs, acc = .list xs ∧ J1 i xs σ, ⟨xs, e, j10⟩, fun i acc σ ⟨xs, _, q⟩ => (jC1 _ _ _ q).1, ?_, ?_⟩) hx1 ?_ hfold1
    · rintro i1 w acc1 σ2 hw ⟨xs1, rfl, hJ1⟩ c5 hd5
      exact act_list (jC1 _ _ _ hJ1).2 fun c6 hd6 => (turn1 i1 w xs1 σ2 hw hJ1 c6 (hd6.trans (hd5.trans hd3))).mono fun z σ3 q => ⟨_, rfl, q⟩
    · rintro acc1 σ2 ⟨xs1, rfl, hJ1⟩
      exact fin1 _ _ hJ1
    · unfold setL freeL
      have : x1 ≠ x := by simpa using hxx
      simp [this, hx1]
  · rintro h' tk σ' D C acc mm q hD hn back T
    exact fin_use hy hD hn (q D hD) back T
  · obtain ⟨h', tk, σ', m', rfl, S', T', r⟩ := q
    exact wpAny_pure (wpAny_pure ⟨h', tk, σ', m', .next, rfl, S', T', rfl, r⟩)
end

-- part L18
noncomputable def fget : List (PySem.Str × V) → PySem.Str → Option V
  | [], _ => none
  | (x, v) :: r, n => if (x == n) = true then some v else fget r n
noncomputable def fset : List (PySem.Str × V) → PySem.Str → V → List (PySem.Str × V)
  | [], n, v => [(n, v)]
  | (x, u) :: r, n, v => if (x == n) = true then (x, v) :: r else (x, u) :: fset r n v

section
variable {h : Heap} {name : PySem.Str}
theorem isStr_eq (x n : PySem.Str) (t : Tok) : (Value.str x t).isStr n = (x == n) := rfl
theorem AR.find : ∀ {fs : List (PySem.Str × V)} {es : List DictEntry}, AR h fs es → match fget fs name with
    | some v => ∃ e, es.find? (·.key.isStr name) = some e ∧ VR h v e.val
    | none => es.find? (·.key.isStr name) = none
  | [], es, e => by cases e; rfl
  | (x, v) :: r, es, ⟨en, es', e1, ⟨t, e2⟩, e3, e4⟩ => by
    subst e1
    have ih := AR.find e4
    unfold fget
    rw [List.find?_cons, e2, isStr_eq]
    cases q : (x == name) with
    | true => exact ⟨en, rfl, e3⟩
    | false => exact ih
theorem AR.noRef : ∀ {fs : List (PySem.Str × V)} {es : List DictEntry}, AR h fs es → es.any (·.refKey) = false
  | [], es, e => by cases e; rfl
  | (x, v) :: r, es, ⟨en, es', e1, ⟨t, e2⟩, e3, e4⟩ => by
    subst e1
    rw [List.any_cons, AR.noRef e4]
    obtain ⟨a, b, c⟩ := en
    dsimp only at e2
    subst e2; rfl
theorem AR.length : ∀ {fs : List (PySem.Str × V)} {es : List DictEntry}, AR h fs es → es.length = fs.length
  | [], es, e => by cases e; rfl
  | (x, v) :: r, es, ⟨en, es', e1, ⟨t, e2⟩, e3, e4⟩ => by subst e1; simp [AR.length e4]
theorem AR.put {hsh : Int} {tk : Tok} {v : V} {u : Value} (hv : VR h v u) : ∀ {fs : List (PySem.Str × V)} {es : List DictEntry}, AR h fs es → AR h (fset fs name v) (putL name hsh (.str name tk) u es)
  | [], es, e => by cases e; exact ⟨_, _, rfl, ⟨tk, rfl⟩, hv, rfl⟩
  | (x, w) :: r, es, ⟨en, es', e1, ⟨t, e2⟩, e3, e4⟩ => by
    subst e1
    unfold fset putL
    rw [e2, isStr_eq]
    cases q : (x == name) with
    | true => exact ⟨_, _, rfl, ⟨t, rfl⟩, hv, e4⟩
    | false => exact ⟨_, _, rfl, ⟨t, e2⟩, e3, AR.put hv e4⟩
theorem fset_length (fs : List (PySem.Str × V)) (v : V) : (fset fs name v).length ≤ fs.length + 1 := by
  induction fs with
  | nil => exact Nat.le_refl _
  | cons p r ih =>
    obtain ⟨x, u⟩ := p
    unfold fset
    split
    · simp
    · simp; omega
theorem handed_VR {v : V} {u : Value} (e : VR h v u) : handedIn u = true := by
  cases v with
  | none => rw [VR_none.mp e]; rfl
  | bool b => rw [VR_bool.mp e]; rfl
  | int i => obtain ⟨t, rfl⟩ := VR_int.mp e; rfl
  | str x => obtain ⟨t, rfl⟩ := VR_str.mp e; rfl
  | ref a => rw [VR_ref.mp e]; rfl
  | tup xs => obtain ⟨a, items, rfl, _⟩ := VR_tup.mp e; rfl
end

-- what a class of the text is known for
noncomputable def plainCls (K : Frag) (C : Addr) : Bool :=
  findIn K (.ref C) "__getattribute__" == some (some (.builtin "object.__getattribute__")) && findIn K (.ref C) "__getattr__" == some none &&
  hasDictIn K C && findIn K (.ref C) "__setattr__" == some (some (.builtin "object.__setattr__")) && plainOver K C && makesIn K C

section
variable {P : Pg} {d : Nat} {σ : Store} {Q : V → Store → Prop} {R : Store → Prop} {x dx C : Addr} {fs : List (PySem.Str × V)} {name : PySem.Str}

theorem plainCls_of {K : Frag} (h : plainCls K C = true) : findIn K (.ref C) "__getattribute__" = some (some (.builtin "object.__getattribute__")) ∧ findIn K (.ref C) "__getattr__" = some none ∧
    hasDictIn K C = true ∧ findIn K (.ref C) "__setattr__" = some (some (.builtin "object.__setattr__")) ∧ plainOver K C = true ∧ makesIn K C = true := by
  unfold plainCls at h
  simp only [Bool.and_eq_true, beq_iff_eq] at h
  obtain ⟨⟨⟨⟨⟨a, b⟩, c⟩, d⟩, e⟩, f⟩ := h
  exact ⟨a, b, c, d, e, f⟩
theorem inst_at {hb h : Heap} (S : Sto P.w hb σ h) (hx : σ x = some (.inst C dx)) (hd : σ dx = some (.attrs fs)) : ∃ es n, InstAt h x (instObj C dx) C (some (dictOf es n)) ∧ AR h fs es ∧ h.get? dx = some (dictOf es n) := by
  obtain ⟨es, n, h1, h2⟩ := S.rep dx _ hd
  exact ⟨es, n, ⟨S.rep x _ hx, rfl, rfl, h1⟩, h2, h1⟩

theorem lf_getattr {v : V} (hc : plainCls P.K C = true) (hn : findIn P.K (.ref C) name = some none) (hx : σ x = some (.inst C dx)) (hd : σ dx = some (.attrs fs)) (hf : fget fs name = some v) (h : Q v σ) :
    Leaf P d (op1 fun o => getAttr o name true) [.ref x] σ (asV Q) := by
  intro bx _ s us S hv
  obtain ⟨u, rfl, e1⟩ := args1 hv
  have e1 := VR_ref.mp e1; subst e1
  obtain ⟨h1, h2, h3, h4, h5, h6⟩ := plainCls_of hc
  obtain ⟨es, n, I, ar, hdx⟩ := inst_at S hx hd
  have fd := ar.find (name := name)
  rw [hf] at fd
  obtain ⟨e, fe, hr⟩ := fd
  have X := (bx.base.of_sto S).X
  refine get_value X I h1 (findObj_own h3 hn rfl (by rw [lookIn_dict]; unfold getL; rw [fe])) (handed_VR hr) ?_
  exact PostB.tok _ S ⟨_, hr, h⟩

theorem lf_setattr {v : V} (hc : plainCls P.K C = true) (hn : findIn P.K (.ref C) name = some none) (hx : σ x = some (.inst C dx)) (hd : σ dx = some (.attrs fs)) (hl : fs.length ≤ 900) (h : R (upd σ dx (.attrs (fset fs name v)))) :
    Leaf P d (op2 fun o v => setAttr o name v) [.ref x, v] σ fun _ _ σ' => R σ' := by
  intro bx _ s us S hv
  obtain ⟨u, w, rfl, e1, e2⟩ := args2 hv
  have e1 := VR_ref.mp e1; subst e1
  obtain ⟨h1, h2, h3, h4, h5, h6⟩ := plainCls_of hc
  obtain ⟨es, n, I, ar, hdx⟩ := inst_at S hx hd
  have X := (bx.base.of_sto S).X
  refine set_plain X I h4 ?_
  refine osa_open (s := { s with toks := s.toks + 1 }) X I h5 (r := none) (by unfold takerIn; rw [hn]; rfl) fun b => ?_
  obtain ⟨cd, hcd, hd'⟩ := any_some h3
  have hxx : s.heap.get? x = some (instObj C dx) := I.at_
  refine wpAny_bind (wpAny_pure (wpAny_bind (wpAny_bind (wpAny_loadPart hxx (wpAny_bind (looks_clsIn X hcd _ _ _ _ (fun _ _ e => e) ?_))))))
  rw [hd']
  refine wpAny_pure (a := some dx) (wpAny_bind (wpAny_pure (wpAny_bind ?_)))
  unfold nsSet
  refine wpAny_bind (wpAny_bind (wpAny_askSetting (wpAny_pure (wpAny_bind (wpAny_mkText (wpAny_bind (wpAny_loadPart hdx ?_)))))))
  dsimp only
  have hc2 : (!es.toArray.any (·.key.isStr name) && es.toArray.any (·.refKey)) = false := by
    have : es.toArray.any (·.refKey) = false := by rw [← Array.any_toList]; exact ar.noRef
    rw [this, Bool.and_false]
  rw [aRefKeyMayBeTheName_at, hc2]
  refine wpAny_updatePart hdx ?_
  have hput := putName_dict name (PyData.keyHash P.w.params name) (.str name (s.toks + 1)) w es n
  have hg : (s.heap.update dx (Obj.putName name (PyData.keyHash P.w.params name) (.str name (s.toks + 1)) w)).get? dx = some (dictOf (putL name (PyData.keyHash P.w.params name) (.str name (s.toks + 1)) w es) (putN name es n)) := by
    rw [Heap.get?_update_self _ hdx (by rw [hput]; rfl), hput]
  have hlen : (putL name (PyData.keyHash P.w.params name) (.str name (s.toks + 1)) w es).length ≤ 901 := by
    have a1 := (ar.put (hsh := PyData.keyHash P.w.params name) (tk := s.toks + 1) (name := name) e2).length
    have a2 := fset_length (name := name) fs v
    omega
  refine wpAny_bind (wpAny_lookBehind hg (pastItsLine_dict (by rw [List.size_toArray, sizeLine_eq]; omega)) ?_)
  obtain ⟨S', T⟩ := S.set (o' := .attrs (fset fs name v)) hd (fun b x q e => (Heap.SameBut.update (h := s.heap) ..).extBut b x q e) fun T => ⟨_, _, hg, (ar.mono T).put (e2.mono T)⟩
  exact wpAny_pure ⟨_, _, _, rfl, S', T, h⟩

theorem meth_inst {f : Addr} (hc : plainCls P.K C = true) (hf : findIn P.K (.ref C) name = some (some (.ref f))) (ht : isFn P.K (.ref f) = true) (hk : keepIn P.K (.ref f) = true) (hx : σ x = some (.inst C dx)) (hd : σ dx = some (.attrs fs)) (hn : fget fs name = none) :
    Meth P d name (.ref x) σ (.ref f) := by
  refine ⟨callee_K hk, fun b _ s u pl R S ho r => ?_⟩
  have e1 := VR_ref.mp ho; subst e1
  obtain ⟨h1, h2, h3, h4, h5, h6⟩ := plainCls_of hc
  obtain ⟨es, n, I, ar, hdx⟩ := inst_at S hx hd
  have X := (b.base.of_sto S).X
  have fd := ar.find (name := name)
  rw [hn] at fd
  refine method_fn X I h1 h2 hf (beq_iff_eq.mp ht) ?_ r
  show (lookIn name (dictOf es n)).map _ = _
  rw [lookIn_dict]
  unfold getL
  rw [fd]
  dsimp only
  rw [ar.noRef]
  rfl

theorem lf_make {f : Addr} {args : List V} (hc : plainCls P.K C = true) (hi : findIn P.K (.ref C) "__init__" = some (some (.ref f))) (hf : isFn P.K (.ref f) = true)
    (h : ∀ x dx, σ x = none → σ dx = none → x ≠ dx → LeafC P d (.ref f) (.ref x :: args) (upd (upd σ dx (.attrs [])) x (.inst C dx)) (asV fun v σ' => v = .none ∧ Q (.ref x) σ')) :
    Leaf P (d + 1) (callL (.ref C)) args σ (asV Q) := by
  intro bx hbd s us S hv
  obtain ⟨h1, h2, h3, h4, h5, h6⟩ := plainCls_of hc
  have B := bx.base.of_sto S
  have X := B.X
  have hroom := bx.room
  have hunits := bx.units
  have hn1 : s.heap.get? s.heap.objs.size = none := Heap.get?_none_of_le (Nat.le_refl _)
  have hn2 : s.heap.get? (s.heap.objs.size + 1) = none := Heap.get?_none_of_le (Nat.le_succ _)
  have k1 : ∀ b z, s.heap.get? b = some z → (s.heap.push emptyDict).get? b = some z := fun b z e => Heap.get?_push_of_some _ e
  have k2 : ∀ b z, (s.heap.push emptyDict).get? b = some z → ((s.heap.push emptyDict).push (instObj C s.heap.objs.size)).get? b = some z := fun b z e => Heap.get?_push_of_some _ e
  have S1 := S.add (o' := .attrs []) hn1 k1 ⟨[], 0, Heap.get?_push_size _ rfl, rfl⟩
  have hn3 : (s.heap.push emptyDict).get? (s.heap.objs.size + 1) = none := Heap.get?_none_of_le (by rw [Heap.size_push]; exact Nat.le_refl _)
  have S2 := S1.add (o' := .inst C s.heap.objs.size) hn3 k2 (by
    show _ = _
    have := Heap.get?_push_size (s.heap.push emptyDict) (o := instObj C s.heap.objs.size) rfl
    rwa [Heap.size_push] at this)
  have T : Tk s.heap ((s.heap.push emptyDict).push (instObj C s.heap.objs.size)) := Tk.of_keep fun b z e => k2 b z (k1 b z e)
  have hw : (Code.builtin "type.__call__" ⟨.ref C :: us, []⟩).weight ≤ 1 := by
    have e : (Code.builtin "type.__call__" ⟨.ref C :: us, []⟩).weight = 1 := by kernel_rfl
    rw [e]; exact Nat.le_refl _
  have hcu : (Code.builtin "type.__call__" ⟨.ref C :: us, []⟩).cUnits ≤ 10 := by
    have e : (Code.builtin "type.__call__" ⟨.ref C :: us, []⟩).cUnits = 1 := by kernel_rfl
    rw [e]; decide
  let b' : Bx P := { A := bx.A.under (.builtin "type.__call__" ⟨.ref C :: us, []⟩), hb := bx.hb, d := d, base := bx.base, hh := bx.hh, room := (by show bx.A.depth + _ + 4 * d ≤ 900; omega), units := (by show bx.A.units + _ + 100 * d ≤ 9000; omega) }
  have lf := h (s.heap.objs.size + 1) s.heap.objs.size (S.none_of_new hn2) (S.none_of_new hn1) (Nat.ne_of_gt (Nat.lt_succ_self _)) b' rfl { s with heap := (s.heap.push emptyDict).push (instObj C s.heap.objs.size) } (.ref (s.heap.objs.size + 1) :: us) S2 (VRs_cons.mpr ⟨_, _, rfl, VR_ref.mpr rfl, hv.mono T⟩)
  refine wpAny_call (make_core (makes_of X h6) (looks_findIn X hi) (fun self => bind_fn X self (beq_iff_eq.mp hf)) (.inl rfl) ?_)
  refine codeAny_mono lf fun r s' z => ?_
  rcases r with e | (v | _ | _ | _) <;> first | exact z.elim | skip
  obtain ⟨h', tk, σ', rfl, S', T', av, hr, hav, q⟩ := z
  subst hav
  exact ⟨VR_none.mp hr, h', tk, σ', rfl, S', T.trans T', _, VR_ref.mpr rfl, q⟩
end

-- part L19
noncomputable def mapS (l : List (PySem.Str × V)) : List (V × V) := l.map fun p => (.str p.1, p.2)
section
variable {P : Pg} {h : Heap} {d : Addr}
theorem erS : ∀ {l : List (PySem.Str × V)} {es : List DictEntry}, ER P.w h (mapS l) es → ∃ vs, Pairs (PySem.strKind P.prog P.w) es vs ∧ VP h l vs ∧ ∀ e ∈ es, ∃ k, (PySem.strKind P.prog P.w).is k e.key = true ∧ e.hash = (PySem.strKind P.prog P.w).hash k
  | [], es, e => by cases e; exact ⟨[], .nil, rfl, fun _ h => by cases h⟩
  | (k, v) :: r, es, ⟨en, es', e1, e2, e3, e4, e5⟩ => by
    subst e1
    obtain ⟨vs, p1, p2, p3⟩ := erS (l := r) e5
    obtain ⟨t, ht⟩ := VR_str.mp e2
    have hk : (PySem.strKind P.prog P.w).is k en.key = true := by rw [ht]; exact strKind_is _ _ _ _
    exact ⟨(k, en.val) :: vs, .cons hk rfl p1, ⟨en.val, vs, rfl, e3, p2⟩, fun e he => by
      rcases List.mem_cons.mp he with rfl | he
      · exact ⟨k, hk, e4⟩
      · exact p3 e he⟩
theorem erS' : ∀ {vs : List (PySem.Str × Value)} {l : List (PySem.Str × V)} {es : List DictEntry}, Pairs (PySem.strKind P.prog P.w) es vs → VP h l vs → (∀ e ∈ es, ∃ k, (PySem.strKind P.prog P.w).is k e.key = true ∧ e.hash = (PySem.strKind P.prog P.w).hash k) → ER P.w h (mapS l) es
  | _, [], es, p, e, _ => by cases e; cases p; exact rfl
  | _, (k, v) :: r, es, p, ⟨u, vs', e, e2, e3⟩, hk => by
    subst e
    cases p with
    | @cons en _ es' _ h1 h2 p' =>
      obtain ⟨k', q1, q2⟩ := hk en (.head _)
      have : k = k' := (PySem.strKind P.prog P.w).inj _ _ _ h1 q1
      subst this
      obtain ⟨t, ht⟩ := Value.isStrOf_shape h1
      exact ⟨en, es', rfl, VR_str.mpr ⟨t, ht⟩, by rw [h2]; exact e2, q2, erS' p' e3 fun e he => hk e (.tail _ he)⟩
theorem str_inj : ∀ x y : PySem.Str, V.str x = V.str y → x = y := fun x y e => by cases e; rfl
theorem mapS_keys (l : List (PySem.Str × V)) : (mapS l).map (·.1) = (l.map (·.1)).map V.str := by simp [mapS, Function.comp_def]
theorem dS_to {l : List (PySem.Str × V)} {ep : Nat} (r : Rep P.w h d (.dict (mapS l) ep)) : ∃ vs, h.DictOf (PySem.strKind P.prog P.w) d vs ∧ VP h l vs ∧ (d == sysModules) = false := by
  obtain ⟨o, es, ho, hx, hd, he, hs, hn⟩ := r
  obtain ⟨vs, p1, p2, p3⟩ := erS he
  refine ⟨vs, ⟨o, es, ep, ho, hx, hd, fun e he => p3 e (by simpa using he), p1, ?_⟩, p2, hs⟩
  rw [p2.keys]
  rw [mapS_keys] at hn
  exact nodup_of_map hn
theorem dS_of {l : List (PySem.Str × V)} {vs : List (PySem.Str × Value)} (r : h.DictOf (PySem.strKind P.prog P.w) d vs) (e : VP h l vs) (hs : (d == sysModules) = false) : ∃ ep, Rep P.w h d (.dict (mapS l) ep) := by
  obtain ⟨o, es, ep, ho, hx, hd, hk, hp, hn⟩ := r
  refine ⟨ep, o, es, ho, hx, hd, erS' hp e (fun en he => hk en (by simpa using he)), hs, ?_⟩
  rw [mapS_keys]
  rw [e.keys] at hn
  exact nodup_map_inj str_inj hn
end

section
variable {P : Pg} {sc : Scope} {c : Cx P sc} {m : Loc} {d : Nat} {σ : Store} {Q : V → Store → Prop} {R : Store → Prop}
theorem lf_setS {a : Addr} {l : List (PySem.Str × V)} {ep : Nat} {k : PySem.Str} {v : V} (ha : σ a = some (.dict (mapS l) ep)) (hl : l.length ≤ 1000000) (h : ∀ ep', R (upd σ a (.dict (mapS (dset l k v)) ep'))) :
    Leaf P d (op3 setItem) [.ref a, .str k, v] σ fun _ _ σ' => R σ' := by
  intro bx _ s us S hv
  obtain ⟨u, w, z, rfl, e1, e2, e3⟩ := args3 hv
  obtain ⟨t, rfl⟩ := VR_str.mp e2; have e1 := VR_ref.mp e1; subst e1
  obtain ⟨vs, hd, hp, hs⟩ := dS_to (P := P) (S.rep a _ ha)
  refine wpAny_setItem_pairs (strKind_is _ _ k t) hd (fun h' hd' hsb => ?_) (by rw [hp.length, sizeLine_eq]; omega)
  obtain ⟨xo, hxo, hxt⟩ := (S.rep a _ ha).notTup
  have T : Tk s.heap h' := Tk.but hxo hxt fun b x q e => hsb.extBut b x q e
  obtain ⟨ep', r⟩ := dS_of (P := P) (l := dset l k v) hd' ((hp.mono T).store (e3.mono T)) hs
  obtain ⟨S', T'⟩ := S.set (o' := .dict (mapS (dset l k v)) ep') ha (fun b x q e => hsb.extBut b x q e) fun _ => r
  exact ⟨_, _, _, rfl, S', T', h ep'⟩
theorem lf_getS {a : Addr} {l : List (PySem.Str × V)} {ep : Nat} {k : PySem.Str} {v : V} (ha : σ a = some (.dict (mapS l) ep)) (h : Q ((dget l k).getD v) σ) : Leaf P d (callL (.builtin "dict.get")) [.ref a, .str k, v] σ (asV Q) := by
  intro bx _ s us S hv
  obtain ⟨u, w, z, rfl, e1, e2, e3⟩ := args3 hv
  obtain ⟨t, rfl⟩ := VR_str.mp e2; have e1 := VR_ref.mp e1; subst e1
  obtain ⟨vs, hd, hp, hs⟩ := dS_to (P := P) (S.rep a _ ha)
  have g := hp.get (k := k)
  refine call_meetsIn PySem.F.slot_dict_get hd.typeIs PySem.F.entry_dict_get (PySem.F.args_dict_get_3 _ _ _) (meets_dict_get_default (PySem.strKind P.prog P.w) a (strKind_is _ _ k t) hs z) ⟨_, hd.mapOf, ?_⟩
  cases q : dget l k with
  | some w => rw [q] at g h; obtain ⟨z', g, gz⟩ := g; rw [g]; exact PostB.tok _ S ⟨_, gz, h⟩
  | none => rw [q] at g h; rw [g]; exact PostB.tok _ S ⟨_, e3, h⟩
set_option maxHeartbeats 2000000 in
theorem e_dictS4 {k1 k2 k3 k4 : PySem.Str} {i1 i2 i3 i4 : Int} {a1 a2 a3 a4 b1 b2 b3 b4 : Nat} {p1 p2 p3 p4 q1 q2 q3 q4 pos : Pos} (hn : [k1, k2, k3, k4].Nodup)
    (h : ∀ a, σ a = none → ∀ ep, Q (.ref a) (upd σ a (.dict (mapS [(k1, .int i1), (k2, .int i2), (k3, .int i3), (k4, .int i4)]) ep))) :
    WE c (.Dict [some (.Constant (.str k1) a1 p1), some (.Constant (.str k2) a2 p2), some (.Constant (.str k3) a3 p3), some (.Constant (.str k4) a4 p4)] [.Constant (.int i1) b1 q1, .Constant (.int i2) b2 q2, .Constant (.int i3) b3 q3, .Constant (.int i4) b4 q4] pos) m σ Q := by
  intro s S
  have hsys := (c.base.of_sto S.sto).sys
  refine wpAny_Dict_pairs (knd := PySem.strKind P.prog P.w) (pairs := [(eval (.Constant (.str k1) a1 p1) c.env, do let x ← eval (.Constant (.int i1) b1 q1) c.env; standAt pos; pure x), (eval (.Constant (.str k2) a2 p2) c.env, do let x ← eval (.Constant (.int i2) b2 q2) c.env; standAt pos; pure x), (eval (.Constant (.str k3) a3 p3) c.env, do let x ← eval (.Constant (.int i3) b3 q3) c.env; standAt pos; pure x), (eval (.Constant (.str k4) a4 p4) c.env, do let x ← eval (.Constant (.int i4) b4 q4) c.env; standAt pos; pure x)]) rfl (by simp) (by simp) ?_
  refine evalPairs_cons (wpAny_Constant_str (wpAny_bind (wpAny_Constant_int (wpAny_bind (wpAny_standAt (wpAny_pure ?_))))))
  refine evalPairs_cons (wpAny_Constant_str (wpAny_bind (wpAny_Constant_int (wpAny_bind (wpAny_standAt (wpAny_pure ?_))))))
  refine evalPairs_cons (wpAny_Constant_str (wpAny_bind (wpAny_Constant_int (wpAny_bind (wpAny_standAt (wpAny_pure ?_))))))
  refine evalPairs_cons (wpAny_Constant_str (wpAny_bind (wpAny_Constant_int (wpAny_bind (wpAny_standAt (wpAny_pure ?_))))))
  refine evalPairs_nil ?_
  have hd0 : (s.heap.push { cls := .type "dict", data := .dict #[] }).DictOf (PySem.strKind P.prog P.w) s.heap.objs.size [] :=
    ⟨_, #[], 0, Heap.get?_push_size _ rfl, ⟨rfl, rfl, rfl⟩, rfl, fun e he => by simp at he, .nil, List.nodup_nil⟩
  refine ⟨[(k1, .int i1 _), (k2, .int i2 _), (k3, .int i3 _), (k4, .int i4 _)], ⟨strKind_is _ _ _ _, rfl, strKind_is _ _ _ _, rfl, strKind_is _ _ _ _, rfl, strKind_is _ _ _ _, rfl, trivial⟩, hd0, fun h' hm hsb => ?_⟩
  rw [merged_nil_of_nodup _ (by simpa using hn)] at hm
  have k : ∀ b x, s.heap.get? b = some x → h'.get? b = some x := fun b x e => hsb.extBut b x (Nat.ne_of_lt (Heap.lt_size e)) (Heap.get?_push_of_some _ e)
  obtain ⟨ep, r⟩ := dS_of (P := P) (l := [(k1, .int i1), (k2, .int i2), (k3, .int i3), (k4, .int i4)]) hm ⟨_, _, rfl, VR_int.mpr ⟨_, rfl⟩, _, _, rfl, VR_int.mpr ⟨_, rfl⟩, _, _, rfl, VR_int.mpr ⟨_, rfl⟩, _, _, rfl, VR_int.mpr ⟨_, rfl⟩, rfl⟩ hsys
  have hnone : s.heap.get? s.heap.objs.size = none := Heap.get?_none_of_le (Nat.le_refl _)
  have hσ := S.sto.none_of_new hnone
  refine ⟨h', _, _, rfl, S.of_sto (S.sto.add hnone k r) (Tk.of_keep k) (fun b x e _ => k b x e) (fun b x e n => ?_), Tk.of_keep k, _, VR_ref.mpr rfl, h _ hσ ep⟩
  rw [upd_ne _ _ (Nat.ne_of_lt (Heap.lt_size e))]; exact n
end

-- methods of lists and dicts
section
variable {P : Pg} {d : Nat} {σ : Store} {a : Addr}
theorem list_at {xs : List V} (ha : σ a = some (.list xs)) (s : Shared) (hb : Heap) (u : Value) (S : Sto P.w hb σ s.heap) (hv : VR s.heap (.ref a) u) : s.TypeIs u "list" ∧ ∀ b, u = .ref b → ∃ ob, s.heap.get? b = some ob ∧ ob.dict = none := by
  have e := VR_ref.mp hv; subst e
  obtain ⟨items, ⟨n, ho⟩, _⟩ := S.rep a _ ha
  exact ⟨⟨_, ho, rfl⟩, fun b e => by cases e; exact ⟨_, ho, rfl⟩⟩
theorem dict_at {kvs : List (V × V)} {ep : Nat} (ha : σ a = some (.dict kvs ep)) (s : Shared) (hb : Heap) (u : Value) (S : Sto P.w hb σ s.heap) (hv : VR s.heap (.ref a) u) : s.TypeIs u "dict" ∧ ∀ b, u = .ref b → ∃ ob, s.heap.get? b = some ob ∧ ob.dict = none := by
  have e := VR_ref.mp hv; subst e
  obtain ⟨o, es, ho, hx, _⟩ := S.rep a _ ha
  exact ⟨⟨_, ho, hx.1⟩, fun b e => by cases e; exact ⟨_, ho, hx.2.1⟩⟩
theorem m_append {xs : List V} (ha : σ a = some (.list xs)) : Meth P d "append" (.ref a) σ (.builtin "list.append") := meth_builtin F.plainAttrs_list F.slot_list_append F.type_list_append (list_at ha)
theorem m_pop {xs : List V} (ha : σ a = some (.list xs)) : Meth P d "pop" (.ref a) σ (.builtin "list.pop") := meth_builtin F.plainAttrs_list F.slot_list_pop F.type_list_pop (list_at ha)
theorem m_extend {xs : List V} (ha : σ a = some (.list xs)) : Meth P d "extend" (.ref a) σ (.builtin "list.extend") := meth_builtin F.plainAttrs_list F.slot_list_extend F.type_list_extend (list_at ha)
theorem m_get {kvs : List (V × V)} {ep : Nat} (ha : σ a = some (.dict kvs ep)) : Meth P d "get" (.ref a) σ (.builtin "dict.get") := meth_builtin F.plainAttrs_dict F.slot_dict_get F.type_dict_get (dict_at ha)
theorem m_setdefault {kvs : List (V × V)} {ep : Nat} (ha : σ a = some (.dict kvs ep)) : Meth P d "setdefault" (.ref a) σ (.builtin "dict.setdefault") := meth_builtin F.plainAttrs_dict F.slot_dict_setdefault F.type_dict_setdefault (dict_at ha)
end

-- part W0
noncomputable def fnPar : Stmt → Arguments
  | .FunctionDef _ a _ _ _ _ _ _ _ _ => a
  | _ => ⟨[], [], none, [], [], none, []⟩
noncomputable def fnBody : Stmt → List Stmt
  | .FunctionDef _ _ b _ _ _ _ _ _ _ => b
  | _ => []
noncomputable def fnScope : Stmt → Scope
  | .FunctionDef _ _ _ _ _ _ s _ _ _ => s
  | _ => { kind := .function, names := [], isGenerator := false, isCoroutine := false }
noncomputable def clsBody : Stmt → List Stmt
  | .ClassDef _ _ _ b _ _ _ _ _ _ _ => b
  | _ => []
noncomputable def top (i : Nat) : Stmt := PySem.Challenge.pw_sj0045_01.main.body.getD i (.Pass ⟨0, 0, 0, 0⟩)
noncomputable def mem (i j : Nat) : Stmt := (clsBody (top i)).getD j (.Pass ⟨0, 0, 0, 0⟩)

noncomputable def fdAt (K : Frag) (f : Addr) : Option FuncData := match K.lookup f with
  | some ⟨_, _, .func fd, _⟩ => some fd
  | _ => none
-- the def at f is the text's
structure IsDef (K : Frag) (f : Addr) (qual : PySem.Str) (st : Stmt) (dV : Value) : Prop where
  q : (fdAt K f).map (·.qualname) = some qual
  p : (fdAt K f).map (·.params) = some (fnPar st)
  b : (fdAt K f).map (·.body) = some (.stmts (fnBody st))
  s : (fdAt K f).map (·.scope) = some (fnScope st)
  g : (fdAt K f).map (·.globals) = some mainGlobals
  c : (fdAt K f).map (·.closure) = some []
  d : (fdAt K f).map (·.defaults) = some dV
  bt : (fdAt K f).map (·.builtins) = some builtinsNs
  code : (fdAt K f).elim false (fun fd => codeIn K fd.code qual) = true
  keep : keepIn K (.ref f) = true
theorem IsDef.fn {P : Pg} {f : Addr} {qual : PySem.Str} {st : Stmt} {dV : Value} (h : IsDef P.K f qual st dV) : FnAt P f qual (fnPar st) (fnBody st) (fnScope st) dV := by
  obtain ⟨q, p, b, s, g, c, d, bt, code, keep⟩ := h
  refine ⟨?_, keep⟩
  have hf : ∃ fd, fdAt P.K f = some fd := by
    cases e : fdAt P.K f with
    | none => rw [e] at q; cases q
    | some fd => exact ⟨fd, rfl⟩
  obtain ⟨fd, e⟩ := hf
  rw [e] at q p b s g c d bt code
  simp only [Option.map_some, Option.some.injEq] at q p b s g c d bt
  have e2 := e
  unfold fdAt at e2
  split at e2
  · rename_i oc od fd' osl ho
    cases e2
    obtain ⟨f1, f2, f3, f4, f5, f6, f7, f8, f9, f10, f11, f12, f13, f14, f15⟩ := fd
    dsimp only at q p b s g c d bt code
    subst q p b s g c d bt
    exact ⟨_, _, _, _, _, _, _, _, _, _, ho, code⟩
  · cases e2
-- what the walk uses of the program as it stands when the law begins
structure Facts (K : Frag) : Prop where
  purse : IsDef K 292 "_law_purse" (top 15) .none
  coin : IsDef K 299 "_law_coin" (top 16) .none
  back : IsDef K 306 "_law_back" (top 17) .none
  case : IsDef K 311 "_law_case" (top 18) .none
  fixed : IsDef K 318 "_law_fixed" (top 19) .none
  rest : IsDef K 28 "can_rest" (top 2) .none
  floating : IsDef K 33 "floating_nets" (top 3) .none
  users : IsDef K 278 "net_users" (top 12) .none
  loose : IsDef K 285 "loose_nets" (top 13) .none
  sInit : IsDef K 47 "Signal.__init__" (mem 5 0) .none
  dInit : IsDef K 103 "Design.__init__" (mem 6 0) .none
  addSignal : IsDef K 110 "Design.add_signal" (mem 6 1) .none
  nInit : IsDef K 173 "Netlist.__init__" (mem 9 0) .none
  newNet : IsDef K 180 "Netlist.new_net" (mem 9 1) .none
  newNets : IsDef K 185 "Netlist.new_nets" (mem 9 2) .none
  addCell : IsDef K 207 "Netlist.add_cell" (mem 9 5) (.ref 200)
  nDrive : IsDef K 215 "Netlist.drive" (mem 9 6) (.ref 208)
  wInit : IsDef K 250 "Wires.__init__" (mem 11 0) .none
  wDrive : IsDef K 257 "Wires.drive" (mem 11 1) .none
  g_law_purse : nsIn K mainGlobals "_law_purse" = some (some (.ref 292))
  g_law_coin : nsIn K mainGlobals "_law_coin" = some (some (.ref 299))
  g_law_back : nsIn K mainGlobals "_law_back" = some (some (.ref 306))
  g_law_case : nsIn K mainGlobals "_law_case" = some (some (.ref 311))
  g_law_fixed : nsIn K mainGlobals "_law_fixed" = some (some (.ref 318))
  gcan_rest : nsIn K mainGlobals "can_rest" = some (some (.ref 28))
  gfloating_nets : nsIn K mainGlobals "floating_nets" = some (some (.ref 33))
  gnet_users : nsIn K mainGlobals "net_users" = some (some (.ref 278))
  gloose_nets : nsIn K mainGlobals "loose_nets" = some (some (.ref 285))
  gDesign : nsIn K mainGlobals "Design" = some (some (.ref 148))
  gNetlist : nsIn K mainGlobals "Netlist" = some (some (.ref 232))
  gWires : nsIn K mainGlobals "Wires" = some (some (.ref 267))
  gSignal : nsIn K mainGlobals "Signal" = some (some (.ref 85))
  b_range : nsIn K mainGlobals "range" = some none
  b_len : nsIn K mainGlobals "len" = some none
  b_str : nsIn K mainGlobals "str" = some none
  b_list : nsIn K mainGlobals "list" = some none
  b_tuple : nsIn K mainGlobals "tuple" = some none
  b_int : nsIn K mainGlobals "int" = some none
  b_sorted : nsIn K mainGlobals "sorted" = some none
  dflt1 : K.lookup 200 = some { cls := .type "tuple", data := .seq #[.none] }
  dflt2 : K.lookup 208 = some { cls := .type "tuple", data := .seq #[.none] }
  cS : plainCls K 85 = true
  cSi : findIn K (.ref 85) "__init__" = some (some (.ref 47))
  cSk : keepIn K (.ref 85) = true
  cSa : ((["key", "path", "kind", "width", "signed", "msb", "lsb", "first", "last", "init", "at", "scalar"] : List PySem.Str).all fun x => findIn K (.ref 85) x == some none) = true
  cD : plainCls K 148 = true
  cDi : findIn K (.ref 148) "__init__" = some (some (.ref 103))
  cDk : keepIn K (.ref 148) = true
  cDa : ((["signals", "assigns", "gates", "udps", "processes", "routines", "scopes", "tops", "ports", "maker", "nesting", "by_path"] : List PySem.Str).all fun x => findIn K (.ref 148) x == some none) = true
  cN : plainCls K 232 = true
  cNi : findIn K (.ref 232) "__init__" = some (some (.ref 173))
  cNk : keepIn K (.ref 232) = true
  cNa : ((["name", "count", "inputs", "outputs", "cells"] : List PySem.Str).all fun x => findIn K (.ref 232) x == some none) = true
  cW : plainCls K 267 = true
  cWi : findIn K (.ref 267) "__init__" = some (some (.ref 250))
  cWk : keepIn K (.ref 267) = true
  cWa : ((["nets", "drivers", "initial", "pulls", "uneven", "strong", "unclear", "floating", "loose", "names"] : List PySem.Str).all fun x => findIn K (.ref 267) x == some none) = true
  m110 : findIn K (.ref 148) "add_signal" = some (some (.ref 110))
  m180 : findIn K (.ref 232) "new_net" = some (some (.ref 180))
  m185 : findIn K (.ref 232) "new_nets" = some (some (.ref 185))
  m207 : findIn K (.ref 232) "add_cell" = some (some (.ref 207))
  m215 : findIn K (.ref 232) "drive" = some (some (.ref 215))
  m257 : findIn K (.ref 267) "drive" = some (some (.ref 257))
  t47 : isFn K (.ref 47) = true
  t103 : isFn K (.ref 103) = true
  t110 : isFn K (.ref 110) = true
  t173 : isFn K (.ref 173) = true
  t180 : isFn K (.ref 180) = true
  t185 : isFn K (.ref 185) = true
  t207 : isFn K (.ref 207) = true
  t215 : isFn K (.ref 215) = true
  t250 : isFn K (.ref 250) = true
  t257 : isFn K (.ref 257) = true

-- part H0
-- what is looked at when the top has run
noncomputable def frag (as : List Addr) (h : Heap) : Frag := as.filterMap fun a => (h.get? a).map fun o => (a, o)
theorem frag_in (h : Heap) : ∀ as, (frag as h).In h
  | [], a, o, e => by cases e
  | b :: as, a, o, e => by
    unfold frag at e
    rw [List.filterMap_cons] at e
    cases q : h.get? b with
    | none => rw [q] at e; exact frag_in h as a o e
    | some x =>
      rw [q] at e
      simp only [Option.map_some, List.lookup_cons] at e
      by_cases w : a = b
      · subst w; simp at e; subst e; exact q
      · have : (a == b) = false := by simpa using w
        rw [this] at e; exact frag_in h as a o e
noncomputable def defsL : List (Addr × PySem.Str × Stmt × Value) := [(292, "_law_purse", top 15, Value.none), (299, "_law_coin", top 16, Value.none), (306, "_law_back", top 17, Value.none), (311, "_law_case", top 18, Value.none), (318, "_law_fixed", top 19, Value.none), (28, "can_rest", top 2, Value.none), (33, "floating_nets", top 3, Value.none), (278, "net_users", top 12, Value.none), (285, "loose_nets", top 13, Value.none), (47, "Signal.__init__", mem 5 0, Value.none), (103, "Design.__init__", mem 6 0, Value.none), (110, "Design.add_signal", mem 6 1, Value.none), (173, "Netlist.__init__", mem 9 0, Value.none), (180, "Netlist.new_net", mem 9 1, Value.none), (185, "Netlist.new_nets", mem 9 2, Value.none), (207, "Netlist.add_cell", mem 9 5, (Value.ref 200)), (215, "Netlist.drive", mem 9 6, (Value.ref 208)), (250, "Wires.__init__", mem 11 0, Value.none), (257, "Wires.drive", mem 11 1, Value.none)]
noncomputable def defObs (K : Frag) (p : Addr × PySem.Str × Stmt × Value) := (fdAt K p.1).map fun fd => (fd.qualname, fd.params, fd.body, fd.scope, fd.globals, fd.closure, fd.defaults, fd.builtins)
noncomputable def defGood (p : Addr × PySem.Str × Stmt × Value) := some (p.2.1, fnPar p.2.2.1, FuncBody.stmts (fnBody p.2.2.1), fnScope p.2.2.1, mainGlobals, ([] : List (PySem.Str × Addr)), p.2.2.2, builtinsNs)
noncomputable def defOk (K : Frag) (p : Addr × PySem.Str × Stmt × Value) : Bool := (fdAt K p.1).elim false (fun fd => codeIn K fd.code p.2.1) && keepIn K (.ref p.1)
noncomputable def gNames : List (PySem.Str × Option (Option Value)) := [("_law_purse", some (some (.ref 292))), ("_law_coin", some (some (.ref 299))), ("_law_back", some (some (.ref 306))), ("_law_case", some (some (.ref 311))), ("_law_fixed", some (some (.ref 318))), ("can_rest", some (some (.ref 28))), ("floating_nets", some (some (.ref 33))), ("net_users", some (some (.ref 278))), ("loose_nets", some (some (.ref 285))), ("Design", some (some (.ref 148))), ("Netlist", some (some (.ref 232))), ("Wires", some (some (.ref 267))), ("Signal", some (some (.ref 85))), ("range", some none), ("len", some none), ("str", some none), ("list", some none), ("tuple", some none), ("int", some none), ("sorted", some none)]
noncomputable def fNames : List (Addr × PySem.Str × Option (Option Value)) := [(85, "__init__", some (some (.ref 47))), (148, "__init__", some (some (.ref 103))), (232, "__init__", some (some (.ref 173))), (267, "__init__", some (some (.ref 250))), (148, "add_signal", some (some (.ref 110))), (232, "new_net", some (some (.ref 180))), (232, "new_nets", some (some (.ref 185))), (232, "add_cell", some (some (.ref 207))), (232, "drive", some (some (.ref 215))), (267, "drive", some (some (.ref 257)))]
noncomputable def lNames : List (Addr × Option Obj) := [(200, some { cls := .type "tuple", data := .seq #[.none] }), (208, some { cls := .type "tuple", data := .seq #[.none] })]
noncomputable def bNames (K : Frag) : List Bool := [plainCls K 85, keepIn K (.ref 85), ((["key", "path", "kind", "width", "signed", "msb", "lsb", "first", "last", "init", "at", "scalar"] : List PySem.Str).all fun x => findIn K (.ref 85) x == some none), plainCls K 148, keepIn K (.ref 148), ((["signals", "assigns", "gates", "udps", "processes", "routines", "scopes", "tops", "ports", "maker", "nesting", "by_path"] : List PySem.Str).all fun x => findIn K (.ref 148) x == some none), plainCls K 232, keepIn K (.ref 232), ((["name", "count", "inputs", "outputs", "cells"] : List PySem.Str).all fun x => findIn K (.ref 232) x == some none), plainCls K 267, keepIn K (.ref 267), ((["nets", "drivers", "initial", "pulls", "uneven", "strong", "unclear", "floating", "loose", "names"] : List PySem.Str).all fun x => findIn K (.ref 267) x == some none), isFn K (.ref 47), isFn K (.ref 103), isFn K (.ref 110), isFn K (.ref 173), isFn K (.ref 180), isFn K (.ref 185), isFn K (.ref 207), isFn K (.ref 215), isFn K (.ref 250), isFn K (.ref 257)]
noncomputable def obsK (K : Frag) := (defsL.map (defObs K), gNames.map (fun p => nsIn K mainGlobals p.1), fNames.map (fun p => findIn K (.ref p.1) p.2.1), lNames.map (fun p => K.lookup p.1), (defsL.all (defOk K) && (bNames K).all id))
noncomputable def wantK := (defsL.map defGood, gNames.map (·.2), fNames.map (·.2.2), lNames.map (·.2), true)
theorem map_at {α β : Type} {f g : α → β} {l : List α} (e : l.map f = l.map g) (i : Nat) {x : α} (h : l[i]? = some x) : f x = g x := by
  have := congrArg (fun l => l[i]?) e
  simp only [List.getElem?_map, h, Option.map_some, Option.some.injEq] at this
  exact this
theorem isDef_at {K : Frag} (e : obsK K = wantK) (i : Nat) {p : Addr × PySem.Str × Stmt × Value} (h : defsL[i]? = some p) : IsDef K p.1 p.2.1 p.2.2.1 p.2.2.2 := by
  have e1 := map_at (f := defObs K) (g := defGood) (congrArg (fun x => x.1) e) i h
  have e2 : (defsL.all (defOk K) && (bNames K).all id) = true := congrArg (fun x => x.2.2.2.2) e
  have e3 := List.all_eq_true.mp (Bool.and_eq_true_iff.mp e2).1 p (List.mem_of_getElem? h)
  obtain ⟨e4, e5⟩ := Bool.and_eq_true_iff.mp e3
  unfold defObs defGood at e1
  cases q : fdAt K p.1 with
  | none => rw [q] at e1; cases e1
  | some fd =>
    rw [q] at e1 e4
    simp only [Option.map_some, Option.some.injEq, Prod.mk.injEq] at e1
    obtain ⟨q1, q2, q3, q4, q5, q6, q7, q8⟩ := e1
    refine ⟨?_, ?_, ?_, ?_, ?_, ?_, ?_, ?_, ?_, e5⟩ <;> rw [q] <;> first | exact congrArg some q1 | exact congrArg some q2 | exact congrArg some q3 | exact congrArg some q4 | exact congrArg some q5 | exact congrArg some q6 | exact congrArg some q7 | exact congrArg some q8 | exact e4
theorem bool_at {K : Frag} (e : obsK K = wantK) (i : Nat) {b : Bool} (h : (bNames K)[i]? = some b) : b = true := by
  have e2 : (defsL.all (defOk K) && (bNames K).all id) = true := congrArg (fun x => x.2.2.2.2) e
  exact List.all_eq_true.mp (Bool.and_eq_true_iff.mp e2).2 b (List.mem_of_getElem? h)
theorem ns_at {K : Frag} (e : obsK K = wantK) (i : Nat) {p : PySem.Str × Option (Option Value)} (h : gNames[i]? = some p) : nsIn K mainGlobals p.1 = p.2 :=
  map_at (f := fun p : PySem.Str × Option (Option Value) => nsIn K mainGlobals p.1) (g := fun p => p.2) (congrArg (fun x => x.2.1) e) i h
theorem find_at {K : Frag} (e : obsK K = wantK) (i : Nat) {p : Addr × PySem.Str × Option (Option Value)} (h : fNames[i]? = some p) : findIn K (.ref p.1) p.2.1 = p.2.2 :=
  map_at (f := fun p : Addr × PySem.Str × Option (Option Value) => findIn K (.ref p.1) p.2.1) (g := fun p => p.2.2) (congrArg (fun x => x.2.2.1) e) i h
theorem look_at {K : Frag} (e : obsK K = wantK) (i : Nat) {p : Addr × Option Obj} (h : lNames[i]? = some p) : K.lookup p.1 = p.2 :=
  map_at (f := fun p : Addr × Option Obj => K.lookup p.1) (g := fun p => p.2) (congrArg (fun x => x.2.2.2.1) e) i h
theorem facts_of {K : Frag} (e : obsK K = wantK) : Facts K where
  purse := isDef_at e 0 rfl
  coin := isDef_at e 1 rfl
  back := isDef_at e 2 rfl
  case := isDef_at e 3 rfl
  fixed := isDef_at e 4 rfl
  rest := isDef_at e 5 rfl
  floating := isDef_at e 6 rfl
  users := isDef_at e 7 rfl
  loose := isDef_at e 8 rfl
  sInit := isDef_at e 9 rfl
  dInit := isDef_at e 10 rfl
  addSignal := isDef_at e 11 rfl
  nInit := isDef_at e 12 rfl
  newNet := isDef_at e 13 rfl
  newNets := isDef_at e 14 rfl
  addCell := isDef_at e 15 rfl
  nDrive := isDef_at e 16 rfl
  wInit := isDef_at e 17 rfl
  wDrive := isDef_at e 18 rfl
  g_law_purse := ns_at e 0 rfl
  g_law_coin := ns_at e 1 rfl
  g_law_back := ns_at e 2 rfl
  g_law_case := ns_at e 3 rfl
  g_law_fixed := ns_at e 4 rfl
  gcan_rest := ns_at e 5 rfl
  gfloating_nets := ns_at e 6 rfl
  gnet_users := ns_at e 7 rfl
  gloose_nets := ns_at e 8 rfl
  gDesign := ns_at e 9 rfl
  gNetlist := ns_at e 10 rfl
  gWires := ns_at e 11 rfl
  gSignal := ns_at e 12 rfl
  b_range := ns_at e 13 rfl
  b_len := ns_at e 14 rfl
  b_str := ns_at e 15 rfl
  b_list := ns_at e 16 rfl
  b_tuple := ns_at e 17 rfl
  b_int := ns_at e 18 rfl
  b_sorted := ns_at e 19 rfl
  dflt1 := look_at e 0 rfl
  dflt2 := look_at e 1 rfl
  cS := bool_at e 0 rfl
  cSi := find_at e 0 rfl
  cSk := bool_at e 1 rfl
  cSa := bool_at e 2 rfl
  cD := bool_at e 3 rfl
  cDi := find_at e 1 rfl
  cDk := bool_at e 4 rfl
  cDa := bool_at e 5 rfl
  cN := bool_at e 6 rfl
  cNi := find_at e 2 rfl
  cNk := bool_at e 7 rfl
  cNa := bool_at e 8 rfl
  cW := bool_at e 9 rfl
  cWi := find_at e 3 rfl
  cWk := bool_at e 10 rfl
  cWa := bool_at e 11 rfl
  m110 := find_at e 4 rfl
  m180 := find_at e 5 rfl
  m185 := find_at e 6 rfl
  m207 := find_at e 7 rfl
  m215 := find_at e 8 rfl
  m257 := find_at e 9 rfl
  t47 := bool_at e 12 rfl
  t103 := bool_at e 13 rfl
  t110 := bool_at e 14 rfl
  t173 := bool_at e 15 rfl
  t180 := bool_at e 16 rfl
  t185 := bool_at e 17 rfl
  t207 := bool_at e 18 rfl
  t215 := bool_at e 19 rfl
  t250 := bool_at e 20 rfl
  t257 := bool_at e 21 rfl

-- part W1
noncomputable def Ext (σ σ' : Store) : Prop := ∀ a o, σ a = some o → σ' a = some o
theorem Ext.refl (σ : Store) : Ext σ σ := fun _ _ e => e
theorem Ext.trans {σ σ' σ'' : Store} (h : Ext σ σ') (k : Ext σ' σ'') : Ext σ σ'' := fun a o e => k a o (h a o e)
theorem Ext.new {σ : Store} {a : Addr} {o : O} (h : σ a = none) : Ext σ (upd σ a o) := fun b o' e => by
  by_cases q : b = a
  · subst q; rw [h] at e; cases e
  · rw [upd_ne _ _ q]; exact e
theorem Ext.isNone {σ σ' : Store} {a : Addr} (h : Ext σ σ') (e : σ' a = none) : σ a = none := by
  cases q : σ a with
  | none => rfl
  | some o => rw [h a o q] at e; cases e
theorem Ext.set {σ σ' : Store} {a : Addr} {o : O} (h : Ext σ σ') (ha : σ a = none) : Ext σ (upd σ' a o) := fun b o' e => by
  by_cases q : b = a
  · subst q; rw [ha] at e; cases e
  · rw [upd_ne _ _ q]; exact h b o' e

theorem setL_self (m : Loc) (x : PySem.Str) (v : V) : setL m x v x = some v := by unfold setL; simp
theorem setL_ne (m : Loc) {x y : PySem.Str} (v : V) (h : (y == x) = false) : setL m x v y = m y := by
  unfold setL; rw [if_neg (by simpa using h)]

theorem lk_ne {m : Loc} {x y : PySem.Str} {v w : V} (h : (y == x) = false) (k : m y = some w) : setL m x v y = some w := (setL_ne m v h).trans k
theorem bt_len : bootBuiltins "len" = some (.builtin "len") := by boot_by_name
theorem bt_range : bootBuiltins "range" = some (.type "range") := by boot_by_name
theorem bt_int : bootBuiltins "int" = some (.type "int") := by boot_by_name
theorem bt_list : bootBuiltins "list" = some (.type "list") := by boot_by_name
theorem bt_tuple : bootBuiltins "tuple" = some (.type "tuple") := by boot_by_name
theorem bt_str : bootBuiltins "str" = some (.type "str") := by boot_by_name
theorem bt_sorted : bootBuiltins "sorted" = some (.builtin "sorted") := by boot_by_name
theorem any_mem {l : List Int} {k : Int} : (l.any fun x => x == k) = true ↔ k ∈ l := by
  rw [List.any_eq_true]
  constructor
  · rintro ⟨x, hx, e⟩; have : x = k := by simpa using e
    exact this ▸ hx
  · intro h; exact ⟨k, h, by simp⟩
theorem bIf {x : Bool} {A B : Prop} (h1 : x = true → A) (h2 : x = false → B) : ∃ b, V.bool x = .bool b ∧ if b = true then A else B := by
  refine ⟨x, rfl, ?_⟩
  cases x with
  | true => exact h1 rfl
  | false => exact h2 rfl
theorem freeL_get {scope : Scope} {m : Loc} {x : PySem.Str} {v : V} (h : scope.names.lookup x = some .free) (k : m x = some v) : freeL scope m x = some v := by
  unfold freeL; rw [if_pos h]; exact k
local macro_rules | `(tactic| walk_at "lk") => `(tactic| first | assumption | with_reducible exact setL_self _ _ _ | (apply lk_ne; (decide +kernel); walk_at "lk") | (apply freeL_get; (kernel_rfl); walk_at "lk") | exact setL_self _ _ _)
local macro_rules | `(tactic| walk_at "e") => `(tactic| first
  | ((with_reducible refine' e_name ?lk ?_ ?k1 ?k2); (case lk => walk_at "lk"); (case k1 => decide +kernel); (case k2 => decide +kernel))
  | with_reducible refine' e_int ?_
  | with_reducible refine' e_str ?_
  | with_reducible refine' e_bool ?_
  | with_reducible refine' e_none ?_
  | with_reducible refine' e_binop ?_
  | ((with_reducible refine' e_compare ?_ ?k1); (case k1 => rfl))
  | with_reducible refine' e_sub ?_
  | with_reducible refine' es_nil ?_
  | ((with_reducible refine' es_cons ?_ ?k1); (case k1 => rfl))
  | with_reducible refine' e_list ?_
  | with_reducible refine' e_tuple ?_
  | with_reducible refine' e_dict0 ?_
  | with_reducible refine' e_unary ?_
  | ((with_reducible refine' e_attr ?_ ?k1); (case k1 => rfl))
  | ((with_reducible refine' t_compare ?_ ?k1); (case k1 => rfl)))

-- what is reached from a net, going back by src, not past a stop
inductive Reach (src : Int → List Int) (stop : Int → Bool) (a : Int) : Int → Prop
  | refl : Reach src stop a a
  | step {x y : Int} : Reach src stop a x → stop x = false → y ∈ src x → Reach src stop a y

noncomputable def DictL (σ : Store) (s : Addr) (src : Int → List Int) : Prop := ∃ l ep, σ s = some (.dict (mapI l) ep) ∧ ∀ k, match dget l k with
  | some v => ∃ a, v = .ref a ∧ σ a = some (.list ((src k).map .int))
  | none => src k = []
theorem DictL.ext {σ σ' : Store} {s : Addr} {src : Int → List Int} (h : DictL σ s src) (e : Ext σ σ') : DictL σ' s src := by
  obtain ⟨l, ep, h1, h2⟩ := h
  refine ⟨l, ep, e _ _ h1, fun k => ?_⟩
  have := h2 k
  cases q : dget l k with
  | none => rw [q] at this; exact this
  | some v => rw [q] at this; obtain ⟨a, e1, e2⟩ := this; exact ⟨a, e1, e _ _ e2⟩

-- the state of the loop in _law_back
structure BackI (σ0 : Store) (src : Int → List Int) (stop : Int → Bool) (net : Int) (N : Nat) (s st : Addr) (stops : List Int) (t : Nat) (r : Addr) (ms : List Int) (m : Loc) (σ : Store) : Prop where
  ext : Ext σ0 σ
  fresh : σ0 r = none
  met : σ r = some (.list (ms.map .int))
  lm : m "met" = some (.ref r)
  lt : m "turn" = some (.int t)
  ls : m "sources" = some (.ref s)
  lst : m "stops" = some (.ref st)
  nodup : ms.Nodup
  bound : ∀ y ∈ ms, 0 ≤ y ∧ y < N
  head : net ∈ ms
  reach : ∀ y ∈ ms, Reach src stop net y
  done : ∀ i x, i < t → ms[i]? = some x → stop x = false → ∀ y ∈ src x, y ∈ ms
  tl : t ≤ ms.length

theorem nodup_bound {N : Nat} {ms : List Int} (h : ms.Nodup) (hb : ∀ y ∈ ms, 0 ≤ y ∧ y < N) : ms.length ≤ N := by
  have h1 : (ms.map Int.toNat).Nodup := by
    rw [List.nodup_iff_pairwise_ne] at *
    rw [List.pairwise_map]
    refine List.Pairwise.imp_of_mem (fun {a b} ha hb' hab => ?_) h
    have := hb a ha; have := hb b hb'
    intro e; apply hab; omega
  have h2 : (ms.map Int.toNat) ⊆ List.range N := by
    intro x hx
    obtain ⟨y, hy, rfl⟩ := List.mem_map.mp hx
    have := hb y hy
    rw [List.mem_range]; omega
  have := h1.length_le_of_subset h2
  simpa using this

section
variable {P : Pg} {d : Nat} {σ : Store} {Q : V → Store → Prop}
theorem back_leaf (F : Facts P.K) {src : Int → List Int} {stops : List Int} {net : Int} {N : Nat} {s st : Addr} (hs : DictL σ s src) (hst : σ st = some (.list (stops.map .int)))
    (hN : N ≤ 10000) (hnet : 0 ≤ net ∧ net < N) (hsrc : ∀ k y, y ∈ src k → 0 ≤ y ∧ y < N)
    (h : ∀ (r : Addr) (ms : List Int) (σ' : Store), Ext σ σ' → σ r = none → σ' r = some (.list (ms.map .int)) → (∀ y, y ∈ ms ↔ Reach src (fun x => stops.any (· == x)) net y) → ms.length ≤ N → Q (.ref r) σ') :
    LeafC P (d + 1) (.ref 306) [.int net, .ref s, .ref st] σ (asV Q) := by
  refine fn_callC (exV := []) (ex := []) F.back.fn ["net", "sources", "stops"] ?_ (fun h => VRs_nil.mpr rfl) (fun c hd => ?_) (by decide +kernel) (by kernel_rfl) (by kernel_rfl) (by kernel_rfl)
  · intro name kV doc pm an cdv ct us s hl _
    obtain ⟨a, b, c, rfl⟩ := len3 hl
    exact BindsTo.of_eq (by kernel_rfl)
  · show WB c _ (setL (setL (setL emp "net" (.int net)) "sources" (.ref s)) "stops" (.ref st)) σ _
    ((show WB _ _ _ _ _; refine b_cons ?_))
    refine x_assign ?_
    (repeat walk_at "e")
    refine ⟨by simp, fun r hr => ?_⟩
    ((show WB _ _ _ _ _; refine b_cons ?_))
    refine x_assign ?_
    (repeat walk_at "e")
    ((show WB _ _ _ _ _; refine b_cons ?_))
    let J : Nat → Loc → Store → Prop := fun n m σ' => ∃ t ms, n = N - t ∧ BackI σ src (fun x => stops.any (· == x)) net N s st stops t r ms m σ'
    refine (x_while J (n := N - 0) ⟨0, [net], rfl, ?_⟩ ?_)
    · exact ⟨Ext.new hr, hr, upd_self _ _ _, by walk_at "lk", by walk_at "lk", by walk_at "lk", by walk_at "lk", by simp, by simpa using hnet, by simp, fun y hy => by simp at hy; subst hy; exact .refl, fun i x hi => by omega, by simp⟩
    · rintro n m σ1 ⟨t, ms, rfl, I⟩
      obtain ⟨ext, fresh, met, lm, lt, ls, lst, nodup, bound, head, reach, done, tl⟩ := id I
      have hlen := nodup_bound nodup bound
      (repeat walk_at "e")
      (refine e_callB bt_len callee_builtin (Facts.b_len (by assumption)) ?_)
      (repeat walk_at "e")
      refine lf_len_list met (by simp; omega) ?_
      refine lf_lti (bIf (fun q => ?_) fun q => ?_)
      · have q : t < ms.length := by simpa using q
        ((show WB _ _ _ _ _; refine b_cons ?_))
        refine x_if ?_
        (repeat walk_at "e")
        refine lf_item_list (x := .int ms[t]) met (by omega) (by simp [q]) (by omega) ?_
        (repeat walk_at "e")
        refine lf_ninL (by rw [ext st _ hst]) (bIf (fun q2 => ?_) fun q2 => ?_)
        · ((show WB _ _ _ _ _; refine b_cons ?_))
          refine x_for ?_
          refine e_meth ?_
          (repeat walk_at "e")
          obtain ⟨l, ep, hd1, hd2⟩ := hs
          refine ⟨_, m_get (ext _ _ hd1), ?_⟩
          (repeat walk_at "e")
          refine lf_item_list (x := .int ms[t]) met (by omega) (by simp [q]) (by omega) ?_
          (repeat walk_at "e")
          refine ⟨by simp, fun e he => ?_⟩
          (repeat walk_at "e")
          have key : ∃ a, (dget l ms[t]).getD (.ref e) = .ref a ∧ a ≠ r ∧ upd σ1 e (.list []) a = some (.list ((src ms[t]).map .int)) := by
            have h2 := hd2 ms[t]
            cases z : dget l ms[t] with
            | none => rw [z] at h2; exact ⟨e, rfl, (fun w => by subst w; rw [met] at he; cases he), by rw [h2]; exact upd_self _ _ _⟩
            | some v => rw [z] at h2; obtain ⟨a, rfl, h3⟩ := h2; exact ⟨a, rfl, (fun w => by subst w; rw [fresh] at h3; cases h3), Ext.new he _ _ (ext _ _ h3)⟩
          obtain ⟨a, ka, har, hal⟩ := key
          refine lf_getI (Ext.new he _ _ (ext _ _ hd1)) ?_
          rw [ka]
          let J : Nat → Loc → Store → Prop := fun i m' σ' => ∃ ms' : List Int, Ext σ σ' ∧ σ' a = some (.list ((src ms[t]).map .int)) ∧ σ' r = some (.list (ms'.map .int)) ∧
            (m' "met" = some (.ref r) ∧ m' "turn" = some (.int t) ∧ m' "sources" = some (.ref s) ∧ m' "stops" = some (.ref st)) ∧ ms'.Nodup ∧ (∀ y ∈ ms', 0 ≤ y ∧ y < (N : Int)) ∧ ms <+: ms' ∧
            (∀ y ∈ ms', Reach src (fun x => stops.any (· == x)) net y) ∧ ∀ j y, j < i → (src ms[t])[j]? = some y → y ∈ ms'
          refine ⟨_, _, iter_list hal, J, ?_, ?_, ?_, ?_⟩
          · exact ⟨ms, ext.trans (Ext.new he), hal, Ext.new he _ _ met, ⟨lm, lt, ls, lst⟩, nodup, bound, List.prefix_refl _, reach, fun j y hj => by omega⟩
          · rintro i m' σ' ⟨ms', _, h2, _⟩; exact h2
          · rintro c' hd' i x m' σ' hx ⟨ms', e1, e2, e3, ⟨l1, l2, l3, l4⟩, e5, e6, e7, e8, e9⟩
            rw [List.getElem?_map] at hx
            obtain ⟨y, hy, rfl⟩ := Option.map_eq_some_iff.mp hx
            have hyb := hsrc _ _ (List.mem_of_getElem? hy)
            have hlen' := nodup_bound e5 e6
            refine a_name ?_
            ((show WB _ _ _ _ _; refine b_cons ?_))
            refine x_if ?_
            (repeat walk_at "e")
            refine lf_ninL e3 (bIf (fun q3 => ?_) fun q3 => ?_)
            · ((show WB _ _ _ _ _; refine b_cons ?_))
              refine x_expr ?_
              refine e_meth ?_
              (repeat walk_at "e")
              refine ⟨_, m_append e3, ?_⟩
              (repeat walk_at "e")
              refine lf_append e3 (by simp; omega) ?_
              ((show WB _ [] _ _ _; refine b_nil ?_))
              ((show WB _ [] _ _ _; refine b_nil ?_))
              have hnm : y ∉ ms' := fun hm => by rw [any_mem.mpr hm] at q3; cases q3
              refine ⟨ms' ++ [y], e1.set fresh, ?_, ?_, ⟨?_, ?_, ?_, ?_⟩, ?_, ?_, ?_, ?_, ?_⟩
              · rw [upd_ne _ _ har]; exact e2
              · rw [upd_self]; simp
              · walk_at "lk"
              · walk_at "lk"
              · walk_at "lk"
              · walk_at "lk"
              · rw [List.nodup_append]; exact ⟨e5, by simp, fun a ha b hb => by simp at hb; subst hb; exact fun w => hnm (w ▸ ha)⟩
              · intro z hz; rcases List.mem_append.mp hz with hz | hz
                · exact e6 z hz
                · simp at hz; subst hz; exact hyb
              · exact e7.trans (List.prefix_append _ _)
              · intro z hz; rcases List.mem_append.mp hz with hz | hz
                · exact e8 z hz
                · simp at hz; subst hz
                  exact .step (reach _ (List.getElem_mem q)) (by simpa using q2) (List.mem_of_getElem? hy)
              · intro j z hj hz
                rcases Nat.lt_succ_iff_lt_or_eq.mp hj with hj | rfl
                · exact List.mem_append_left _ (e9 j z hj hz)
                · rw [hy] at hz; cases hz; simp
            · ((show WB _ [] _ _ _; refine b_nil ?_))
              ((show WB _ [] _ _ _; refine b_nil ?_))
              refine ⟨ms', e1, e2, e3, ⟨?_, ?_, ?_, ?_⟩, e5, e6, e7, e8, ?_⟩
              · walk_at "lk"
              · walk_at "lk"
              · walk_at "lk"
              · walk_at "lk"
              · intro j z hj hz
                rcases Nat.lt_succ_iff_lt_or_eq.mp hj with hj | rfl
                · exact e9 j z hj hz
                · rw [hy] at hz; cases hz; exact any_mem.mp (by simpa using q3)
          · rintro m' σ' ⟨ms', e1, e2, e3, ⟨l1, l2, l3, l4⟩, e5, e6, e7, e8, e9⟩
            ((show WB _ [] _ _ _; refine b_nil ?_))
            ((show WB _ _ _ _ _; refine b_cons ?_))
            refine x_aug_name l2 ?_
            (repeat walk_at "e")
            refine lf_iadd ?_
            ((show WB _ [] _ _ _; refine b_nil ?_))
            have hp := e7
            have hpl := hp.length_le
            refine ⟨N - (t + 1), by omega, t + 1, ms', rfl, e1, fresh, e3, ?_, ?_, ?_, ?_, e5, e6, hp.mem head, e8, ?_, by omega⟩
            · walk_at "lk"
            · exact setL_self _ _ _
            · walk_at "lk"
            · walk_at "lk"
            · intro i x hi hx hs y hy
              rcases Nat.lt_succ_iff_lt_or_eq.mp hi with hi | rfl
              · have hx' : ms[i]? = some x := by
                  obtain ⟨tl', rfl⟩ := hp
                  rwa [List.getElem?_append_left (by omega)] at hx
                exact hp.mem (done i x hi hx' hs y hy)
              · have hx' : ms[i] = x := by
                  obtain ⟨tl', rfl⟩ := hp
                  rw [List.getElem?_append_left (by omega), List.getElem?_eq_getElem (by omega)] at hx
                  exact Option.some.inj hx
                subst hx'
                obtain ⟨j, hj⟩ := List.getElem?_of_mem hy
                exact e9 j y (by rw [List.length_map]; exact (List.getElem?_eq_some_iff.mp hj).1) hj
        · ((show WB _ [] _ _ _; refine b_nil ?_))
          ((show WB _ _ _ _ _; refine b_cons ?_))
          refine x_aug_name lt ?_
          (repeat walk_at "e")
          refine lf_iadd ?_
          ((show WB _ [] _ _ _; refine b_nil ?_))
          refine ⟨N - (t + 1), by omega, t + 1, ms, rfl, ext, fresh, met, ?_, ?_, ?_, ?_, nodup, bound, head, reach, ?_, by omega⟩
          · walk_at "lk"
          · exact setL_self _ _ _
          · walk_at "lk"
          · walk_at "lk"
          · intro i x hi hx hs y hy
            rcases Nat.lt_succ_iff_lt_or_eq.mp hi with hi | rfl
            · exact done i x hi hx hs y hy
            · rw [List.getElem?_eq_getElem (by omega)] at hx
              have := Option.some.inj hx
              subst this
              have q2' : (stops.any fun x_1 => x_1 == ms[i]) = true := by simpa using q2
              rw [q2'] at hs; cases hs
      · have q : ¬ t < ms.length := by simpa using q
        ((show WB _ _ _ _ _; refine b_cons ?_))
        refine x_return ?_
        (repeat walk_at "e")
        refine h r ms σ1 ext fresh met (fun y => ⟨reach y, fun hr => ?_⟩) hlen
        induction hr with
        | refl => exact head
        | step _ h2 h3 ih =>
          obtain ⟨i, hi⟩ := List.getElem?_of_mem ih
          exact done i _ (by have := (List.getElem?_eq_some_iff.mp hi).1; omega) hi h2 _ h3
end

set_option maxHeartbeats 4000000
-- part W2
theorem attr_no {K : Frag} {C : Addr} {l : List PySem.Str} {x : PySem.Str} (h : (l.all fun x => findIn K (.ref C) x == some none) = true) (hx : l.contains x = true) : findIn K (.ref C) x = some none := by
  have := List.all_eq_true.mp h x (by simpa using hx)
  simpa using this

-- the pure data of a case
structure Wd where
  n : Nat
  kind : Nat → PySem.Str
  w : Nat → Nat
  net : Nat → Nat → Int
  isIn : Nat → Bool
  pulled : Nat → Nat → Bool
  src : Int → List Int
  cells : List (PySem.Str × Int × List Int)
noncomputable def Wd.kok (D : Wd) (r : Nat) : Bool := (["wire", "tri", "wand", "wor"] : List PySem.Str).any (· == D.kind r)
noncomputable def Wd.ok (D : Wd) (r b : Nat) : Bool := D.kok r && !D.isIn r && !D.pulled r b
noncomputable def restIn (D : Wd) (r : Nat) : Nat → List (Nat × Nat)
  | 0 => []
  | b + 1 => restIn D r b ++ if D.ok r b = true then [(r, b)] else []
noncomputable def restUp (D : Wd) : Nat → List (Nat × Nat)
  | 0 => []
  | r + 1 => restUp D r ++ restIn D r (D.w r)
noncomputable def Wd.nets (D : Wd) (l : List (Nat × Nat)) : List Int := l.map fun p => D.net p.1 p.2
noncomputable def Wd.rest (D : Wd) : List Int := D.nets (restUp D D.n)
noncomputable def Wd.netList (D : Wd) (r : Nat) : List V := (List.range (D.w r)).map fun b => V.int (D.net r b)
structure Wd.Good (D : Wd) : Prop where
  inj : ∀ r b r' b', r < D.n → b < D.w r → r' < D.n → b' < D.w r' → D.net r b = D.net r' b' → r = r' ∧ b = b'
  few : D.n ≤ 100
  thin : ∀ r, D.w r ≤ 100

theorem mem_restIn {D : Wd} {r : Nat} : ∀ {k : Nat} {p : Nat × Nat}, p ∈ restIn D r k ↔ p.1 = r ∧ p.2 < k ∧ D.ok r p.2 = true
  | 0, p => by simp [restIn]
  | k + 1, p => by
    obtain ⟨a, b⟩ := p
    unfold restIn
    rw [List.mem_append, mem_restIn]
    constructor
    · rintro (⟨h1, h2, h3⟩ | h)
      · exact ⟨h1, Nat.lt_succ_of_lt h2, h3⟩
      · split at h
        · simp at h; obtain ⟨rfl, rfl⟩ := h; exact ⟨rfl, Nat.lt_succ_self _, by assumption⟩
        · simp at h
    · rintro ⟨h1, h2, h3⟩
      rcases Nat.lt_succ_iff_lt_or_eq.mp h2 with h2 | h2
      · exact .inl ⟨h1, h2, h3⟩
      · dsimp only at h1 h2 h3
        subst h1; subst h2; right; rw [if_pos h3]; simp
theorem mem_restUp {D : Wd} : ∀ {k : Nat} {p : Nat × Nat}, p ∈ restUp D k ↔ p.1 < k ∧ p.2 < D.w p.1 ∧ D.ok p.1 p.2 = true
  | 0, p => by simp [restUp]
  | k + 1, p => by
    unfold restUp
    rw [List.mem_append, mem_restUp, mem_restIn]
    constructor
    · rintro (⟨h1, h2⟩ | ⟨h1, h2, h3⟩)
      · exact ⟨Nat.lt_succ_of_lt h1, h2⟩
      · exact ⟨by omega, h1 ▸ h2, h1 ▸ h3⟩
    · rintro ⟨h1, h2, h3⟩
      rcases Nat.lt_succ_iff_lt_or_eq.mp h1 with h1 | h1
      · exact .inl ⟨h1, h2, h3⟩
      · exact .inr ⟨h1, h1 ▸ h2, h1 ▸ h3⟩
theorem nodup_nets {D : Wd} (G : D.Good) {l : List (Nat × Nat)} (h : l.Nodup) (hb : ∀ p ∈ l, p.1 < D.n ∧ p.2 < D.w p.1) : (D.nets l).Nodup := by
  unfold Wd.nets
  rw [List.nodup_iff_pairwise_ne] at *
  rw [List.pairwise_map]
  refine List.Pairwise.imp_of_mem (fun {a b} ha hb' hab e => hab ?_) h
  obtain ⟨h1, h2⟩ := G.inj _ _ _ _ (hb a ha).1 (hb a ha).2 (hb b hb').1 (hb b hb').2 e
  exact Prod.ext h1 h2
theorem nodup_restIn {D : Wd} {r : Nat} : ∀ k, (restIn D r k).Nodup
  | 0 => List.nodup_nil
  | k + 1 => by
    unfold restIn
    rw [List.nodup_append]
    refine ⟨nodup_restIn k, by split <;> simp, fun a ha b hb e => ?_⟩
    subst e
    split at hb
    · simp at hb; subst hb
      have := (mem_restIn.mp ha).2.1
      omega
    · simp at hb
theorem nodup_restUp {D : Wd} : ∀ k, (restUp D k).Nodup
  | 0 => List.nodup_nil
  | k + 1 => by
    unfold restUp
    rw [List.nodup_append]
    refine ⟨nodup_restUp k, nodup_restIn _, fun a ha b hb e => ?_⟩
    subst e
    have h1 := (mem_restUp.mp ha).1
    have h2 := (mem_restIn.mp hb).1
    omega

theorem restIn_len (D : Wd) (r : Nat) : ∀ k, (restIn D r k).length ≤ k
  | 0 => Nat.le_refl _
  | k + 1 => by
    unfold restIn
    have := restIn_len D r k
    rw [List.length_append]
    split <;> simp <;> omega
theorem restUp_len {D : Wd} (G : D.Good) : ∀ k, (restUp D k).length ≤ k * 100
  | 0 => Nat.le_refl _
  | k + 1 => by
    unfold restUp
    have := restUp_len G k
    have a := restIn_len D k (D.w k)
    have b := G.thin k
    rw [List.length_append]
    omega
theorem range_item {n : Int} {i : Nat} {x : V} (h : ((List.range n.toNat).map fun (k : Nat) => V.int (k : Int))[i]? = some x) : i < n.toNat ∧ x = .int (i : Int) := by
  rw [List.getElem?_map] at h
  obtain ⟨j, hj, rfl⟩ := Option.map_eq_some_iff.mp h
  obtain ⟨hlt, e⟩ := List.getElem?_eq_some_iff.mp hj
  simp at hlt e
  subst e
  exact ⟨by omega, rfl⟩
-- what the readers ask of the objects
structure World (D : Wd) (σ : Store) (wi wx dz dx ind : Addr) (fw fd : List (PySem.Str × V)) : Prop where
  wi : σ wi = some (.inst 267 wx)
  wa : σ wx = some (.attrs fw)
  di : σ dz = some (.inst 148 dx)
  da : σ dx = some (.attrs fd)
  nets : ∃ a l ep, fget fw "nets" = some (.ref a) ∧ σ a = some (.dict (mapI l) ep) ∧ ∀ r : Nat, r < D.n → ∃ b, dget l (r : Int) = some (.ref b) ∧ σ b = some (.list (D.netList r))
  drivers : ∃ a l ep, fget fw "drivers" = some (.ref a) ∧ σ a = some (.dict (mapT l) ep) ∧ (∀ r b : Nat, r < D.n → b < D.w r → match dget l [(r : Int), (b : Int)] with
    | some v => ∃ x, v = .ref x ∧ σ x = some (.list ((D.src (D.net r b)).map .int))
    | none => D.src (D.net r b) = []) ∧ (∀ p ∈ l, ∃ r b : Nat, p.1 = [(r : Int), (b : Int)] ∧ r < D.n ∧ b < D.w r) ∧ l.length ≤ 100
  pulls : ∃ a l ep, fget fw "pulls" = some (.ref a) ∧ σ a = some (.dict (mapT l) ep) ∧ ∀ r b : Nat, r < D.n → b < D.w r → (dget l [(r : Int), (b : Int)]).isSome = D.pulled r b
  signals : ∃ a xs, fget fd "signals" = some (.ref a) ∧ σ a = some (.list xs) ∧ xs.length = D.n ∧ ∀ (r : Nat) x, xs[r]? = some x → ∃ s sx fs, x = .ref s ∧ σ s = some (.inst 85 sx) ∧ σ sx = some (.attrs fs) ∧ fget fs "kind" = some (.str (D.kind r)) ∧ fget fs "key" = some (.int r)
  inputs : ∃ l ep, σ ind = some (.dict (mapI l) ep) ∧ ∀ r : Nat, r < D.n → (dget l (r : Int)).isSome = D.isIn r

-- a dict of nets to their sources
noncomputable def Found (D : Wd) (σ : Store) (a : Addr) (ks : List Int) : Prop := ∃ l ep, σ a = some (.dict (mapI l) ep) ∧ l.map (·.1) = ks ∧ ∀ p ∈ l, ∃ x, p.2 = .ref x ∧ σ x = some (.list ((D.src p.1).map .int))

theorem dset_new {K α : Type} [DecidableEq K] {l : List (K × α)} {k : K} {v : α} (h : k ∉ l.map (·.1)) : dset l k v = l ++ [(k, v)] := by
  unfold dset
  rw [if_neg]
  rw [List.any_eq_true]
  rintro ⟨p, hp, e⟩
  have : p.1 = k := by simpa using e
  exact h (this ▸ List.mem_map_of_mem hp)

section
variable {P : Pg} {d : Nat} {σ : Store} {Q : V → Store → Prop}
theorem rest_leaf (F : Facts P.K) {D : Wd} (G : D.Good) {wi wx dz dx ind : Addr} {fw fd : List (PySem.Str × V)} (W : World D σ wi wx dz dx ind fw fd)
    (h : ∀ (r : Addr) (σ' : Store), Ext σ σ' → σ r = none → Found D σ' r D.rest → Q (.ref r) σ') :
    LeafC P (d + 1) (.ref 28) [.ref wi, .ref dz, .ref ind] σ (asV Q) := by
  refine fn_callC (exV := []) (ex := []) F.rest.fn ["wires", "design", "inputs"] ?_ (fun h => VRs_nil.mpr rfl) (fun c hd => ?_) (by decide +kernel) (by kernel_rfl) (by kernel_rfl) (by kernel_rfl)
  · intro name kV doc pm an cdv ct us s hl _
    obtain ⟨a, b, c, rfl⟩ := len3 hl
    exact BindsTo.of_eq (by kernel_rfl)
  · show WB c _ (setL (setL (setL emp "wires" (.ref wi)) "design" (.ref dz)) "inputs" (.ref ind)) σ _
    ((show WB _ _ _ _ _; refine b_cons ?_))
    refine x_assign ?_
    (repeat walk_at "e")
    intro f hf
    obtain ⟨sl, xs, hs1, hs2, hs3, hs4⟩ := W.signals
    ((show WB _ _ _ _ _; refine b_cons ?_))
    refine x_for ?_
    (repeat walk_at "e")
    refine lf_getattr F.cD (attr_no F.cDa (by decide +kernel)) (Ext.new hf _ _ W.di) (Ext.new hf _ _ W.da) hs1 ?_
    let J : Nat → Loc → Store → Prop := fun i m' σ' => Ext σ σ' ∧ Found D σ' f (D.nets (restUp D i)) ∧ m' "wires" = some (.ref wi) ∧ m' "inputs" = some (.ref ind) ∧ m' "found" = some (.ref f)
    refine ⟨_, _, iter_list (Ext.new hf _ _ hs2), J, ?_, ?_, ?_, ?_⟩
    · exact ⟨Ext.new hf, ⟨[], 0, upd_self _ _ _, rfl, fun p hp => by cases hp⟩, by walk_at "lk", by walk_at "lk", by walk_at "lk"⟩
    · rintro i m' σ' ⟨e, _⟩; exact e _ _ hs2
    · rintro c' hd' i x m' σ' hx ⟨e, hF, l1, l2, l3⟩
      obtain ⟨s, sx, fs, rfl, s1, s2, s3, s4⟩ := hs4 i x hx
      have hi : i < D.n := by rw [← hs3]; exact (List.getElem?_eq_some_iff.mp hx).1
      have step : D.kok i = false ∨ D.isIn i = true → restUp D (i + 1) = restUp D i := fun hno => by
        have : restIn D i (D.w i) = [] := by
          apply List.eq_nil_iff_forall_not_mem.mpr
          intro p hp
          have := (mem_restIn.mp hp).2.2
          unfold Wd.ok at this
          rcases hno with z | z <;> rw [z] at this <;> simp at this
        show restUp D i ++ _ = _
        rw [this, List.append_nil]
      refine a_name ?_
      ((show WB _ _ _ _ _; refine b_cons ?_))
      refine x_if ?_
      refine t_and ?_
      refine ts_cons ?_
      (repeat walk_at "e")
      refine lf_getattr F.cS (attr_no F.cSa (by decide +kernel)) (e _ _ s1) (e _ _ s2) s3 ?_
      (repeat walk_at "e")
      refine ⟨by simp, ?_⟩
      refine lf_inS (xs := ["wire", "tri", "wand", "wor"]) (bIf (fun q => ?_) fun q => ?_)
      · refine ts_cons ?_
        (repeat walk_at "e")
        refine lf_getattr F.cS (attr_no F.cSa (by decide +kernel)) (e _ _ s1) (e _ _ s2) s4 ?_
        (repeat walk_at "e")
        obtain ⟨il, iep, i1, i2⟩ := W.inputs
        refine lf_ninI (e _ _ i1) (bIf (fun q2 => ?_) fun q2 => ?_)
        · rw [i2 i hi] at q2
          refine ts_nil ?_
          ((show WB _ _ _ _ _; refine b_cons ?_))
          refine x_assign ?_
          (repeat walk_at "e")
          obtain ⟨na, nl, nep, n1, n2, n3⟩ := W.nets
          refine lf_getattr F.cW (attr_no F.cWa (by decide +kernel)) (e _ _ W.wi) (e _ _ W.wa) n1 ?_
          (repeat walk_at "e")
          refine lf_getattr F.cS (attr_no F.cSa (by decide +kernel)) (e _ _ s1) (e _ _ s2) s4 ?_
          obtain ⟨b, n4, n5⟩ := n3 i hi
          refine lf_itemI (e _ _ n2) n4 ?_
          ((show WB _ _ _ _ _; refine b_cons ?_))
          refine x_for ?_
          (refine e_callB bt_range callee_type (Facts.b_range (by assumption)) ?_)
          (repeat walk_at "e")
          (refine e_callB bt_len callee_builtin (Facts.b_len (by assumption)) ?_)
          (repeat walk_at "e")
          have hlen : (D.netList i).length = D.w i := by unfold Wd.netList; simp
          have hw := G.thin i
          refine lf_len_list (e _ _ n5) (by rw [hlen]; omega) ?_
          (repeat walk_at "e")
          refine lf_range fun ra hra => ?_
          let J : Nat → Loc → Store → Prop := fun j m' σ' => Ext σ σ' ∧ Found D σ' f (D.nets (restUp D i ++ restIn D i j)) ∧ m' "wires" = some (.ref wi) ∧ m' "inputs" = some (.ref ind) ∧ m' "found" = some (.ref f) ∧ m' "nets" = some (.ref b) ∧ m' "signal" = some (.ref s)
          refine ⟨_, _, iter_range (upd_self _ _ _) (by omega) (by rw [hlen]; omega), J, ?_, ?_, ?_, ?_⟩
          · refine ⟨e.trans (Ext.new hra), ?_, ?_, ?_, ?_, ?_, ?_⟩
            · obtain ⟨l, ep, h1, h2, h3⟩ := hF
              exact ⟨l, ep, Ext.new hra _ _ h1, by rw [h2]; simp [restIn], fun p hp => by obtain ⟨x, a1, a2⟩ := h3 p hp; exact ⟨x, a1, Ext.new hra _ _ a2⟩⟩
            all_goals walk_at "lk"
          · intros; trivial
          · rintro c' hd' j x m' σ' hx ⟨e, hF, l1, l2, l3, l4, l5⟩
            obtain ⟨hj, rfl⟩ := range_item hx
            have hj : j < D.w i := by rw [hlen] at hj; omega
            refine a_name ?_
            ((show WB _ _ _ _ _; refine b_cons ?_))
            refine x_if ?_
            (repeat walk_at "e")
            refine lf_getattr F.cS (attr_no F.cSa (by decide +kernel)) (e _ _ s1) (e _ _ s2) s4 ?_
            (repeat walk_at "e")
            refine ⟨by simp, ?_⟩
            (repeat walk_at "e")
            obtain ⟨pa, pl, pep, p1, p2, p3⟩ := W.pulls
            refine lf_getattr F.cW (attr_no F.cWa (by decide +kernel)) (e _ _ W.wi) (e _ _ W.wa) p1 ?_
            refine lf_ninT (k := [(i : Int), (j : Int)]) (e _ _ p2) (bIf (fun q3 => ?_) fun q3 => ?_)
            · rw [p3 i j hi hj] at q3
              have hok : D.ok i j = true := by
                unfold Wd.ok
                have q' : D.kok i = true := q
                rw [q', q2, q3]; rfl
              ((show WB _ _ _ _ _; refine b_cons ?_))
              refine x_assign_sub ?_
              refine e_meth ?_
              (repeat walk_at "e")
              obtain ⟨da, dl, dep, d1, d2, d3, _⟩ := W.drivers
              refine lf_getattr F.cW (attr_no F.cWa (by decide +kernel)) (e _ _ W.wi) (e _ _ W.wa) d1 ?_
              refine ⟨_, m_get (e _ _ d2), ?_⟩
              (repeat walk_at "e")
              refine lf_getattr F.cS (attr_no F.cSa (by decide +kernel)) (e _ _ s1) (e _ _ s2) s4 ?_
              (repeat walk_at "e")
              refine ⟨by simp, ?_⟩
              (repeat walk_at "e")
              refine ⟨by simp, fun el hel => ?_⟩
              (repeat walk_at "e")
              have e' := e.trans (Ext.new (o := .list []) hel)
              have key : ∃ x, (dget dl [(i : Int), (j : Int)]).getD (.ref el) = .ref x ∧ upd σ' el (.list []) x = some (.list ((D.src (D.net i j)).map .int)) := by
                have h2 := d3 i j hi hj
                cases z : dget dl [(i : Int), (j : Int)] with
                | none => rw [z] at h2; exact ⟨el, rfl, by rw [h2]; exact upd_self _ _ _⟩
                | some v => rw [z] at h2; obtain ⟨x, rfl, h3⟩ := h2; exact ⟨x, rfl, e' _ _ h3⟩
              obtain ⟨xa, kx, hxa⟩ := key
              refine lf_getT (k := [(i : Int), (j : Int)]) (e' _ _ d2) ?_
              rw [kx]
              (repeat walk_at "e")
              refine lf_item_list (x := .int (D.net i j)) (e' _ _ n5) (by omega) (by unfold Wd.netList; simp [hj]) (by omega) ?_
              obtain ⟨l, ep, h1, h2, h3⟩ := hF
              have hnew : D.net i j ∉ l.map (·.1) := by
                rw [h2]
                intro hm
                obtain ⟨p, hp, he⟩ := List.mem_map.mp hm
                rcases List.mem_append.mp hp with hp | hp
                · have hb := mem_restUp.mp hp
                  have := G.inj _ _ _ _ (by omega) hb.2.1 hi hj he
                  omega
                · have hb := mem_restIn.mp hp
                  have := G.inj _ _ _ _ (by omega) (by rw [hb.1]; omega) hi hj he
                  omega
              have hll : l.length ≤ 100000 := by
                have : l.length = (l.map (·.1)).length := by simp
                rw [this, h2]
                have a1 := restUp_len G i
                have a2 := restIn_len D i j
                have a3 := G.few
                simp [Wd.nets]
                have : i * 100 ≤ 100 * 100 := Nat.mul_le_mul_right _ (by omega)
                omega
              refine lf_setI (Ext.new hel _ _ h1) (by omega) fun ep' => ?_
              ((show WB _ [] _ _ _; refine b_nil ?_))
              ((show WB _ [] _ _ _; refine b_nil ?_))
              have hef : el ≠ f := fun z => by subst z; rw [h1] at hel; cases hel
              refine ⟨e'.set hf, ?_, ?_, ?_, ?_, ?_, ?_⟩
              · rw [dset_new hnew]
                refine ⟨_, ep', upd_self _ _ _, ?_, fun p hp => ?_⟩
                · show (l ++ _).map _ = _
                  rw [List.map_append, h2]
                  rw [show restIn D i (j + 1) = restIn D i j ++ (if D.ok i j = true then [(i, j)] else []) from rfl, if_pos hok]
                  simp [Wd.nets]
                · rcases List.mem_append.mp hp with hp | hp
                  · obtain ⟨x, a1, a2⟩ := h3 p hp
                    refine ⟨x, a1, ?_⟩
                    rw [upd_ne _ _ (fun z => by subst z; rw [h1] at a2; cases a2)]
                    exact Ext.new hel _ _ a2
                  · simp at hp
                    subst hp
                    refine ⟨xa, rfl, ?_⟩
                    rw [upd_ne _ _ (fun z => by subst z; rw [Ext.new hel _ _ h1] at hxa; cases hxa)]
                    exact hxa
              all_goals walk_at "lk"
            · ((show WB _ [] _ _ _; refine b_nil ?_))
              ((show WB _ [] _ _ _; refine b_nil ?_))
              rw [p3 i j hi hj] at q3
              have hok : ¬ D.ok i j = true := by
                unfold Wd.ok
                have : D.pulled i j = true := by simpa using q3
                rw [this]; simp
              refine ⟨e, ?_, ?_, ?_, ?_, ?_, ?_⟩
              · unfold restIn
                rw [if_neg hok, List.append_nil]
                exact hF
              all_goals walk_at "lk"
          · rintro m' σ' ⟨e, hF, l1, l2, l3, l4, l5⟩
            ((show WB _ [] _ _ _; refine b_nil ?_))
            ((show WB _ [] _ _ _; refine b_nil ?_))
            refine ⟨e, ?_, l1, l2, l3⟩
            have hk : ((List.range (((D.netList i).length : Int).toNat)).map fun (k : Nat) => V.int (k : Int)).length = D.w i := by simp [hlen]
            rw [hk] at hF
            exact hF
        · ((show WB _ [] _ _ _; refine b_nil ?_))
          ((show WB _ [] _ _ _; refine b_nil ?_))
          rw [i2 i hi] at q2
          exact ⟨e, by rw [step (.inr (by simpa using q2))]; exact hF, by walk_at "lk", by walk_at "lk", by walk_at "lk"⟩
      · ((show WB _ [] _ _ _; refine b_nil ?_))
        ((show WB _ [] _ _ _; refine b_nil ?_))
        exact ⟨e, by rw [step (.inl q)]; exact hF, by walk_at "lk", by walk_at "lk", by walk_at "lk"⟩
    · rintro m' σ' ⟨e, hF, l1, l2, l3⟩
      rw [hs3] at hF
      ((show WB _ _ _ _ _; refine b_cons ?_))
      refine x_return ?_
      (repeat walk_at "e")
      exact h f σ' e hf hF
end

-- part W3
section
variable {K α : Type} [DecidableEq K]
theorem dget_key {l : List (K × α)} {k : K} (h : k ∈ l.map (·.1)) : ∃ v, dget l k = some v ∧ (k, v) ∈ l := by
  induction l with
  | nil => cases h
  | cons p r ih =>
    obtain ⟨a, b⟩ := p
    by_cases q : a = k
    · subst q; exact ⟨b, by simp [dget], .head _⟩
    · have h' : k ∈ r.map (·.1) := by
        rcases List.mem_cons.mp h with e | e
        · exact absurd e.symm q
        · exact e
      obtain ⟨v, h1, h2⟩ := ih h'
      exact ⟨v, by simpa [dget, List.find?_cons, q] using h1, .tail _ h2⟩
theorem dget_keys {l : List (K × α)} {k : K} : (dget l k).isSome = decide (k ∈ l.map (·.1)) := by
  rw [dget_isSome]
  by_cases h : k ∈ l.map (·.1)
  · rw [decide_eq_true h]
    obtain ⟨v, _, hm⟩ := dget_key h
    exact List.any_eq_true.mpr ⟨_, hm, by simp⟩
  · rw [decide_eq_false h]
    rw [List.any_eq_false]
    intro p hp e
    have : p.1 = k := by simpa using e
    exact h (this ▸ List.mem_map_of_mem hp)
end
noncomputable def Closed (src : Int → List Int) (ks : List Int) : Prop := ∀ k ∈ ks, ∀ y ∈ src k, y ∈ ks
-- the greatest closed part of all
structure Great (src : Int → List Int) (all ks : List Int) : Prop where
  sub : ∀ k ∈ ks, k ∈ all
  nodup : ks.Nodup
  closed : Closed src ks
  great : ∀ S : List Int, (∀ k ∈ S, k ∈ all) → Closed src S → ∀ k ∈ S, k ∈ ks
noncomputable def goodK (src : Int → List Int) (ks : List Int) (k : Int) : Bool := (src k).all fun y => decide (y ∈ ks)

theorem take_next {α : Type} {l : List α} {i : Nat} {x : α} (h : l[i]? = some x) : l.take (i + 1) = l.take i ++ [x] := by
  rw [List.take_add_one, h]; rfl

section
variable {P : Pg} {d : Nat} {σ : Store} {Q : V → Store → Prop}
theorem floating_leaf (F : Facts P.K) {D : Wd} (G : D.Good) {wi wx dz dx ind : Addr} {fw fd : List (PySem.Str × V)} (W : World D σ wi wx dz dx ind fw fd) (hsrc : ∀ k, (D.src k).length ≤ 100000)
    (h : ∀ (r : Addr) (l : List (Int × V)) (ep : Nat) (σ' : Store), Ext σ σ' → σ r = none → σ' r = some (.dict (mapI l) ep) → Great D.src D.rest (l.map (·.1)) → Q (.ref r) σ') :
    LeafC P (d + 2) (.ref 33) [.ref wi, .ref dz, .ref ind] σ (asV Q) := by
  refine fn_callC (exV := []) (ex := []) F.floating.fn ["wires", "design", "inputs"] ?_ (fun h => VRs_nil.mpr rfl) (fun c hd => ?_) (by decide +kernel) (by kernel_rfl) (by kernel_rfl) (by kernel_rfl)
  · intro name kV doc pm an cdv ct us s hl _
    obtain ⟨a, b, c, rfl⟩ := len3 hl
    exact BindsTo.of_eq (by kernel_rfl)
  · show WB c _ (setL (setL (setL emp "wires" (.ref wi)) "design" (.ref dz)) "inputs" (.ref ind)) σ _
    ((show WB _ _ _ _ _; refine b_cons ?_))
    refine x_assign ?_
    refine e_call F.gcan_rest F.rest.keep ?_
    (repeat walk_at "e")
    rw [hd]
    refine (rest_leaf F G W fun r0 σ1 e1 hr0 hF => ?_).leaf
    ((show WB _ _ _ _ _; refine b_cons ?_))
    refine x_assign ?_
    (repeat walk_at "e")
    ((show WB _ _ _ _ _; refine b_cons ?_))
    refine x_assign ?_
    (repeat walk_at "e")
    have nodup_rest : D.rest.Nodup := nodup_nets G (nodup_restUp _) fun p hp => by have := mem_restUp.mp hp; exact ⟨this.1, this.2.1⟩
    have rest_len : D.rest.length ≤ 100000 := by
      have a1 := restUp_len G D.n
      have a3 := G.few
      have : D.n * 100 ≤ 100 * 100 := Nat.mul_le_mul_right _ a3
      show (D.nets _).length ≤ _
      simp [Wd.nets]
      omega
    ((show WB _ _ _ _ _; refine b_cons ?_))
    let J : Nat → Loc → Store → Prop := fun n m' σ' => ∃ f b ks l ep, n = (if b = true then ks.length + 1 else 0) ∧ Ext σ σ' ∧ σ r0 = none ∧ Found D σ' r0 D.rest ∧ σ f = none ∧ σ' f = some (.dict (mapI l) ep) ∧ l.map (·.1) = ks ∧
      m' "drivers" = some (.ref r0) ∧ m' "floating" = some (.ref f) ∧ m' "shrunk" = some (.bool b) ∧ (∀ k ∈ ks, k ∈ D.rest) ∧ ks.Nodup ∧ (b = false → Closed D.src ks) ∧ (∀ S : List Int, (∀ k ∈ S, k ∈ D.rest) → Closed D.src S → ∀ k ∈ S, k ∈ ks)
    refine x_while J
      (n := D.rest.length + 1) ?_ ?_
    · obtain ⟨l, ep, h1, h2, h3⟩ := hF
      exact ⟨r0, true, D.rest, l, ep, rfl, e1, hr0, ⟨l, ep, h1, h2, h3⟩, hr0, h1, h2, by walk_at "lk", by walk_at "lk", by walk_at "lk", fun k hk => hk, nodup_rest, (fun z => by cases z), fun S hS _ k hk => hS k hk⟩
    · rintro n m' σ' ⟨f, b, ks, l, ep, hn, e, _, hF, hf, hfl, hk, l1, l2, l3, i1, i2, i3, i4⟩
      refine t_value ?_
      (repeat walk_at "e")
      refine lf_tbool ?_
      cases b with
      | false =>
        simp only [Bool.false_eq_true, if_false]
        ((show WB _ _ _ _ _; refine b_cons ?_))
        refine x_return ?_
        (repeat walk_at "e")
        exact h f l ep σ' e hf hfl ⟨by rw [hk]; exact i1, by rw [hk]; exact i2, by rw [hk]; exact i3 rfl, by rw [hk]; exact i4⟩
      | true =>
        simp only [if_true]
        have ks_len : ks.length ≤ D.rest.length := i2.length_le_of_subset i1
        ((show WB _ _ _ _ _; refine b_cons ?_))
        refine x_assign ?_
        (repeat walk_at "e")
        intro kp hkp
        have hkf : kp ≠ f := fun z => by subst z; rw [hfl] at hkp; cases hkp
        ((show WB _ _ _ _ _; refine b_cons ?_))
        refine x_for ?_
        (repeat walk_at "e")
        let J : Nat → Loc → Store → Prop := fun i m2 σ2 => Ext σ' σ2 ∧ (∃ lk ep', σ2 kp = some (.dict (mapI lk) ep') ∧ lk.map (·.1) = (ks.take i).filter (goodK D.src ks)) ∧ m2 "drivers" = some (.ref r0) ∧ m2 "floating" = some (.ref f) ∧ m2 "kept" = some (.ref kp)
        refine ⟨_, _, iter_dict (Ext.new hkp _ _ hfl), J, ?_, ?_, ?_, ?_⟩
        · exact ⟨Ext.new hkp, ⟨[], 0, upd_self _ _ _, by simp⟩, by walk_at "lk", by walk_at "lk", by walk_at "lk"⟩
        · rintro i m2 σ2 ⟨e2, _⟩; exact e2 _ _ hfl
        · rintro c' hd' i x m2 σ2 hx ⟨e2, ⟨lk, ep', hk1, hk2⟩, l4, l5, l6⟩
          rw [mapI_keys, hk, List.getElem?_map] at hx
          obtain ⟨k, hki, rfl⟩ := Option.map_eq_some_iff.mp hx
          have hkm : k ∈ ks := List.mem_of_getElem? hki
          obtain ⟨dl, dep, hF1, hF2, hF3⟩ := hF
          obtain ⟨v, hv1, hv2⟩ := dget_key (l := dl) (k := k) (by rw [hF2]; exact i1 k hkm)
          obtain ⟨x, rfl, hx2⟩ := hF3 _ hv2
          refine a_name ?_
          ((show WB _ _ _ _ _; refine b_cons ?_))
          refine x_if ?_
          (repeat walk_at "e")
          (refine e_callB bt_len callee_builtin (Facts.b_len (by assumption)) ?_)
          refine es_cons (e_listcomp ?_)
          (repeat walk_at "e")
          refine lf_itemI (e2 _ _ hF1) hv1 ?_
          let J : Nat → List V → Store → Prop := fun j acc σ3 => Ext σ' σ3 ∧ Ext σ2 σ3 ∧ j ≤ (D.src k).length ∧ acc = (((D.src k).take j).filter fun y => !decide (y ∈ ks)).map .int
          refine ⟨_, _, iter_list (e2 _ _ hx2), J, ?_, ?_, ?_, ?_⟩
          · exact ⟨e2, Ext.refl _, Nat.zero_le _, by simp⟩
          · rintro j acc σ3 ⟨e3, e3', hj, rfl⟩
            refine ⟨e3 _ _ hx2, ?_⟩
            rw [List.length_map]
            exact Nat.le_trans (List.length_filter_le _ _) (Nat.le_trans (List.length_take_le' _ _) (by have := hsrc k; omega))
          · rintro j z acc σ3 hz ⟨e3, e3', hj, rfl⟩ c2 hd2
            rw [List.getElem?_map] at hz
            obtain ⟨y, hy, rfl⟩ := Option.map_eq_some_iff.mp hz
            have hlt := (List.getElem?_eq_some_iff.mp hy).1
            show WT _ _ _ _ _
            (repeat walk_at "e")
            refine lf_ninI (e3 _ _ hfl) ?_
            rw [dget_keys, hk]
            refine bIf (fun q => ?_) fun q => ?_
            · intro c3 hd3
              (repeat walk_at "e")
              refine ⟨e3, e3', hlt, ?_⟩
              rw [take_next hy, List.filter_append]
              simp [q]
            · refine ⟨e3, e3', hlt, ?_⟩
              rw [take_next hy, List.filter_append]
              have : (decide (y ∈ ks)) = true := by simpa using q
              simp [this]
          · rintro acc σ3 ⟨e3, e3', hj, rfl⟩ a ha
            (repeat walk_at "e")
            have hall : ((D.src k).map V.int).length = (D.src k).length := by simp
            rw [hall, List.take_length]
            have hlen : (((D.src k).filter fun y => !decide (y ∈ ks)).map V.int).length ≤ 1000000 := by
              rw [List.length_map]
              exact Nat.le_trans (List.length_filter_le _ _) (Nat.le_trans (hsrc k) (by omega))
            refine lf_len_list (upd_self _ _ _) hlen ?_
            (repeat walk_at "e")
            have hgood : ((((((D.src k).filter fun y => !decide (y ∈ ks)).map V.int).length : Nat) : Int) == 0) = goodK D.src ks k := by
              rw [List.length_map]
              unfold goodK
              generalize D.src k = L
              induction L with
              | nil => rfl
              | cons y r ih =>
                by_cases q : y ∈ ks
                · simp only [List.filter_cons, q, decide_true, Bool.not_true, Bool.false_eq_true, if_false, List.all_cons, Bool.true_and]; exact ih
                · simp only [List.filter_cons, q, decide_false, Bool.not_false, if_true, List.all_cons, Bool.false_and, List.length_cons]
                  rw [beq_eq_false_iff_ne]; omega
            refine lf_eqi ?_
            rw [hgood]
            have ek : Ext σ' (upd σ3 a (.list (((D.src k).filter fun y => !decide (y ∈ ks)).map V.int))) := e3.trans (Ext.new ha)
            have hk1' : upd σ3 a (.list (((D.src k).filter fun y => !decide (y ∈ ks)).map V.int)) kp = some (.dict (mapI lk) ep') := Ext.new ha _ _ (e3' _ _ hk1)
            refine bIf (fun q => ?_) fun q => ?_
            · ((show WB _ _ _ _ _; refine b_cons ?_))
              refine x_assign_sub ?_
              (repeat walk_at "e")
              have hnew : k ∉ lk.map (·.1) := by
                rw [hk2]
                intro hm
                obtain ⟨j, hj⟩ := List.getElem?_of_mem (List.mem_filter.mp hm).1
                have hji : j < i := by
                  have := (List.getElem?_eq_some_iff.mp hj).1
                  rw [List.length_take] at this; omega
                rw [List.getElem?_take_of_lt hji] at hj
                have := (List.getElem?_inj (by exact (List.getElem?_eq_some_iff.mp hj).1) i2).mp (hj.trans hki.symm)
                omega
              have hll : lk.length ≤ 1000000 := by
                have : lk.length = (lk.map (·.1)).length := by simp
                rw [this, hk2]
                exact Nat.le_trans (List.length_filter_le _ _) (Nat.le_trans (List.length_take_le' _ _) (by omega))
              refine lf_setI hk1' hll fun ep2 => ?_
              ((show WB _ [] _ _ _; refine b_nil ?_))
              ((show WB _ [] _ _ _; refine b_nil ?_))
              refine ⟨ek.set hkp, ⟨_, ep2, upd_self _ _ _, ?_⟩, ?_, ?_, ?_⟩
              · rw [dset_new hnew, List.map_append, hk2, take_next hki, List.filter_append]
                simp [q]
              all_goals walk_at "lk"
            · ((show WB _ [] _ _ _; refine b_nil ?_))
              ((show WB _ [] _ _ _; refine b_nil ?_))
              refine ⟨ek, ⟨lk, ep', hk1', ?_⟩, ?_, ?_, ?_⟩
              · rw [hk2, take_next hki, List.filter_append]
                simp [q]
              all_goals walk_at "lk"
        · rintro m2 σ2 ⟨e2, ⟨lk, ep', hk1, hk2⟩, l4, l5, l6⟩
          have hall : ((mapI l).map (·.1)).length = ks.length := by rw [mapI_keys, hk]; simp
          rw [hall, List.take_length] at hk2
          have lkl : lk.length = (ks.filter (goodK D.src ks)).length := by rw [← hk2]; simp
          have lfl : (ks.filter (goodK D.src ks)).length ≤ ks.length := List.length_filter_le _ _
          have ll : l.length = ks.length := by rw [← hk]; simp
          ((show WB _ _ _ _ _; refine b_cons ?_))
          refine x_assign ?_
          (repeat walk_at "e")
          (refine e_callB bt_len callee_builtin (Facts.b_len (by assumption)) ?_)
          (repeat walk_at "e")
          refine lf_lenD hk1 (by omega) ?_
          (repeat walk_at "e")
          (refine e_callB bt_len callee_builtin (Facts.b_len (by assumption)) ?_)
          (repeat walk_at "e")
          refine lf_lenD (e2 _ _ hfl) (by omega) ?_
          refine lf_lti ?_
          ((show WB _ _ _ _ _; refine b_cons ?_))
          refine x_assign ?_
          (repeat walk_at "e")
          ((show WB _ [] _ _ _; refine b_nil ?_))
          have hmem : ∀ k, k ∈ ks.filter (goodK D.src ks) ↔ k ∈ ks ∧ ∀ y ∈ D.src k, y ∈ ks := fun k => by
            rw [List.mem_filter]; unfold goodK; simp
          have hshr : (decide ((lk.length : Int) < l.length) = false) → ks.filter (goodK D.src ks) = ks := fun q => by
            have : ¬ ((lk.length : Int) < l.length) := by simpa using q
            exact List.filter_eq_self.mpr (by
              have e1 : (ks.filter (goodK D.src ks)).length = ks.length := by omega
              exact List.length_filter_eq_length_iff.mp e1)
          refine ⟨if decide ((lk.length : Int) < l.length) = true then (ks.filter (goodK D.src ks)).length + 1 else 0, ?_, kp, decide ((lk.length : Int) < l.length), ks.filter (goodK D.src ks), lk, ep', rfl, e.trans e2, hr0, ?_, e.isNone hkp, hk1, hk2, ?_, ?_, ?_, ?_, ?_, ?_, ?_⟩
          · rw [hn, if_pos rfl]
            split
            · rename_i q
              have : (lk.length : Int) < l.length := by simpa using q
              omega
            · omega
          · obtain ⟨dl, dep, hF1, hF2, hF3⟩ := hF
            exact ⟨dl, dep, e2 _ _ hF1, hF2, fun p hp => by obtain ⟨x, a1, a2⟩ := hF3 p hp; exact ⟨x, a1, e2 _ _ a2⟩⟩
          · walk_at "lk"
          · walk_at "lk"
          · walk_at "lk"
          · intro k hk'; exact i1 k ((hmem k).mp hk').1
          · exact i2.filter _
          · intro q k hk' y hy
            rw [hshr q] at hk' ⊢
            have := hshr q
            have hk2' : k ∈ ks.filter (goodK D.src ks) := by rw [this]; exact hk'
            exact ((hmem k).mp hk2').2 y hy
          · intro S hS hC k hkS
            exact (hmem k).mpr ⟨i4 S hS hC k hkS, fun y hy => i4 S hS hC y (hC k hkS y hy)⟩
end

-- part W4
theorem not_f {b : Bool} (h : (!b) = false) : b = true := by cases b <;> simp_all
-- users
noncomputable def useOf (E : List (Int × Int)) (k : Int) : List Int := (E.filter fun p => p.1 == k).map (·.2)
theorem mem_useOf {E : List (Int × Int)} {k x : Int} : x ∈ useOf E k ↔ (k, x) ∈ E := by
  unfold useOf
  simp only [List.mem_map, List.mem_filter]
  constructor
  · rintro ⟨⟨a, b⟩, ⟨h1, h2⟩, rfl⟩
    have : a = k := by simpa using h2
    subst this; exact h1
  · intro h; exact ⟨(k, x), ⟨h, by simp⟩, rfl⟩
theorem useOf_self (E : List (Int × Int)) (k x : Int) : useOf (E ++ [(k, x)]) k = useOf E k ++ [x] := by
  unfold useOf; simp [List.filter_append]
theorem useOf_ne (E : List (Int × Int)) {k k' : Int} (x : Int) (h : k' ≠ k) : useOf (E ++ [(k, x)]) k' = useOf E k' := by
  unfold useOf
  have : ((k == k') = false) := by simpa using fun e => h e.symm
  simp [List.filter_append, this]
theorem useOf_len (E : List (Int × Int)) (k : Int) : (useOf E k).length ≤ E.length := by
  unfold useOf; rw [List.length_map]; exact List.length_filter_le _ _

structure UsersL (σ0 σ : Store) (u : Addr) (E : List (Int × Int)) (l : List (Int × V)) : Prop where
  ext : Ext σ0 σ
  new : σ0 u = none
  dict : ∃ ep, σ u = some (.dict (mapI l) ep)
  at_ : ∀ k, match dget l k with
    | some v => ∃ a, v = .ref a ∧ σ a = some (.list ((useOf E k).map .int)) ∧ σ0 a = none
    | none => useOf E k = []
  inj : ∀ k k' a, dget l k = some (.ref a) → dget l k' = some (.ref a) → k = k'

theorem dget_dset {K α : Type} [DecidableEq K] {l : List (K × α)} {k k' : K} {v : α} (h : dget l k = none) : dget (dset l k v) k' = if k' = k then some v else dget l k' := by
  have hn : k ∉ l.map (·.1) := fun hm => by obtain ⟨w, e, _⟩ := dget_key hm; rw [h] at e; cases e
  rw [dset_new hn]
  unfold dget
  rw [List.find?_append]
  by_cases q : k' = k
  · subst q
    have : l.find? (fun kv => decide (kv.1 = k')) = none := by
      unfold dget at h
      cases z : l.find? (fun kv => decide (kv.1 = k')) with
      | none => rfl
      | some w => rw [z] at h; cases h
    simp [this]
  · rw [if_neg q]
    cases z : l.find? (fun kv => decide (kv.1 = k')) with
    | some w => simp
    | none =>
      have : ¬ k = k' := fun e => q e.symm
      simp [this]

section
variable {P : Pg} {d : Nat} {σ0 σ : Store} {Q : V → Store → Prop} {u : Addr} {E : List (Int × Int)} {l : List (Int × V)}
theorem lf_useSet {k : Int} {e : Addr} (U : UsersL σ0 σ u E l) (he : σ e = none) (hl : l.length ≤ 1000000)
    (h : ∀ a l2 σ2, UsersL σ0 σ2 u E l2 → dget l2 k = some (.ref a) → l2.length ≤ l.length + 1 → Q (.ref a) σ2) : Leaf P d (callL (.builtin "dict.setdefault")) [.ref u, .int k, .ref e] (upd σ e (.list [])) (asV Q) := by
  obtain ⟨ep, hd⟩ := U.dict
  have heu : e ≠ u := fun z => by subst z; rw [hd] at he; cases he
  refine lf_setdefI (Ext.new he _ _ hd) hl (fun x hx => ?_) (fun hx ep' => ?_)
  · have h2 := U.at_ k
    rw [hx] at h2
    obtain ⟨a, rfl, h3, h4⟩ := h2
    refine h a l _ ⟨U.ext.trans (Ext.new he), U.new, ⟨ep, Ext.new he _ _ hd⟩, fun k' => ?_, U.inj⟩ hx (by omega)
    have h2 := U.at_ k'
    cases z : dget l k' with
    | none => rw [z] at h2; exact h2
    | some v => rw [z] at h2; obtain ⟨a', e1, e2, e3⟩ := h2; exact ⟨a', e1, Ext.new he _ _ e2, e3⟩
  · have he0 : σ0 e = none := U.ext.isNone he
    refine h e (dset l k (.ref e)) _ ⟨(U.ext.trans (Ext.new he)).set U.new, U.new, ⟨ep', upd_self _ _ _⟩, fun k' => ?_, fun k1 k2 a h1 h2 => ?_⟩ (by rw [dget_dset hx, if_pos rfl]) (dset_length_le _ _ _)
    · rw [dget_dset hx]
      by_cases q : k' = k
      · subst q
        rw [if_pos rfl]
        have h2 := U.at_ k'
        rw [hx] at h2
        refine ⟨e, rfl, ?_, he0⟩
        rw [upd_ne _ _ heu, upd_self, h2]; rfl
      · rw [if_neg q]
        have h2 := U.at_ k'
        cases z : dget l k' with
        | none => rw [z] at h2; exact h2
        | some v =>
          rw [z] at h2
          obtain ⟨a', e1, e2, e3⟩ := h2
          refine ⟨a', e1, ?_, e3⟩
          rw [upd_ne _ _ (fun z => by subst z; rw [hd] at e2; cases e2)]
          exact Ext.new he _ _ e2
    · rw [dget_dset hx] at h1 h2
      have key : ∀ k', dget l k' = some (.ref e) → False := fun k' z => by
        have h2 := U.at_ k'
        rw [z] at h2
        obtain ⟨a', e1, e2, e3⟩ := h2
        cases e1
        rw [he] at e2; cases e2
      by_cases q1 : k1 = k
      · by_cases q2 : k2 = k
        · rw [q1, q2]
        · rw [if_pos q1] at h1; rw [if_neg q2] at h2; cases h1; exact (key _ h2).elim
      · by_cases q2 : k2 = k
        · rw [if_neg q1] at h1; rw [if_pos q2] at h2; cases h2; exact (key _ h1).elim
        · rw [if_neg q1] at h1; rw [if_neg q2] at h2; exact U.inj _ _ _ h1 h2
theorem m_use {k : Int} {a : Addr} (U : UsersL σ0 σ u E l) (hk : dget l k = some (.ref a)) : Meth P d "append" (.ref a) σ (.builtin "list.append") := by
  have h2 := U.at_ k
  rw [hk] at h2
  obtain ⟨a', e1, e2, e3⟩ := h2
  cases e1
  exact m_append e2
theorem lf_useApp {k x : Int} {a : Addr} (U : UsersL σ0 σ u E l) (hk : dget l k = some (.ref a)) (hE : E.length ≤ 1000000) (h : ∀ σ2, UsersL σ0 σ2 u (E ++ [(k, x)]) l → Q .none σ2) :
    Leaf P d (callL (.builtin "list.append")) [.ref a, .int x] σ (asV Q) := by
  have h2 := U.at_ k
  rw [hk] at h2
  obtain ⟨a', e1, e2, e3⟩ := h2
  cases e1
  obtain ⟨ep, hd⟩ := U.dict
  have hau : u ≠ a := fun z => by subst z; rw [hd] at e2; cases e2
  have hlen := useOf_len E k
  refine lf_append e2 (by rw [List.length_map]; omega) (h _ ⟨U.ext.set e3, U.new, ⟨ep, by rw [upd_ne _ _ hau]; exact hd⟩, fun k' => ?_, U.inj⟩)
  by_cases q : k' = k
  · subst q
    rw [hk]
    refine ⟨a, rfl, ?_, e3⟩
    rw [upd_self, useOf_self]; simp
  · have h2 := U.at_ k'
    cases z : dget l k' with
    | none => rw [z] at h2; rw [useOf_ne _ _ q]; exact h2
    | some v =>
      rw [z] at h2
      obtain ⟨a', f1, f2, f3⟩ := h2
      subst f1
      refine ⟨a', rfl, ?_, f3⟩
      rw [upd_ne _ _ (fun w => q (U.inj _ _ a' z (by rw [w]; exact hk))), useOf_ne _ _ q]
      exact f2
end

-- the edges that net_users finds
noncomputable def cellE (c : PySem.Str × Int × List Int) : List (Int × Int) := if (["flop", "latch"] : List PySem.Str).any (· == c.1) = true then [] else c.2.2.map fun n => (n, c.2.1)
noncomputable def spotE (D : Wd) (fl : List Int) (r b : Nat) : List (Int × Int) := ((D.src (D.net r b)).filter fun y => !decide (y ∈ fl)).map fun n => (n, D.net r b)
noncomputable def keyE (D : Wd) (fl : List Int) : List Int → List (Int × Int)
  | [r, b] => spotE D fl r.toNat b.toNat
  | _ => []
theorem spotE_len (D : Wd) (fl : List Int) (r b : Nat) : (spotE D fl r b).length ≤ (D.src (D.net r b)).length := by
  unfold spotE; rw [List.length_map]; exact List.length_filter_le _ _
structure NetL (D : Wd) (σ : Store) (nl nx : Addr) (fn : List (PySem.Str × V)) : Prop where
  i : σ nl = some (.inst 232 nx)
  a : σ nx = some (.attrs fn)
  cells : ∃ c, fget fn "cells" = some (.ref c) ∧ σ c = some (.list (D.cells.map fun c => .tup [.str c.1, .int c.2.1, .tup (c.2.2.map .int), .none]))
structure FloatL (σ : Store) (fw : List (PySem.Str × V)) (fl : List Int) : Prop where
  f : ∃ a l ep, fget fw "floating" = some (.ref a) ∧ σ a = some (.dict (mapI l) ep) ∧ l.map (·.1) = fl

section
variable {P : Pg} {d : Nat} {σ : Store} {Q : V → Store → Prop}
theorem users_leaf (F : Facts P.K) {D : Wd} (G : D.Good) {wi wx dz dx ind nl nx : Addr} {fw fd fn : List (PySem.Str × V)} {fl : List Int} (W : World D σ wi wx dz dx ind fw fd) (NL : NetL D σ nl nx fn) (FL : FloatL σ fw fl)
    (hcl : D.cells.length ≤ 100) (hcw : ∀ c ∈ D.cells, c.2.2.length ≤ 100) (hsrc : ∀ k, (D.src k).length ≤ 100)
    (h : ∀ (u : Addr) (E : List (Int × Int)) (l : List (Int × V)) (σ' : Store), UsersL σ σ' u E l → E.length ≤ 20000 →
      (∀ k x, (k, x) ∈ E ↔ (∃ c ∈ D.cells, (k, x) ∈ cellE c) ∨ ∃ r b, r < D.n ∧ b < D.w r ∧ (k, x) ∈ spotE D fl r b) → Q (.ref u) σ') :
    LeafC P (d + 1) (.ref 278) [.ref wi, .ref nl] σ (asV Q) := by
  refine fn_callC (exV := []) (ex := []) F.users.fn ["wires", "netlist"] ?_ (fun h => VRs_nil.mpr rfl) (fun c hd => ?_) (by decide +kernel) (by kernel_rfl) (by kernel_rfl) (by kernel_rfl)
  · intro name kV doc pm an cdv ct us s hl _
    obtain ⟨a, b, rfl⟩ := len2 hl
    exact BindsTo.of_eq (by kernel_rfl)
  · show WB c _ (setL (setL emp "wires" (.ref wi)) "netlist" (.ref nl)) σ _
    ((show WB _ _ _ _ _; refine b_cons ?_))
    refine x_assign ?_
    (repeat walk_at "e")
    intro u hu
    obtain ⟨ca, c1, c2⟩ := NL.cells
    ((show WB _ _ _ _ _; refine b_cons ?_))
    refine x_for ?_
    (repeat walk_at "e")
    refine lf_getattr F.cN (attr_no F.cNa (by decide +kernel)) (Ext.new hu _ _ NL.i) (Ext.new hu _ _ NL.a) c1 ?_
    let J : Nat → Loc → Store → Prop := fun i m' σ' => ∃ l, UsersL σ σ' u ((D.cells.take i).flatMap cellE) l ∧ (l.length ≤ i * 100 ∧ ((D.cells.take i).flatMap cellE).length ≤ i * 100) ∧ m' "wires" = some (.ref wi) ∧ m' "users" = some (.ref u)
    refine ⟨_, _, iter_list (Ext.new hu _ _ c2), J, ?_, ?_, ?_, ?_⟩
    · exact ⟨[], ⟨Ext.new hu, hu, ⟨0, upd_self _ _ _⟩, fun k => rfl, fun k k' a z => by cases z⟩, by simp, by walk_at "lk", by walk_at "lk"⟩
    · rintro i m' σ' ⟨l, U, _⟩; exact U.ext _ _ c2
    · rintro c' hd' i x m' σ' hx ⟨l, U, ⟨hll, hel⟩, l1, l2⟩
      rw [List.getElem?_map] at hx
      obtain ⟨ce, hce, rfl⟩ := Option.map_eq_some_iff.mp hx
      obtain ⟨kind, out, ins⟩ := ce
      have hmem : (kind, out, ins) ∈ D.cells := List.mem_of_getElem? hce
      have hwid : ins.length ≤ 100 := hcw _ hmem
      have hi : i < D.cells.length := (List.getElem?_eq_some_iff.mp hce).1
      have hnext : (D.cells.take (i + 1)).flatMap cellE = (D.cells.take i).flatMap cellE ++ cellE (kind, out, ins) := by
        rw [take_next hce, List.flatMap_append]; simp
      refine a_tuple ?_
      refine a_name ?_
      refine a_name ?_
      refine a_name ?_
      refine a_name ?_
      ((show WB _ _ _ _ _; refine b_cons ?_))
      refine x_if ?_
      (repeat walk_at "e")
      refine ⟨by simp, ?_⟩
      refine lf_ninS (xs := ["flop", "latch"]) (bIf (fun q => ?_) fun q => ?_)
      · have hE : cellE (kind, out, ins) = ins.map fun n => (n, out) := by
          unfold cellE
          rw [if_neg (by intro z; have z' : (([Str.ofString "flop", Str.ofString "latch"] : List PySem.Str).any fun x => x == kind) = true := z; rw [z'] at q; cases q)]
        ((show WB _ _ _ _ _; refine b_cons ?_))
        refine x_for ?_
        (repeat walk_at "e")
        let J : Nat → Loc → Store → Prop := fun j m' σ' => ∃ l, UsersL σ σ' u ((D.cells.take i).flatMap cellE ++ (ins.take j).map fun n => (n, out)) l ∧ l.length ≤ i * 100 + j ∧ m' "wires" = some (.ref wi) ∧ m' "users" = some (.ref u) ∧ m' "out" = some (.int out)
        refine ⟨_, _, iter_tup, J, ?_, ?_, ?_, ?_⟩
        · exact ⟨l, by simpa using U, by omega, by walk_at "lk", by walk_at "lk", by walk_at "lk"⟩
        · intros; trivial
        · rintro c' hd' j x m' σ' hx ⟨l, U, hll, l1, l2, l3⟩
          rw [List.getElem?_map] at hx
          obtain ⟨y, hy, rfl⟩ := Option.map_eq_some_iff.mp hx
          have hj : j < ins.length := (List.getElem?_eq_some_iff.mp hy).1
          refine a_name ?_
          ((show WB _ _ _ _ _; refine b_cons ?_))
          refine x_expr ?_
          refine e_meth ?_
          refine e_meth ?_
          (repeat walk_at "e")
          obtain ⟨ep, hud⟩ := U.dict
          refine ⟨_, m_setdefault hud, ?_⟩
          (repeat walk_at "e")
          refine ⟨by simp, fun e he => ?_⟩
          (repeat walk_at "e")
          refine lf_useSet U he (by omega) fun a l2 σ2 U2 hk2 hl2 => ?_
          refine ⟨_, m_use U2 hk2, ?_⟩
          (repeat walk_at "e")
          refine lf_useApp U2 hk2 (by rw [List.length_append, List.length_map, List.length_take]; omega) fun σ3 U3 => ?_
          ((show WB _ [] _ _ _; refine b_nil ?_))
          refine ⟨l2, ?_, by omega, by walk_at "lk", by walk_at "lk", by walk_at "lk"⟩
          rw [take_next hy, List.map_append, ← List.append_assoc]
          exact U3
        · rintro m' σ' ⟨l, U, hll, l1, l2, l3⟩
          ((show WB _ [] _ _ _; refine b_nil ?_))
          ((show WB _ [] _ _ _; refine b_nil ?_))
          have hfull : (ins.map V.int).length = ins.length := by simp
          rw [hfull, List.take_length, ← hE, ← hnext] at U
          refine ⟨l, U, ⟨by rw [hfull] at hll; omega, ?_⟩, l1, l2⟩
          rw [hnext, List.length_append, hE, List.length_map]; omega
      · have hE : cellE (kind, out, ins) = [] := by
          unfold cellE
          rw [if_pos (not_f q)]
        ((show WB _ [] _ _ _; refine b_nil ?_))
        ((show WB _ [] _ _ _; refine b_nil ?_))
        refine ⟨l, by rw [hnext, hE, List.append_nil]; exact U, ⟨by omega, by rw [hnext, hE, List.append_nil]; omega⟩, by walk_at "lk", by walk_at "lk"⟩
    · rintro m' σ' ⟨l, U, ⟨hll, hel⟩, l1, l2⟩
      have hfull : (D.cells.map fun c => V.tup [.str c.1, .int c.2.1, .tup (c.2.2.map .int), .none]).length = D.cells.length := by simp
      rw [hfull] at U hll hel
      rw [List.take_length] at U hel
      generalize hE0 : D.cells.flatMap cellE = E0 at U hel
      obtain ⟨da, dl, dep, d1, d2, d3, d4, d5⟩ := W.drivers
      obtain ⟨fa, fl', fep, f1, f2, f3⟩ := FL.f
      obtain ⟨na, nl', nep, n1, n2, n3⟩ := W.nets
      ((show WB _ _ _ _ _; refine b_cons ?_))
      refine x_for ?_
      (repeat walk_at "e")
      refine lf_getattr F.cW (attr_no F.cWa (by decide +kernel)) (U.ext _ _ W.wi) (U.ext _ _ W.wa) d1 ?_
      let J : Nat → Loc → Store → Prop := fun i m' σ' => ∃ l, UsersL σ σ' u (E0 ++ ((dl.map (·.1)).take i).flatMap (keyE D fl)) l ∧ (l.length ≤ 10000 + i * 100 ∧ (((dl.map (·.1)).take i).flatMap (keyE D fl)).length ≤ i * 100) ∧ m' "wires" = some (.ref wi) ∧ m' "users" = some (.ref u)
      refine ⟨_, _, iter_dict (U.ext _ _ d2), J, ?_, ?_, ?_, ?_⟩
      · exact ⟨l, by simpa using U, ⟨by omega, by simp⟩, l1, l2⟩
      · rintro i m' σ' ⟨l, U, _⟩; exact U.ext _ _ d2
      · rintro c' hd' i x m' σ' hx ⟨l, U, ⟨hll, hel2⟩, l1, l2⟩
        rw [mapT_keys, List.getElem?_map] at hx
        obtain ⟨k, hk, rfl⟩ := Option.map_eq_some_iff.mp hx
        have hkm : k ∈ dl.map (·.1) := List.mem_of_getElem? hk
        obtain ⟨p, hp, hpk⟩ := List.mem_map.mp hkm
        obtain ⟨r, b, hrb, hr, hb⟩ := d4 p hp
        rw [hpk] at hrb
        subst hrb
        obtain ⟨v, hv1, hv2⟩ := dget_key hkm
        have hd3 := d3 r b hr hb
        rw [hv1] at hd3
        obtain ⟨xa, rfl, hxa⟩ := hd3
        have hi : i < dl.length := by have := (List.getElem?_eq_some_iff.mp hk).1; simpa using this
        have hnext : ((dl.map (·.1)).take (i + 1)).flatMap (keyE D fl) = ((dl.map (·.1)).take i).flatMap (keyE D fl) ++ spotE D fl r b := by
          rw [take_next hk, List.flatMap_append]; simp [keyE]
        have hs100 := hsrc (D.net r b)
        have hse := spotE_len D fl r b
        refine a_tuple (xs := [.int r, .int b]) ?_
        refine a_name ?_
        refine a_name ?_
        ((show WB _ _ _ _ _; refine b_cons ?_))
        refine x_for ?_
        (repeat walk_at "e")
        refine lf_getattr F.cW (attr_no F.cWa (by decide +kernel)) (U.ext _ _ W.wi) (U.ext _ _ W.wa) d1 ?_
        (repeat walk_at "e")
        refine ⟨by simp, ?_⟩
        refine lf_itemT (k := [(r : Int), (b : Int)]) (U.ext _ _ d2) hv1 ?_
        let J : Nat → Loc → Store → Prop := fun j m' σ' => ∃ l, UsersL σ σ' u (E0 ++ ((dl.map (·.1)).take i).flatMap (keyE D fl) ++ (((D.src (D.net r b)).take j).filter fun y => !decide (y ∈ fl)).map fun n => (n, D.net r b)) l ∧ l.length ≤ 10000 + i * 100 + j ∧ m' "wires" = some (.ref wi) ∧ m' "users" = some (.ref u) ∧ m' "key" = some (.int r) ∧ m' "bit" = some (.int b)
        refine ⟨_, _, iter_list (U.ext _ _ hxa), J, ?_, ?_, ?_, ?_⟩
        · exact ⟨l, by simpa using U, by omega, by walk_at "lk", by walk_at "lk", by walk_at "lk", by walk_at "lk"⟩
        · rintro j m' σ' ⟨l, U, _⟩; exact U.ext _ _ hxa
        · rintro c' hd' j x m' σ' hx ⟨l, U, hll, l1, l2, l3, l4⟩
          rw [List.getElem?_map] at hx
          obtain ⟨y, hy, rfl⟩ := Option.map_eq_some_iff.mp hx
          have hj : j < (D.src (D.net r b)).length := (List.getElem?_eq_some_iff.mp hy).1
          refine a_name ?_
          ((show WB _ _ _ _ _; refine b_cons ?_))
          refine x_if ?_
          (repeat walk_at "e")
          refine lf_getattr F.cW (attr_no F.cWa (by decide +kernel)) (U.ext _ _ W.wi) (U.ext _ _ W.wa) f1 ?_
          refine lf_ninI (U.ext _ _ f2) ?_
          rw [dget_keys, f3]
          refine bIf (fun q => ?_) fun q => ?_
          · ((show WB _ _ _ _ _; refine b_cons ?_))
            refine x_expr ?_
            refine e_meth ?_
            refine e_meth ?_
            (repeat walk_at "e")
            obtain ⟨ep, hud⟩ := U.dict
            refine ⟨_, m_setdefault hud, ?_⟩
            (repeat walk_at "e")
            refine ⟨by simp, fun e he => ?_⟩
            (repeat walk_at "e")
            refine lf_useSet U he (by omega) fun a l2 σ2 U2 hk2 hl2 => ?_
            refine ⟨_, m_use U2 hk2, ?_⟩
            (repeat walk_at "e")
            refine lf_getattr F.cW (attr_no F.cWa (by decide +kernel)) (U2.ext _ _ W.wi) (U2.ext _ _ W.wa) n1 ?_
            (repeat walk_at "e")
            obtain ⟨nb, hn1, hn2⟩ := n3 r hr
            refine lf_itemI (U2.ext _ _ n2) hn1 ?_
            (repeat walk_at "e")
            refine lf_item_list (x := .int (D.net r b)) (U2.ext _ _ hn2) (by omega) (by unfold Wd.netList; simp [hb]) (by have := G.thin r; omega) ?_
            (repeat walk_at "e")
            have hfl : ((((D.src (D.net r b)).take j).filter fun y => !decide (y ∈ fl)).map fun n => (n, D.net r b)).length ≤ 100 := by
              rw [List.length_map]
              exact Nat.le_trans (List.length_filter_le _ _) (Nat.le_trans (List.length_take_le' _ _) hs100)
            refine lf_useApp U2 hk2 (by rw [List.length_append, List.length_append]; omega) fun σ3 U3 => ?_
            ((show WB _ [] _ _ _; refine b_nil ?_))
            ((show WB _ [] _ _ _; refine b_nil ?_))
            refine ⟨l2, ?_, by omega, by walk_at "lk", by walk_at "lk", by walk_at "lk", by walk_at "lk"⟩
            rw [take_next hy, List.filter_append, List.map_append, ← List.append_assoc]
            simp [q]
            simpa using U3
          · ((show WB _ [] _ _ _; refine b_nil ?_))
            ((show WB _ [] _ _ _; refine b_nil ?_))
            refine ⟨l, ?_, by omega, by walk_at "lk", by walk_at "lk", by walk_at "lk", by walk_at "lk"⟩
            rw [take_next hy, List.filter_append, List.map_append, ← List.append_assoc]
            simp [q]
            simpa using U
        · rintro m' σ' ⟨l, U, hll, l1, l2, l3, l4⟩
          ((show WB _ [] _ _ _; refine b_nil ?_))
          have hfull : ((D.src (D.net r b)).map V.int).length = (D.src (D.net r b)).length := by simp
          rw [hfull] at U hll
          rw [List.take_length] at U
          refine ⟨l, ?_, ⟨by omega, ?_⟩, l1, l2⟩
          · rw [hnext, ← List.append_assoc]
            exact U
          · rw [hnext, List.length_append]; omega
      · rintro m' σ' ⟨l, U, ⟨hll, hel2⟩, l1, l2⟩
        have hfull : ((mapT dl).map (·.1)).length = (dl.map (·.1)).length := by rw [mapT_keys]; simp
        rw [hfull] at U hll hel2
        rw [List.take_length] at U hel2
        rw [List.length_map] at hel2
        ((show WB _ _ _ _ _; refine b_cons ?_))
        refine x_return ?_
        (repeat walk_at "e")
        refine h u _ l σ' U (by rw [List.length_append]; omega) fun k x => ?_
        rw [List.mem_append, ← hE0, List.mem_flatMap, List.mem_flatMap]
        refine or_congr Iff.rfl ⟨?_, ?_⟩
        · rintro ⟨kk, hkk, hx⟩
          obtain ⟨p, hp, hpk⟩ := List.mem_map.mp hkk
          obtain ⟨r, b, hrb, hr, hb⟩ := d4 p hp
          rw [← hpk, hrb] at hx
          exact ⟨r, b, hr, hb, by simpa [keyE] using hx⟩
        · rintro ⟨r, b, hr, hb, hx⟩
          have hd3 := d3 r b hr hb
          cases z : dget dl [(r : Int), (b : Int)] with
          | none =>
            rw [z] at hd3
            unfold spotE at hx
            rw [hd3] at hx; cases hx
          | some v =>
            refine ⟨[(r : Int), (b : Int)], ?_, by simpa [keyE] using hx⟩
            have := dget_keys (l := dl) (k := [(r : Int), (b : Int)])
            rw [z] at this
            simpa using this.symm
end

-- part W5
noncomputable def Edge (D : Wd) (fl : List Int) (k x : Int) : Prop := (∃ c ∈ D.cells, (k, x) ∈ cellE c) ∨ ∃ r b, r < D.n ∧ b < D.w r ∧ (k, x) ∈ spotE D fl r b
inductive FReach (ed : Int → Int → Prop) (fl : List Int) : Int → Prop
  | base {k : Int} : k ∈ fl → FReach ed fl k
  | step {y x : Int} : FReach ed fl y → ed y x → FReach ed fl x

section
variable {P : Pg} {d : Nat} {σ : Store} {Q : V → Store → Prop}
theorem loose_leaf (F : Facts P.K) {D : Wd} (G : D.Good) {wi wx dz dx ind nl nx : Addr} {fw fd fn : List (PySem.Str × V)} {fl : List Int} (W : World D σ wi wx dz dx ind fw fd) (NL : NetL D σ nl nx fn) (FL : FloatL σ fw fl)
    (hcl : D.cells.length ≤ 100) (hcw : ∀ c ∈ D.cells, c.2.2.length ≤ 100) (hsrc : ∀ k, (D.src k).length ≤ 100) {N : Nat} (hN : N ≤ 40) (hfl : ∀ y ∈ fl, 0 ≤ y ∧ y < N) (hfn : fl.Nodup) (hE : ∀ k x, Edge D fl k x → 0 ≤ x ∧ x < (N : Int))
    (h : ∀ (r : Addr) (l : List (Int × V)) (ep : Nat) (σ' : Store), Ext σ σ' → σ r = none → σ' r = some (.dict (mapI l) ep) → (l.map (·.1)).Nodup → (∀ x, x ∈ l.map (·.1) ↔ FReach (Edge D fl) fl x) → (∀ x ∈ l.map (·.1), 0 ≤ x ∧ x < (N : Int)) → Q (.ref r) σ') :
    LeafC P (d + 2) (.ref 285) [.ref wi, .ref nl] σ (asV Q) := by
  refine fn_callC (exV := []) (ex := []) F.loose.fn ["wires", "netlist"] ?_ (fun h => VRs_nil.mpr rfl) (fun c hd => ?_) (by decide +kernel) (by kernel_rfl) (by kernel_rfl) (by kernel_rfl)
  · intro name kV doc pm an cdv ct us s hl _
    obtain ⟨a, b, rfl⟩ := len2 hl
    exact BindsTo.of_eq (by kernel_rfl)
  · show WB c _ (setL (setL emp "wires" (.ref wi)) "netlist" (.ref nl)) σ _
    ((show WB _ _ _ _ _; refine b_cons ?_))
    refine x_assign ?_
    refine e_call F.gnet_users F.users.keep ?_
    (repeat walk_at "e")
    rw [hd]
    refine (users_leaf F G W NL FL hcl hcw hsrc fun u E lu σ1 U hEl hEd => ?_).leaf
    ((show WB _ _ _ _ _; refine b_cons ?_))
    refine x_assign ?_
    (repeat walk_at "e")
    intro lo hlo
    obtain ⟨fa, fl', fep, f1, f2, f3⟩ := FL.f
    ((show WB _ _ _ _ _; refine b_cons ?_))
    refine x_assign ?_
    (refine e_callB bt_list callee_type (Facts.b_list (by assumption)) ?_)
    (repeat walk_at "e")
    have e1 := U.ext.trans (Ext.new (o := .dict [] 0) hlo)
    refine lf_getattr F.cW (attr_no F.cWa (by decide +kernel)) (e1 _ _ W.wi) (e1 _ _ W.wa) f1 ?_
    (repeat walk_at "e")
    have flen : fl.length ≤ N := nodup_bound hfn hfl
    have flen' : fl'.length = fl.length := by rw [← f3]; simp
    refine lf_listI (e1 _ _ f2) (by omega) fun w hw => ?_
    rw [f3]
    have hEd : ∀ k x, (k, x) ∈ E ↔ Edge D fl k x := hEd
    have hlow : lo ≠ w := fun z => by subst z; rw [upd_self] at hw; cases hw
    have hw1 : σ1 w = none := by rw [upd_ne _ _ (Ne.symm hlow)] at hw; exact hw
    have hDL : DictL σ1 u (useOf E) := by
      obtain ⟨ep, hud⟩ := U.dict
      refine ⟨lu, ep, hud, fun k => ?_⟩
      have := U.at_ k
      cases z : dget lu k with
      | none => rw [z] at this; exact this
      | some v => rw [z] at this; obtain ⟨a, q1, q2, _⟩ := this; exact ⟨a, q1, q2⟩
    have hux : ∀ k x, x ∈ useOf E k → Edge D fl k x := fun k x hx => (hEd k x).mp (mem_useOf.mp hx)
    ((show WB _ _ _ _ _; refine b_cons ?_))
    let J : Nat → Loc → Store → Prop := fun n m' σ' => ∃ (ws : List Int) (ll : List (Int × V)) (ep : Nat), n = (N - ll.length) * (E.length + 1) + ws.length ∧ Ext σ1 σ' ∧ σ' lo = some (.dict (mapI ll) ep) ∧ σ' w = some (.list (ws.map .int)) ∧ (m' "users" = some (.ref u) ∧ m' "loose" = some (.ref lo) ∧ m' "work" = some (.ref w)) ∧
      (ll.map (·.1)).Nodup ∧ (∀ x ∈ ll.map (·.1), FReach (Edge D fl) fl x ∧ 0 ≤ x ∧ x < (N : Int)) ∧ (∀ x ∈ ws, FReach (Edge D fl) fl x ∧ 0 ≤ x ∧ x < (N : Int)) ∧ (∀ y ∈ ll.map (·.1), ∀ x, Edge D fl y x → x ∈ ll.map (·.1) ∨ x ∈ ws) ∧ (∀ x ∈ fl, x ∈ ll.map (·.1) ∨ x ∈ ws) ∧ ws.length ≤ fl.length + ll.length * E.length
    refine x_while J
      (n := (N - 0) * (E.length + 1) + fl.length) ?_ ?_
    · refine ⟨fl, [], 0, rfl, (Ext.new hlo).trans (Ext.new hw), ?_, upd_self _ _ _, ⟨?_, ?_, ?_⟩, by simp, (fun x hx => by cases hx), fun x hx => ⟨.base hx, hfl x hx⟩, (fun y hy => by cases hy), fun x hx => .inr hx, by simp⟩
      · rw [upd_ne _ _ hlow]; exact upd_self _ _ _
      all_goals walk_at "lk"
    · rintro n m' σ' ⟨ws, ll, ep, hn, e, hl1, hw2, ⟨l1, l2, l3⟩, i1, i2, i3, i4, i5, i6⟩
      have lll : ll.length ≤ N := by have := nodup_bound i1 fun y hy => (i2 y hy).2; simpa using this
      have hmul : ll.length * E.length ≤ 40 * 20000 := Nat.mul_le_mul (by omega) hEl
      (repeat walk_at "e")
      (refine e_callB bt_len callee_builtin (Facts.b_len (by assumption)) ?_)
      (repeat walk_at "e")
      refine lf_len_list hw2 (by rw [List.length_map]; omega) ?_
      (repeat walk_at "e")
      refine lf_gti (bIf (fun q => ?_) fun q => ?_)
      · have q : 0 < ws.length := by simpa using q
        obtain ⟨ws', net, rfl⟩ : ∃ ws' net, ws = ws' ++ [net] := by
          rcases List.eq_nil_or_concat ws with rfl | ⟨a, b, rfl⟩
          · simp at q
          · exact ⟨a, b, by simp⟩
        rw [List.map_append] at hw2
        rw [List.length_append] at i6 hn
        simp only [List.length_singleton] at i6 hn
        have hnet := i3 net (by simp)
        have hw0 : ∀ o : O, Ext σ1 (upd σ' w o) := fun o => e.set hw1
        have hlo0 : ∀ o : O, Ext σ1 (upd (upd σ' w (.list (ws'.map .int))) lo o) := fun o => (hw0 _).set hlo
        ((show WB _ _ _ _ _; refine b_cons ?_))
        refine x_assign ?_
        refine e_meth ?_
        (repeat walk_at "e")
        refine ⟨_, m_pop hw2, ?_⟩
        (repeat walk_at "e")
        refine lf_pop hw2 (by rw [List.length_map]; omega) ?_
        have hl1' : upd σ' w (.list (ws'.map .int)) lo = some (.dict (mapI ll) ep) := by rw [upd_ne _ _ hlow]; exact hl1
        ((show WB _ _ _ _ _; refine b_cons ?_))
        refine x_if ?_
        (repeat walk_at "e")
        refine lf_ninI hl1' ?_
        rw [dget_keys]
        refine bIf (fun q2 => ?_) fun q2 => ?_
        · have hnew : net ∉ ll.map (·.1) := by simpa using q2
          have hlt : ll.length < N := by
            have h1 : (net :: ll.map (·.1)).Nodup := List.nodup_cons.mpr ⟨hnew, i1⟩
            have := nodup_bound h1 (fun y hy => by
              rcases List.mem_cons.mp hy with rfl | hy
              · exact hnet.2
              · exact (i2 y hy).2)
            simp at this; omega
          ((show WB _ _ _ _ _; refine b_cons ?_))
          refine x_assign_sub ?_
          (repeat walk_at "e")
          refine lf_setI hl1' (by omega) fun ep2 => ?_
          rw [dset_new hnew]
          ((show WB _ _ _ _ _; refine b_cons ?_))
          refine x_expr ?_
          refine e_meth ?_
          (repeat walk_at "e")
          have hw3 : upd (upd σ' w (.list (ws'.map .int))) lo (.dict (mapI (ll ++ [(net, .bool true)])) ep2) w = some (.list (ws'.map .int)) := by rw [upd_ne _ _ (Ne.symm hlow)]; exact upd_self _ _ _
          refine ⟨_, m_extend hw3, ?_⟩
          refine es_cons (e_meth ?_)
          (repeat walk_at "e")
          obtain ⟨dl, dep, hd1, hd2⟩ := hDL
          refine ⟨_, m_get (hlo0 _ _ _ hd1), ?_⟩
          (repeat walk_at "e")
          refine ⟨by simp, fun ne hne => ?_⟩
          (repeat walk_at "e")
          generalize hσ3 : upd (upd σ' w (.list (ws'.map .int))) lo (.dict (mapI (ll ++ [(net, .bool true)])) ep2) = σ3 at hne hw3
          have e3 : Ext σ1 σ3 := by rw [← hσ3]; exact hlo0 _
          have hlo3 : σ3 lo = some (.dict (mapI (ll ++ [(net, .bool true)])) ep2) := by rw [← hσ3]; exact upd_self _ _ _
          have key : ∃ a, (dget dl net).getD (.ref ne) = .ref a ∧ upd σ3 ne (.list []) a = some (.list ((useOf E net).map .int)) := by
            have h2 := hd2 net
            cases z : dget dl net with
            | none => rw [z] at h2; exact ⟨ne, rfl, by rw [h2]; exact upd_self _ _ _⟩
            | some v => rw [z] at h2; obtain ⟨a, rfl, h3⟩ := h2; exact ⟨a, rfl, Ext.new hne _ _ (e3 _ _ h3)⟩
          obtain ⟨a, ka, hal⟩ := key
          refine lf_getI (Ext.new hne _ _ (e3 _ _ hd1)) ?_
          rw [ka]
          (repeat walk_at "e")
          have hul := useOf_len E net
          refine lf_extend (Ext.new hne _ _ hw3) hal (by rw [List.length_map]; omega) (by rw [List.length_map]; omega) ?_
          ((show WB _ [] _ _ _; refine b_nil ?_))
          ((show WB _ [] _ _ _; refine b_nil ?_))
          rw [← List.map_append]
          have hll : (ll ++ [(net, V.bool true)]).length = ll.length + 1 := by simp
          have hkeys : (ll ++ [(net, V.bool true)]).map (·.1) = ll.map (·.1) ++ [net] := by simp
          refine ⟨(N - (ll.length + 1)) * (E.length + 1) + (ws' ++ useOf E net).length, ?_, ws' ++ useOf E net, ll ++ [(net, .bool true)], ep2, by rw [hll], ?_, ?_, upd_self _ _ _, ⟨?_, ?_, ?_⟩, ?_, ?_, ?_, ?_, ?_, ?_⟩
          · rw [hn, List.length_append]
            have : N - ll.length = (N - (ll.length + 1)) + 1 := by omega
            rw [this, Nat.succ_mul]
            omega
          · exact (e3.trans (Ext.new hne)).set hw1
          · rw [upd_ne _ _ hlow]; exact Ext.new hne _ _ hlo3
          · walk_at "lk"
          · walk_at "lk"
          · walk_at "lk"
          · rw [hkeys, List.nodup_append]
            exact ⟨i1, by simp, fun a ha b hb z => by simp at hb; subst hb; subst z; exact hnew ha⟩
          · intro x hx
            rw [hkeys] at hx
            rcases List.mem_append.mp hx with hx | hx
            · exact i2 x hx
            · simp at hx; subst hx; exact hnet
          · intro x hx
            rcases List.mem_append.mp hx with hx | hx
            · exact i3 x (by simp [hx])
            · have hed := hux _ _ hx
              exact ⟨.step hnet.1 hed, hE _ _ hed⟩
          · intro y hy x hed
            rw [hkeys] at hy ⊢
            rcases List.mem_append.mp hy with hy | hy
            · rcases i4 y hy x hed with z | z
              · exact .inl (List.mem_append_left _ z)
              · rcases List.mem_append.mp z with z | z
                · exact .inr (List.mem_append_left _ z)
                · exact .inl (List.mem_append_right _ z)
            · simp at hy; subst hy
              exact .inr (List.mem_append_right _ (mem_useOf.mpr ((hEd _ _).mpr hed)))
          · intro x hx
            rw [hkeys]
            rcases i5 x hx with z | z
            · exact .inl (List.mem_append_left _ z)
            · rcases List.mem_append.mp z with z | z
              · exact .inr (List.mem_append_left _ z)
              · exact .inl (List.mem_append_right _ z)
          · rw [List.length_append, hll, Nat.succ_mul]; omega
        · have hold : net ∈ ll.map (·.1) := by simpa using q2
          ((show WB _ [] _ _ _; refine b_nil ?_))
          ((show WB _ [] _ _ _; refine b_nil ?_))
          refine ⟨(N - ll.length) * (E.length + 1) + ws'.length, by rw [hn]; omega, ws', ll, ep, rfl, hw0 _, hl1', upd_self _ _ _, ⟨?_, ?_, ?_⟩, i1, i2, fun x hx => i3 x (by simp [hx]), ?_, ?_, by omega⟩
          · walk_at "lk"
          · walk_at "lk"
          · walk_at "lk"
          · intro y hy x hed
            rcases i4 y hy x hed with z | z
            · exact .inl z
            · rcases List.mem_append.mp z with z | z
              · exact .inr z
              · simp at z; subst z; exact .inl hold
          · intro x hx
            rcases i5 x hx with z | z
            · exact .inl z
            · rcases List.mem_append.mp z with z | z
              · exact .inr z
              · simp at z; subst z; exact .inl hold
      · have q : ws = [] := by
          have : ¬ 0 < ws.length := by simpa using q
          exact List.length_eq_zero_iff.mp (by omega)
        subst q
        ((show WB _ _ _ _ _; refine b_cons ?_))
        refine x_return ?_
        (repeat walk_at "e")
        refine h lo ll ep σ' (U.ext.trans e) (U.ext.isNone hlo) hl1 i1 (fun x => ⟨fun hx => (i2 x hx).1, fun hx => ?_⟩) fun x hx => (i2 x hx).2
        induction hx with
        | base hk => exact (i5 _ hk).resolve_right (by simp)
        | step _ hed ih => exact (i4 _ ih _ hed).resolve_right (by simp)
end

-- part W6
theorem upd_upd (σ : Store) (a : Addr) (o o' : O) : upd (upd σ a o) a o' = upd σ a o' := by
  funext b; unfold upd; split <;> rfl
theorem upd_comm (σ : Store) {a b : Addr} (o o' : O) (h : a ≠ b) : upd (upd σ a o) b o' = upd (upd σ b o') a o := by
  funext c; unfold upd
  by_cases q : c = a
  · subst q; simp [h]
  · simp [q]
theorem fset_le {fs : List (PySem.Str × V)} {x : PySem.Str} {v : V} {n : Nat} (h : fs.length ≤ n) : (fset fs x v).length ≤ n + 1 := Nat.le_trans (fset_length _ _) (Nat.succ_le_succ h)
theorem fget_set (fs : List (PySem.Str × V)) (x : PySem.Str) (v : V) : fget (fset fs x v) x = some v := by
  induction fs with
  | nil => simp [fset, fget]
  | cons p r ih =>
    obtain ⟨y, u⟩ := p
    unfold fset
    by_cases q : (y == x) = true
    · rw [if_pos q]; simp [fget, q]
    · rw [if_neg q]; unfold fget; rw [if_neg q]; exact ih
theorem fget_skip {fs : List (PySem.Str × V)} {x y : PySem.Str} {v : V} {w : Option V} (h : (x == y) = false) (k : fget fs y = w) : fget (fset fs x v) y = w := by
  induction fs with
  | nil => simp [fset, fget, h]; exact k
  | cons p r ih =>
    obtain ⟨z, u⟩ := p
    have hxy : x ≠ y := by simpa using h
    unfold fset
    by_cases q : (z == x) = true
    · have : z = x := by simpa using q
      subst this
      rw [if_pos q]
      unfold fget at k ⊢
      rw [h] at k ⊢
      exact k
    · rw [if_neg q]
      unfold fget at k ⊢
      by_cases q2 : (z == y) = true
      · rw [if_pos q2] at k ⊢; exact k
      · rw [if_neg q2] at k ⊢; exact ih k
theorem fset_fset (fs : List (PySem.Str × V)) (x : PySem.Str) (v w : V) : fset (fset fs x v) x w = fset fs x w := by
  induction fs with
  | nil => simp [fset]
  | cons p r ih =>
    obtain ⟨y, u⟩ := p
    have e : ∀ u v r, fset ((y, u) :: r) x v = if (y == x) = true then (y, v) :: r else (y, u) :: fset r x v := fun _ _ _ => rfl
    by_cases q : (y == x) = true
    · rw [e, if_pos q, e, if_pos q, e, if_pos q]
    · rw [e, if_neg q, e, if_neg q, e, if_neg q, ih]
theorem fset_same {fs : List (PySem.Str × V)} {x : PySem.Str} {v : V} (h : fget fs x = some v) : fset fs x v = fs := by
  induction fs with
  | nil => cases h
  | cons p r ih =>
    obtain ⟨y, u⟩ := p
    unfold fset
    unfold fget at h
    by_cases q : (y == x) = true
    · rw [if_pos q] at h ⊢; cases h; rfl
    · rw [if_neg q] at h ⊢; rw [ih h]

local macro_rules | `(tactic| walk_at "fg") => `(tactic| first | assumption | (apply fget_set; done) | (apply fget_skip; (decide +kernel); walk_at "fg"))

section
variable {P : Pg} {sc : Scope} {c : Cx P sc} {m : Loc} {d : Nat} {σ : Store} {Q : V → Store → Prop} {F : Fl → Loc → Store → Prop}

-- self.name = value, within an __init__
theorem x_self {C x dx : Addr} {name : PySem.Str} {al : List PySem.Str} {value : Expr} {p1 p pos : Pos} {fs : List (PySem.Str × V)} (hc : plainCls P.K C = true) (hal : (al.all fun x => findIn P.K (.ref C) x == some none) = true) (hin : al.contains name = true)
    (hm : m "self" = some (.ref x)) (hne : x ≠ dx) (hl : fs.length ≤ 900)
    (h : WE c value m (upd σ dx (.attrs fs)) fun v σ₁ => ∃ σ2, σ₁ = upd σ2 dx (.attrs fs) ∧ σ2 x = some (.inst C dx) ∧ F .next m (upd σ2 dx (.attrs (fset fs name v))))
    (hs : swapsWith value (some (.Attribute (.Name "self" p1) name p)) pos.line c.env = pure false := by rfl) : WX c (.Assign [.Attribute (.Name "self" p1) name p] value pos) m (upd σ dx (.attrs fs)) F := by
  refine x_assign_attr ?_ hs
  refine h.mono fun v σ₁ ⟨σ2, e, hx, hF⟩ => ?_
  subst e
  refine e_name hm ?_
  refine lf_setattr hc (attr_no hal hin) (by rw [upd_ne _ _ hne]; exact hx) (upd_self _ _ _) hl ?_
  rw [upd_upd]; exact hF

theorem signal_init (F : Facts P.K) {x dx : Addr} {key w msb lsb : Int} {path kind : PySem.Str} (hx : σ x = some (.inst 85 dx)) (hd : σ dx = some (.attrs [])) (hne : x ≠ dx)
    (h : ∀ fs, fget fs "kind" = some (.str kind) → fget fs "key" = some (.int key) → fs.length ≤ 12 → Q .none (upd σ dx (.attrs fs))) :
    LeafC P (d + 1) (.ref 47) [.ref x, .int key, .str path, .str kind, .int w, .bool false, .int msb, .int lsb] σ (asV Q) := by
  have e0 : σ = upd σ dx (.attrs []) := by
    funext b; unfold upd; split
    · rename_i q; subst q; exact hd
    · rfl
  refine fn_callC (exV := []) (ex := []) F.sInit.fn ["self", "key", "path", "kind", "width", "signed", "msb", "lsb"] ?_ (fun h => VRs_nil.mpr rfl) (fun c hd => ?_) (by decide +kernel) (by kernel_rfl) (by kernel_rfl) (by kernel_rfl)
  · intro name kV doc pm an cdv ct us s hl _
    obtain ⟨a, b, c, d, e, f, g, i, rfl⟩ := len8 hl
    exact BindsTo.of_eq (by kernel_rfl)
  · show WB c _ (setL (setL (setL (setL (setL (setL (setL (setL emp "self" (.ref x)) "key" (.int key)) "path" (.str path)) "kind" (.str kind)) "width" (.int w)) "signed" (.bool false)) "msb" (.int msb)) "lsb" (.int lsb)) σ _
    rw [e0]
    iterate 10
      ((show WB _ _ _ _ _; refine b_cons ?_))
      refine x_self F.cS F.cSa (by decide +kernel) (by walk_at "lk") hne (by ((repeat (first | exact Nat.zero_le _ | apply fset_le)))) ?_
      (repeat walk_at "e")
      refine ⟨σ, rfl, hx, ?_⟩
    ((show WB _ _ _ _ _; refine b_cons ?_))
    refine x_self F.cS F.cSa (by decide +kernel) (by walk_at "lk") hne (by ((repeat (first | exact Nat.zero_le _ | apply fset_le)))) ?_
    (repeat walk_at "e")
    refine lf_neg ?_
    refine ⟨σ, rfl, hx, ?_⟩
    ((show WB _ _ _ _ _; refine b_cons ?_))
    refine x_self F.cS F.cSa (by decide +kernel) (by walk_at "lk") hne (by ((repeat (first | exact Nat.zero_le _ | apply fset_le)))) ?_
    (repeat walk_at "e")
    refine ⟨σ, rfl, hx, ?_⟩
    ((show WB _ [] _ _ _; refine b_nil ?_))
    exact h _ (by walk_at "fg") (by walk_at "fg") (by ((repeat (first | exact Nat.zero_le _ | apply fset_le))))

theorem signal_make (F : Facts P.K) {key w msb lsb : Int} {path kind : PySem.Str}
    (h : ∀ s sx fs, σ s = none → σ sx = none → s ≠ sx → fget fs "kind" = some (.str kind) → fget fs "key" = some (.int key) → fs.length ≤ 12 → Q (.ref s) (upd (upd σ s (.inst 85 sx)) sx (.attrs fs))) :
    Leaf P (d + 2) (callL (.ref 85)) [.int key, .str path, .str kind, .int w, .bool false, .int msb, .int lsb] σ (asV Q) := by
  refine lf_make F.cS F.cSi F.t47 fun x dx hx hdx hne => ?_
  refine signal_init F (upd_self _ _ _) (by rw [upd_ne _ _ (Ne.symm hne)]; exact upd_self _ _ _) hne fun fs h1 h2 h3 => ⟨rfl, ?_⟩
  rw [upd_comm _ _ _ (Ne.symm hne), upd_upd]
  exact h x dx fs hx hdx hne h1 h2 h3

theorem new_net (F : Facts P.K) {nl nx : Addr} {fn : List (PySem.Str × V)} {k : Int} (hi : σ nl = some (.inst 232 nx)) (ha : σ nx = some (.attrs fn)) (hk : fget fn "count" = some (.int k)) (hl : fn.length ≤ 100)
    (h : Q (.int k) (upd σ nx (.attrs (fset fn "count" (.int (k + 1)))))) : LeafC P (d + 1) (.ref 180) [.ref nl] σ (asV Q) := by
  refine fn_callC (exV := []) (ex := []) F.newNet.fn ["self"] ?_ (fun h => VRs_nil.mpr rfl) (fun c hd => ?_) (by decide +kernel) (by kernel_rfl) (by kernel_rfl) (by kernel_rfl)
  · intro name kV doc pm an cdv ct us s hl _
    obtain ⟨a, rfl⟩ := len1 hl
    exact BindsTo.of_eq (by kernel_rfl)
  · show WB c _ (setL emp "self" (.ref nl)) σ _
    ((show WB _ _ _ _ _; refine b_cons ?_))
    refine x_assign ?_
    (repeat walk_at "e")
    refine lf_getattr F.cN (attr_no F.cNa (by decide +kernel)) hi ha hk ?_
    ((show WB _ _ _ _ _; refine b_cons ?_))
    refine x_aug_attr ?_
    (repeat walk_at "e")
    refine lf_getattr F.cN (attr_no F.cNa (by decide +kernel)) hi ha hk ?_
    (repeat walk_at "e")
    refine lf_iadd ?_
    refine lf_setattr F.cN (attr_no F.cNa (by decide +kernel)) hi ha (by omega) ?_
    ((show WB _ _ _ _ _; refine b_cons ?_))
    refine x_return ?_
    (repeat walk_at "e")
    exact h

-- all but one object stand as they stood
noncomputable def But (a : Addr) (σ σ' : Store) : Prop := ∀ x o, x ≠ a → σ x = some o → σ' x = some o
theorem new_nets (F : Facts P.K) {nl nx : Addr} {fn : List (PySem.Str × V)} {k : Int} {w : Nat} (hi : σ nl = some (.inst 232 nx)) (ha : σ nx = some (.attrs fn)) (hk : fget fn "count" = some (.int k)) (hnm : fget fn "new_net" = none) (hl : fn.length ≤ 20) (hw : w ≤ 100)
    (h : ∀ a σ', σ a = none → But nx σ σ' → σ' nx = some (.attrs (fset fn "count" (.int (k + w)))) → σ' a = some (.list ((List.range w).map fun (b : Nat) => V.int (k + (b : Int)))) → Q (.ref a) σ') : LeafC P (d + 2) (.ref 185) [.ref nl, .int w] σ (asV Q) := by
  refine fn_callC (exV := []) (ex := []) F.newNets.fn ["self", "width"] ?_ (fun h => VRs_nil.mpr rfl) (fun c hd => ?_) (by decide +kernel) (by kernel_rfl) (by kernel_rfl) (by kernel_rfl)
  · intro name kV doc pm an cdv ct us s hl _
    obtain ⟨a, b, rfl⟩ := len2 hl
    exact BindsTo.of_eq (by kernel_rfl)
  · show WB c _ (setL (setL emp "self" (.ref nl)) "width" (.int w)) σ _
    have hnx : nl ≠ nx := fun z => by subst z; rw [hi] at ha; cases ha
    ((show WB _ _ _ _ _; refine b_cons ?_))
    refine x_return ?_
    refine e_listcomp ?_
    (refine e_callB bt_range callee_type (Facts.b_range (by assumption)) ?_)
    (repeat walk_at "e")
    refine lf_range fun ra hra => ?_
    have hrn : ra ≠ nx := fun z => by subst z; rw [ha] at hra; cases hra
    let J : Nat → List V → Store → Prop := fun i acc σ' => But nx σ σ' ∧ i ≤ w ∧ σ' nx = some (.attrs (fset fn "count" (.int (k + i)))) ∧ acc = (List.range i).map fun (b : Nat) => V.int (k + (b : Int))
    refine ⟨_, _, iter_range (upd_self _ _ _) (by omega) (by omega), J, ?_, ?_, ?_, ?_⟩
    · refine ⟨fun x o _ e => Ext.new hra _ _ e, Nat.zero_le _, ?_, rfl⟩
      rw [upd_ne _ _ (Ne.symm hrn)]
      have : fset fn "count" (.int (k + ((0 : Nat) : Int))) = fn := fset_same (by simpa using hk)
      rw [this]; exact ha
    · rintro i acc σ' ⟨_, hi, _, rfl⟩
      refine ⟨trivial, ?_⟩
      rw [List.length_map, List.length_range]; omega
    · rintro i x acc σ' hx ⟨hb, hiw, hn, rfl⟩ c' hd'
      obtain ⟨hlt, rfl⟩ := range_item hx
      intro c2 hd2
      refine e_meth ?_
      (repeat walk_at "e")
      refine ⟨_, meth_inst F.cN F.m180 F.t180 F.newNet.keep (hb _ _ hnx hi) hn ?_, ?_⟩
      · exact fget_skip (by decide +kernel) hnm
      (repeat walk_at "e")
      rw [hd2, hd]
      refine (new_net F (hb _ _ hnx hi) hn (fget_set _ _ _) ?_ ?_).leaf
      · have := fset_length (name := "count") fn (.int (k + i)); omega
      rw [fset_fset]
      refine ⟨fun x o hx e => by rw [upd_ne _ _ hx]; exact hb x o hx e, by omega, ?_, ?_⟩
      · rw [upd_self]; congr 4; omega
      · rw [List.range_succ, List.map_append]; rfl
    · rintro acc σ' ⟨hb, hiw, hn, rfl⟩ a ha'
      have hfull : ((List.range ((w : Int).toNat)).map fun (i : Nat) => V.int (i : Int)).length = w := by simp
      rw [hfull] at hn ⊢
      have hax : a ≠ nx := fun z => by subst z; rw [hn] at ha'; cases ha'
      refine h a _ ?_ (fun x o hx e => Ext.new ha' _ _ (hb x o hx e)) (by rw [upd_ne _ _ (Ne.symm hax)]; exact hn) (upd_self _ _ _)
      cases z : σ a with
      | none => rfl
      | some o => rw [hb a o hax z] at ha'; cases ha'

theorem nl_drive (F : Facts P.K) {nl nx ca : Addr} {fn : List (PySem.Str × V)} {xs : List V} {out : Int} {kind : PySem.Str} {ins : List V} (hi : σ nl = some (.inst 232 nx)) (ha : σ nx = some (.attrs fn)) (hk : fget fn "cells" = some (.ref ca)) (hc : σ ca = some (.list xs)) (hl : xs.length ≤ 1000)
    (h : Q .none (upd σ ca (.list (xs ++ [.tup [.str kind, .int out, .tup ins, .none]])))) : LeafC P (d + 1) (.ref 215) [.ref nl, .int out, .str kind, .tup ins, .none] σ (asV Q) := by
  refine fn_callC (exV := []) (ex := []) F.nDrive.fn ["self", "out", "kind", "ins", "param"] ?_ (fun h => VRs_nil.mpr rfl) (fun c hd => ?_) (by decide +kernel) (by kernel_rfl) (by kernel_rfl) (by kernel_rfl)
  · intro name kV doc pm an cdv ct us s hl hX
    obtain ⟨a, b, c, d, e, rfl⟩ := len5 hl
    exact binds_K hX rfl F.dflt2 rfl rfl rfl
  · show WB c _ (setL (setL (setL (setL (setL emp "self" (.ref nl)) "out" (.int out)) "kind" (.str kind)) "ins" (.tup ins)) "param" .none) σ _
    ((show WB _ _ _ _ _; refine b_cons ?_))
    refine x_expr ?_
    refine e_meth ?_
    (repeat walk_at "e")
    refine lf_getattr F.cN (attr_no F.cNa (by decide +kernel)) hi ha hk ?_
    refine ⟨_, m_append hc, ?_⟩
    (repeat walk_at "e")
    (refine e_callB bt_tuple callee_type (Facts.b_tuple (by assumption)) ?_)
    (repeat walk_at "e")
    refine lf_tuple_tup ?_
    (repeat walk_at "e")
    refine ⟨by simp, ?_⟩
    (repeat walk_at "e")
    refine lf_append hc (by omega) ?_
    ((show WB _ [] _ _ _; refine b_nil ?_))
    exact h
theorem add_cell (F : Facts P.K) {nl nx ca : Addr} {fn : List (PySem.Str × V)} {k : Int} {xs : List V} {kind : PySem.Str} {ins : List V} (hi : σ nl = some (.inst 232 nx)) (ha : σ nx = some (.attrs fn)) (hk : fget fn "count" = some (.int k)) (hcl : fget fn "cells" = some (.ref ca)) (hc : σ ca = some (.list xs)) (hl : xs.length ≤ 1000)
    (hf : fn.length ≤ 100) (hm1 : fget fn "new_net" = none) (hm2 : fget fn "drive" = none)
    (h : Q (.int k) (upd (upd σ nx (.attrs (fset fn "count" (.int (k + 1))))) ca (.list (xs ++ [.tup [.str kind, .int k, .tup ins, .none]])))) : LeafC P (d + 2) (.ref 207) [.ref nl, .str kind, .tup ins] σ (asV Q) := by
  refine fn_callC (exV := [.none]) (ex := [.none]) F.addCell.fn ["self", "kind", "ins", "param"] ?_ (fun h => VRs.one (VR_none.mpr rfl)) (fun c hd => ?_) (by decide +kernel) (by kernel_rfl) (by kernel_rfl) (by kernel_rfl)
  · intro name kV doc pm an cdv ct us s hl hX
    obtain ⟨a, b, c, rfl⟩ := len3 hl
    exact binds_K hX rfl F.dflt1 rfl rfl rfl
  · show WB c _ (setL (setL (setL (setL emp "self" (.ref nl)) "kind" (.str kind)) "ins" (.tup ins)) "param" .none) σ _
    have hnx : nl ≠ nx := fun z => by subst z; rw [hi] at ha; cases ha
    have hcx : ca ≠ nx := fun z => by subst z; rw [hc] at ha; cases ha
    ((show WB _ _ _ _ _; refine b_cons ?_))
    refine x_assign ?_
    refine e_meth ?_
    (repeat walk_at "e")
    refine ⟨_, meth_inst F.cN F.m180 F.t180 F.newNet.keep hi ha hm1, ?_⟩
    (repeat walk_at "e")
    rw [hd]
    refine (new_net F hi ha hk hf ?_).leaf
    ((show WB _ _ _ _ _; refine b_cons ?_))
    refine x_expr ?_
    refine e_meth ?_
    (repeat walk_at "e")
    refine ⟨_, meth_inst F.cN F.m215 F.t215 F.nDrive.keep (by rw [upd_ne _ _ hnx]; exact hi) (upd_self _ _ _) (fget_skip (by decide +kernel) hm2), ?_⟩
    (repeat walk_at "e")
    rw [hd]
    refine (nl_drive F (by rw [upd_ne _ _ hnx]; exact hi) (upd_self _ _ _) (fget_skip (by decide +kernel) hcl) (by rw [upd_ne _ _ hcx]; exact hc) hl ?_).leaf
    ((show WB _ _ _ _ _; refine b_cons ?_))
    refine x_return ?_
    (repeat walk_at "e")
    exact h
theorem w_drive (F : Facts P.K) {wi wx dr : Addr} {fw : List (PySem.Str × V)} {dl : List (List Int × V)} {ep : Nat} {r b net : Int} (hi : σ wi = some (.inst 267 wx)) (ha : σ wx = some (.attrs fw)) (hk : fget fw "drivers" = some (.ref dr)) (hdr : σ dr = some (.dict (mapT dl) ep)) (hl : dl.length ≤ 1000)
    (h1 : ∀ v, dget dl [r, b] = some v → ∃ a xs, v = .ref a ∧ σ a = some (.list xs) ∧ xs.length ≤ 1000 ∧ Q .none (upd σ a (.list (xs ++ [.int net]))))
    (h2 : dget dl [r, b] = none → ∀ a ep', σ a = none → a ≠ dr → Q .none (upd (upd σ a (.list [.int net])) dr (.dict (mapT (dl ++ [([r, b], .ref a)])) ep'))) : LeafC P (d + 1) (.ref 257) [.ref wi, .int r, .int b, .int net] σ (asV Q) := by
  refine fn_callC (exV := []) (ex := []) F.wDrive.fn ["self", "key", "bit", "net"] ?_ (fun h => VRs_nil.mpr rfl) (fun c hd => ?_) (by decide +kernel) (by kernel_rfl) (by kernel_rfl) (by kernel_rfl)
  · intro name kV doc pm an cdv ct us s hl _
    obtain ⟨a, b, c, d, rfl⟩ := len4 hl
    exact BindsTo.of_eq (by kernel_rfl)
  · show WB c _ (setL (setL (setL (setL emp "self" (.ref wi)) "key" (.int r)) "bit" (.int b)) "net" (.int net)) σ _
    ((show WB _ _ _ _ _; refine b_cons ?_))
    refine x_assign ?_
    (repeat walk_at "e")
    refine ⟨by simp, ?_⟩
    ((show WB _ _ _ _ _; refine b_cons ?_))
    refine x_if ?_
    (repeat walk_at "e")
    refine lf_getattr F.cW (attr_no F.cWa (by decide +kernel)) hi ha hk ?_
    refine lf_ninT (k := [r, b]) hdr ?_
    cases z : dget dl [r, b] with
    | some v =>
      obtain ⟨a, xs, rfl, hxa, hxl, hq⟩ := h1 v z
      refine bIf (fun q => by cases q) fun _ => ?_
      ((show WB _ [] _ _ _; refine b_nil ?_))
      ((show WB _ _ _ _ _; refine b_cons ?_))
      refine x_expr ?_
      refine e_meth ?_
      (repeat walk_at "e")
      refine lf_getattr F.cW (attr_no F.cWa (by decide +kernel)) hi ha hk ?_
      (repeat walk_at "e")
      refine lf_itemT (k := [r, b]) hdr z ?_
      refine ⟨_, m_append hxa, ?_⟩
      (repeat walk_at "e")
      refine lf_append hxa (by omega) ?_
      ((show WB _ [] _ _ _; refine b_nil ?_))
      exact hq
    | none =>
      refine bIf (fun _ => ?_) (fun q => by cases q)
      ((show WB _ _ _ _ _; refine b_cons ?_))
      refine x_assign_sub ?_
      (repeat walk_at "e")
      refine ⟨by simp, fun a hna => ?_⟩
      have had : a ≠ dr := fun w => by subst w; rw [hdr] at hna; cases hna
      have e := Ext.new (o := .list []) hna
      (repeat walk_at "e")
      refine lf_getattr F.cW (attr_no F.cWa (by decide +kernel)) (e _ _ hi) (e _ _ ha) hk ?_
      (repeat walk_at "e")
      refine lf_setT (k := [r, b]) (e _ _ hdr) (by omega) fun ep' => ?_
      have hnew : [r, b] ∉ dl.map (·.1) := fun hm => by obtain ⟨w, e, _⟩ := dget_key hm; rw [z] at e; cases e
      rw [dset_new hnew]
      ((show WB _ [] _ _ _; refine b_nil ?_))
      ((show WB _ _ _ _ _; refine b_cons ?_))
      refine x_expr ?_
      refine e_meth ?_
      (repeat walk_at "e")
      have hwd : wi ≠ dr := fun w => by subst w; rw [hi] at hdr; cases hdr
      have hxd : wx ≠ dr := fun w => by subst w; rw [ha] at hdr; cases hdr
      refine lf_getattr F.cW (attr_no F.cWa (by decide +kernel)) (by rw [upd_ne _ _ hwd]; exact e _ _ hi) (by rw [upd_ne _ _ hxd]; exact e _ _ ha) hk ?_
      (repeat walk_at "e")
      refine lf_itemT (k := [r, b]) (x := .ref a) (upd_self _ _ _) ?_ ?_
      · have := dget_dset (k' := [r, b]) (v := V.ref a) z
        rw [dset_new hnew, if_pos rfl] at this
        exact this
      have hal : upd (upd σ a (.list [])) dr (.dict (mapT (dl ++ [([r, b], .ref a)])) ep') a = some (.list []) := by rw [upd_ne _ _ had, upd_self]
      refine ⟨_, m_append hal, ?_⟩
      (repeat walk_at "e")
      refine lf_append hal (by simp) ?_
      ((show WB _ [] _ _ _; refine b_nil ?_))
      rw [upd_comm _ _ _ (Ne.symm had), upd_upd]
      exact h2 z a ep' hna had
end

-- part W7
local macro_rules | `(tactic| walk_at "st") => `(tactic| first | assumption | exact upd_self _ _ _ | (refine Ext.new (by assumption) _ _ ?_; walk_at "st"))

section
variable {P : Pg} {sc : Scope} {c : Cx P sc} {m : Loc} {d : Nat} {σ : Store} {Q : V → Store → Prop} {F : Fl → Loc → Store → Prop}
theorem fresh_upd {dx a : Addr} {o : O} (h : upd σ dx o a = none) : a ≠ dx ∧ σ a = none := by
  have : a ≠ dx := fun z => by subst z; rw [upd_self] at h; cases h
  exact ⟨this, by rw [upd_ne _ _ this] at h; exact h⟩
theorem x_selfL {C x dx : Addr} {name : PySem.Str} {al : List PySem.Str} {p0 p1 p pos : Pos} {fs : List (PySem.Str × V)} (hc : plainCls P.K C = true) (hal : (al.all fun x => findIn P.K (.ref C) x == some none) = true) (hin : al.contains name = true)
    (hm : m "self" = some (.ref x)) (hne : x ≠ dx) (hx : σ x = some (.inst C dx)) (hl : fs.length ≤ 900)
    (h : ∀ a, σ a = none → a ≠ dx → F .next m (upd (upd σ a (.list [])) dx (.attrs (fset fs name (.ref a))))) : WX c (.Assign [.Attribute (.Name "self" p1) name p] (.List [] p0) pos) m (upd σ dx (.attrs fs)) F := by
  refine x_self hc hal hin hm hne hl ?_
  (repeat walk_at "e")
  refine ⟨by simp, fun a ha => ?_⟩
  obtain ⟨h1, h2⟩ := fresh_upd ha
  exact ⟨upd σ a (.list []), upd_comm _ _ _ (Ne.symm h1), Ext.new h2 _ _ hx, h a h2 h1⟩
theorem x_selfD {C x dx : Addr} {name : PySem.Str} {al : List PySem.Str} {p0 p1 p pos : Pos} {fs : List (PySem.Str × V)} (hc : plainCls P.K C = true) (hal : (al.all fun x => findIn P.K (.ref C) x == some none) = true) (hin : al.contains name = true)
    (hm : m "self" = some (.ref x)) (hne : x ≠ dx) (hx : σ x = some (.inst C dx)) (hl : fs.length ≤ 900)
    (h : ∀ a, σ a = none → a ≠ dx → F .next m (upd (upd σ a (.dict [] 0)) dx (.attrs (fset fs name (.ref a))))) : WX c (.Assign [.Attribute (.Name "self" p1) name p] (.Dict [] [] p0) pos) m (upd σ dx (.attrs fs)) F := by
  refine x_self hc hal hin hm hne hl ?_
  (repeat walk_at "e")
  intro a ha
  obtain ⟨h1, h2⟩ := fresh_upd ha
  exact ⟨upd σ a (.dict [] 0), upd_comm _ _ _ (Ne.symm h1), Ext.new h2 _ _ hx, h a h2 h1⟩

theorem wires_make (F : Facts P.K)
    (h : ∀ w wx nt dr pu fw σ', Ext σ σ' → (σ w = none ∧ σ wx = none ∧ σ nt = none ∧ σ dr = none ∧ σ pu = none) → σ' w = some (.inst 267 wx) → σ' wx = some (.attrs fw) → fget fw "nets" = some (.ref nt) → fget fw "drivers" = some (.ref dr) → fget fw "pulls" = some (.ref pu) →
      σ' nt = some (.dict [] 0) → σ' dr = some (.dict [] 0) → σ' pu = some (.dict [] 0) → (nt ≠ dr ∧ nt ≠ pu ∧ dr ≠ pu) → fw.length ≤ 10 → fget fw "drive" = none → Q (.ref w) σ') :
    Leaf P (d + 2) (callL (.ref 267)) [] σ (asV Q) := by
  refine lf_make F.cW F.cWi F.t250 fun x dx hx hdx hne => ?_
  rw [upd_comm _ _ _ (Ne.symm hne)]
  have hx1 : upd σ x (.inst 267 dx) x = some (.inst 267 dx) := upd_self _ _ _
  have e1 : Ext σ (upd σ x (.inst 267 dx)) := Ext.new hx
  generalize hσ1 : upd σ x (.inst 267 dx) = σ1 at hx1 e1
  have hdx1 : σ1 dx = none := by rw [← hσ1, upd_ne _ _ (Ne.symm hne)]; exact hdx
  refine fn_callC (exV := []) (ex := []) F.wInit.fn ["self"] ?_ (fun h => VRs_nil.mpr rfl) (fun c hd => ?_) (by decide +kernel) (by kernel_rfl) (by kernel_rfl) (by kernel_rfl)
  · intro name kV doc pm an cdv ct us s hl _
    obtain ⟨a, rfl⟩ := len1 hl
    exact BindsTo.of_eq (by kernel_rfl)
  · show WB c _ (setL emp "self" (.ref x)) _ _
    ((show WB _ _ _ _ _; refine b_cons ?_))
    refine x_selfD F.cW F.cWa (by decide +kernel) (by walk_at "lk") hne (by walk_at "st") (by ((repeat (first | exact Nat.zero_le _ | apply fset_le)))) fun a1 h1 n1 => ?_
    ((show WB _ _ _ _ _; refine b_cons ?_))
    refine x_selfD F.cW F.cWa (by decide +kernel) (by walk_at "lk") hne (by walk_at "st") (by ((repeat (first | exact Nat.zero_le _ | apply fset_le)))) fun a2 h2 n2 => ?_
    ((show WB _ _ _ _ _; refine b_cons ?_))
    refine x_selfD F.cW F.cWa (by decide +kernel) (by walk_at "lk") hne (by walk_at "st") (by ((repeat (first | exact Nat.zero_le _ | apply fset_le)))) fun a3 h3 n3 => ?_
    ((show WB _ _ _ _ _; refine b_cons ?_))
    refine x_selfD F.cW F.cWa (by decide +kernel) (by walk_at "lk") hne (by walk_at "st") (by ((repeat (first | exact Nat.zero_le _ | apply fset_le)))) fun a4 h4 n4 => ?_
    ((show WB _ _ _ _ _; refine b_cons ?_))
    refine x_selfD F.cW F.cWa (by decide +kernel) (by walk_at "lk") hne (by walk_at "st") (by ((repeat (first | exact Nat.zero_le _ | apply fset_le)))) fun a5 h5 n5 => ?_
    ((show WB _ _ _ _ _; refine b_cons ?_))
    refine x_selfD F.cW F.cWa (by decide +kernel) (by walk_at "lk") hne (by walk_at "st") (by ((repeat (first | exact Nat.zero_le _ | apply fset_le)))) fun a6 h6 n6 => ?_
    ((show WB _ _ _ _ _; refine b_cons ?_))
    refine x_selfD F.cW F.cWa (by decide +kernel) (by walk_at "lk") hne (by walk_at "st") (by ((repeat (first | exact Nat.zero_le _ | apply fset_le)))) fun a7 h7 n7 => ?_
    ((show WB _ _ _ _ _; refine b_cons ?_))
    refine x_selfD F.cW F.cWa (by decide +kernel) (by walk_at "lk") hne (by walk_at "st") (by ((repeat (first | exact Nat.zero_le _ | apply fset_le)))) fun a8 h8 n8 => ?_
    ((show WB _ _ _ _ _; refine b_cons ?_))
    refine x_selfD F.cW F.cWa (by decide +kernel) (by walk_at "lk") hne (by walk_at "st") (by ((repeat (first | exact Nat.zero_le _ | apply fset_le)))) fun a9 h9 n9 => ?_
    ((show WB _ _ _ _ _; refine b_cons ?_))
    refine x_selfD F.cW F.cWa (by decide +kernel) (by walk_at "lk") hne (by walk_at "st") (by ((repeat (first | exact Nat.zero_le _ | apply fset_le)))) fun a10 h10 n10 => ?_
    ((show WB _ [] _ _ _; refine b_nil ?_))
    have x1 := e1.trans (Ext.new (o := .dict [] 0) h1)
    have x2 := x1.trans (Ext.new (o := .dict [] 0) h2)
    have x3 := x2.trans (Ext.new (o := .dict [] 0) h3)
    have x4 := x3.trans (Ext.new (o := .dict [] 0) h4)
    have x5 := x4.trans (Ext.new (o := .dict [] 0) h5)
    have x6 := x5.trans (Ext.new (o := .dict [] 0) h6)
    have x7 := x6.trans (Ext.new (o := .dict [] 0) h7)
    have x8 := x7.trans (Ext.new (o := .dict [] 0) h8)
    have x9 := x8.trans (Ext.new (o := .dict [] 0) h9)
    have x10 := x9.trans (Ext.new (o := .dict [] 0) h10)
    have g2 := (fresh_upd h2)
    have g4 := (fresh_upd h4)
    have g43 := (fresh_upd g4.2)
    have g42 := (fresh_upd g43.2)
    refine ⟨rfl, h x dx a1 a2 a4 _ _ (x10.set hdx) ⟨hx, hdx, e1.isNone h1, x1.isNone h2, x3.isNone h4⟩ ?_ (upd_self _ _ _) (by walk_at "fg") (by walk_at "fg") (by walk_at "fg") ?_ ?_ ?_ ⟨Ne.symm g2.1, Ne.symm g42.1, Ne.symm g43.1⟩ (by ((repeat (first | exact Nat.zero_le _ | apply fset_le)))) ?_⟩
    · rw [upd_ne _ _ hne]; walk_at "st"
    · rw [upd_ne _ _ n1]; walk_at "st"
    · rw [upd_ne _ _ n2]; walk_at "st"
    · rw [upd_ne _ _ n4]; walk_at "st"
    · repeat (refine fget_skip (by decide +kernel) ?_)
      rfl
theorem netlist_make (F : Facts P.K) {s : PySem.Str}
    (h : ∀ nl nx ca fn σ', Ext σ σ' → (σ nl = none ∧ σ nx = none ∧ σ ca = none) → σ' nl = some (.inst 232 nx) → σ' nx = some (.attrs fn) → fget fn "count" = some (.int 2) → fget fn "cells" = some (.ref ca) → σ' ca = some (.list []) → fn.length ≤ 5 →
      (fget fn "new_net" = none ∧ fget fn "new_nets" = none ∧ fget fn "drive" = none ∧ fget fn "add_cell" = none) → Q (.ref nl) σ') :
    Leaf P (d + 2) (callL (.ref 232)) [.str s] σ (asV Q) := by
  refine lf_make F.cN F.cNi F.t173 fun x dx hx hdx hne => ?_
  rw [upd_comm _ _ _ (Ne.symm hne)]
  have hx1 : upd σ x (.inst 232 dx) x = some (.inst 232 dx) := upd_self _ _ _
  have e1 : Ext σ (upd σ x (.inst 232 dx)) := Ext.new hx
  generalize hσ1 : upd σ x (.inst 232 dx) = σ1 at hx1 e1
  have hdx1 : σ1 dx = none := by rw [← hσ1, upd_ne _ _ (Ne.symm hne)]; exact hdx
  refine fn_callC (exV := []) (ex := []) F.nInit.fn ["self", "name"] ?_ (fun h => VRs_nil.mpr rfl) (fun c hd => ?_) (by decide +kernel) (by kernel_rfl) (by kernel_rfl) (by kernel_rfl)
  · intro name kV doc pm an cdv ct us s hl _
    obtain ⟨a, b, rfl⟩ := len2 hl
    exact BindsTo.of_eq (by kernel_rfl)
  · show WB c _ (setL (setL emp "self" (.ref x)) "name" (.str s)) _ _
    ((show WB _ _ _ _ _; refine b_cons ?_))
    refine x_self F.cN F.cNa (by decide +kernel) (by walk_at "lk") hne (by ((repeat (first | exact Nat.zero_le _ | apply fset_le)))) ?_
    (repeat walk_at "e")
    refine ⟨_, rfl, by walk_at "st", ?_⟩
    ((show WB _ _ _ _ _; refine b_cons ?_))
    refine x_self F.cN F.cNa (by decide +kernel) (by walk_at "lk") hne (by ((repeat (first | exact Nat.zero_le _ | apply fset_le)))) ?_
    (repeat walk_at "e")
    refine ⟨_, rfl, by walk_at "st", ?_⟩
    ((show WB _ _ _ _ _; refine b_cons ?_))
    refine x_selfL F.cN F.cNa (by decide +kernel) (by walk_at "lk") hne (by walk_at "st") (by ((repeat (first | exact Nat.zero_le _ | apply fset_le)))) fun a3 h3 n3 => ?_
    ((show WB _ _ _ _ _; refine b_cons ?_))
    refine x_selfL F.cN F.cNa (by decide +kernel) (by walk_at "lk") hne (by walk_at "st") (by ((repeat (first | exact Nat.zero_le _ | apply fset_le)))) fun a4 h4 n4 => ?_
    ((show WB _ _ _ _ _; refine b_cons ?_))
    refine x_selfL F.cN F.cNa (by decide +kernel) (by walk_at "lk") hne (by walk_at "st") (by ((repeat (first | exact Nat.zero_le _ | apply fset_le)))) fun a5 h5 n5 => ?_
    ((show WB _ [] _ _ _; refine b_nil ?_))
    have x3 := e1.trans (Ext.new (o := .list []) h3)
    have x4 := x3.trans (Ext.new (o := .list []) h4)
    have x5 := x4.trans (Ext.new (o := .list []) h5)
    refine ⟨rfl, h x dx a5 _ _ (x5.set hdx) ⟨hx, hdx, x4.isNone h5⟩ ?_ (upd_self _ _ _) (by walk_at "fg") (by walk_at "fg") ?_ (by ((repeat (first | exact Nat.zero_le _ | apply fset_le)))) ⟨?_, ?_, ?_, ?_⟩⟩
    · rw [upd_ne _ _ hne]; walk_at "st"
    · rw [upd_ne _ _ n5]; walk_at "st"
    all_goals (repeat (refine fget_skip (by decide +kernel) ?_)); rfl
theorem design_make (F : Facts P.K)
    (h : ∀ dz dx sl bp fd σ', Ext σ σ' → (σ dz = none ∧ σ dx = none ∧ σ sl = none ∧ σ bp = none) → σ' dz = some (.inst 148 dx) → σ' dx = some (.attrs fd) → fget fd "signals" = some (.ref sl) → fget fd "by_path" = some (.ref bp) → σ' sl = some (.list []) → σ' bp = some (.dict [] 0) → fd.length ≤ 12 →
      fget fd "add_signal" = none → Q (.ref dz) σ') :
    Leaf P (d + 2) (callL (.ref 148)) [] σ (asV Q) := by
  refine lf_make F.cD F.cDi F.t103 fun x dx hx hdx hne => ?_
  rw [upd_comm _ _ _ (Ne.symm hne)]
  have hx1 : upd σ x (.inst 148 dx) x = some (.inst 148 dx) := upd_self _ _ _
  have e1 : Ext σ (upd σ x (.inst 148 dx)) := Ext.new hx
  generalize hσ1 : upd σ x (.inst 148 dx) = σ1 at hx1 e1
  have hdx1 : σ1 dx = none := by rw [← hσ1, upd_ne _ _ (Ne.symm hne)]; exact hdx
  refine fn_callC (exV := []) (ex := []) F.dInit.fn ["self"] ?_ (fun h => VRs_nil.mpr rfl) (fun c hd => ?_) (by decide +kernel) (by kernel_rfl) (by kernel_rfl) (by kernel_rfl)
  · intro name kV doc pm an cdv ct us s hl _
    obtain ⟨a, rfl⟩ := len1 hl
    exact BindsTo.of_eq (by kernel_rfl)
  · show WB c _ (setL emp "self" (.ref x)) _ _
    ((show WB _ _ _ _ _; refine b_cons ?_))
    refine x_selfL F.cD F.cDa (by decide +kernel) (by walk_at "lk") hne (by walk_at "st") (by ((repeat (first | exact Nat.zero_le _ | apply fset_le)))) fun a1 h1 n1 => ?_
    ((show WB _ _ _ _ _; refine b_cons ?_))
    refine x_selfL F.cD F.cDa (by decide +kernel) (by walk_at "lk") hne (by walk_at "st") (by ((repeat (first | exact Nat.zero_le _ | apply fset_le)))) fun a2 h2 n2 => ?_
    ((show WB _ _ _ _ _; refine b_cons ?_))
    refine x_selfL F.cD F.cDa (by decide +kernel) (by walk_at "lk") hne (by walk_at "st") (by ((repeat (first | exact Nat.zero_le _ | apply fset_le)))) fun a3 h3 n3 => ?_
    ((show WB _ _ _ _ _; refine b_cons ?_))
    refine x_selfL F.cD F.cDa (by decide +kernel) (by walk_at "lk") hne (by walk_at "st") (by ((repeat (first | exact Nat.zero_le _ | apply fset_le)))) fun a4 h4 n4 => ?_
    ((show WB _ _ _ _ _; refine b_cons ?_))
    refine x_selfL F.cD F.cDa (by decide +kernel) (by walk_at "lk") hne (by walk_at "st") (by ((repeat (first | exact Nat.zero_le _ | apply fset_le)))) fun a5 h5 n5 => ?_
    ((show WB _ _ _ _ _; refine b_cons ?_))
    refine x_selfL F.cD F.cDa (by decide +kernel) (by walk_at "lk") hne (by walk_at "st") (by ((repeat (first | exact Nat.zero_le _ | apply fset_le)))) fun a6 h6 n6 => ?_
    ((show WB _ _ _ _ _; refine b_cons ?_))
    refine x_selfL F.cD F.cDa (by decide +kernel) (by walk_at "lk") hne (by walk_at "st") (by ((repeat (first | exact Nat.zero_le _ | apply fset_le)))) fun a7 h7 n7 => ?_
    ((show WB _ _ _ _ _; refine b_cons ?_))
    refine x_selfL F.cD F.cDa (by decide +kernel) (by walk_at "lk") hne (by walk_at "st") (by ((repeat (first | exact Nat.zero_le _ | apply fset_le)))) fun a8 h8 n8 => ?_
    ((show WB _ _ _ _ _; refine b_cons ?_))
    refine x_selfL F.cD F.cDa (by decide +kernel) (by walk_at "lk") hne (by walk_at "st") (by ((repeat (first | exact Nat.zero_le _ | apply fset_le)))) fun a9 h9 n9 => ?_
    ((show WB _ _ _ _ _; refine b_cons ?_))
    refine x_self F.cD F.cDa (by decide +kernel) (by walk_at "lk") hne (by ((repeat (first | exact Nat.zero_le _ | apply fset_le)))) ?_
    (repeat walk_at "e")
    refine ⟨_, rfl, by walk_at "st", ?_⟩
    ((show WB _ _ _ _ _; refine b_cons ?_))
    refine x_self F.cD F.cDa (by decide +kernel) (by walk_at "lk") hne (by ((repeat (first | exact Nat.zero_le _ | apply fset_le)))) ?_
    (repeat walk_at "e")
    refine ⟨_, rfl, by walk_at "st", ?_⟩
    ((show WB _ _ _ _ _; refine b_cons ?_))
    refine x_selfD F.cD F.cDa (by decide +kernel) (by walk_at "lk") hne (by walk_at "st") (by ((repeat (first | exact Nat.zero_le _ | apply fset_le)))) fun a12 h12 n12 => ?_
    ((show WB _ [] _ _ _; refine b_nil ?_))
    have x1 := e1.trans (Ext.new (o := .list []) h1)
    have x2 := x1.trans (Ext.new (o := .list []) h2)
    have x3 := x2.trans (Ext.new (o := .list []) h3)
    have x4 := x3.trans (Ext.new (o := .list []) h4)
    have x5 := x4.trans (Ext.new (o := .list []) h5)
    have x6 := x5.trans (Ext.new (o := .list []) h6)
    have x7 := x6.trans (Ext.new (o := .list []) h7)
    have x8 := x7.trans (Ext.new (o := .list []) h8)
    have x9 := x8.trans (Ext.new (o := .list []) h9)
    have x12 := x9.trans (Ext.new (o := .dict [] 0) h12)
    refine ⟨rfl, h x dx a1 a12 _ _ (x12.set hdx) ⟨hx, hdx, e1.isNone h1, x9.isNone h12⟩ ?_ (upd_self _ _ _) (by walk_at "fg") (by walk_at "fg") ?_ ?_ (by ((repeat (first | exact Nat.zero_le _ | apply fset_le)))) ?_⟩
    · rw [upd_ne _ _ hne]; walk_at "st"
    · rw [upd_ne _ _ n1]; walk_at "st"
    · rw [upd_ne _ _ n12]; walk_at "st"
    · (repeat (refine fget_skip (by decide +kernel) ?_)); rfl
end

-- part W8
section
variable {P : Pg} {sc : Scope} {c : Cx P sc} {m : Loc} {d : Nat} {σ : Store} {Q : V → Store → Prop} {F : Fl → Loc → Store → Prop}
theorem add_signal (F : Facts P.K) {dz dx sl bp : Addr} {fd : List (PySem.Str × V)} {xs : List V} {bl : List (PySem.Str × V)} {ep : Nat} {path kind : PySem.Str} {w msb lsb at_ : Int} (hi : σ dz = some (.inst 148 dx)) (ha : σ dx = some (.attrs fd)) (hs : fget fd "signals" = some (.ref sl)) (hb : fget fd "by_path" = some (.ref bp))
    (hsl : σ sl = some (.list xs)) (hbp : σ bp = some (.dict (mapS bl) ep)) (hxl : xs.length ≤ 1000) (hbl : bl.length ≤ 1000)
    (h : ∀ s sx fs ep', σ s = none → σ sx = none → s ≠ sx → fget fs "kind" = some (.str kind) → fget fs "key" = some (.int xs.length) → Q (.ref s) (upd (upd (upd (upd σ s (.inst 85 sx)) sx (.attrs fs)) sl (.list (xs ++ [.ref s]))) bp (.dict (mapS (dset bl path (.int xs.length))) ep'))) :
    LeafC P (d + 3) (.ref 110) [.ref dz, .str path, .str kind, .int w, .bool false, .int msb, .int lsb, .int at_] σ (asV Q) := by
  refine fn_callC (exV := []) (ex := []) F.addSignal.fn ["self", "path", "kind", "width", "signed", "msb", "lsb", "at"] ?_ (fun h => VRs_nil.mpr rfl) (fun c hd => ?_) (by decide +kernel) (by kernel_rfl) (by kernel_rfl) (by kernel_rfl)
  · intro name kV doc pm an cdv ct us s hl _
    obtain ⟨a, b, c, d, e, f, g, i, rfl⟩ := len8 hl
    exact BindsTo.of_eq (by kernel_rfl)
  · show WB c _ (setL (setL (setL (setL (setL (setL (setL (setL emp "self" (.ref dz)) "path" (.str path)) "kind" (.str kind)) "width" (.int w)) "signed" (.bool false)) "msb" (.int msb)) "lsb" (.int lsb)) "at" (.int at_)) σ _
    ((show WB _ _ _ _ _; refine b_cons ?_))
    refine x_assign ?_
    refine e_call F.gSignal F.cSk ?_
    walk_at "e"
    (refine e_callB bt_len callee_builtin (Facts.b_len (by assumption)) ?_)
    (repeat walk_at "e")
    refine lf_getattr F.cD (attr_no F.cDa (by decide +kernel)) hi ha hs ?_
    (repeat walk_at "e")
    refine lf_len_list hsl (by omega) ?_
    (repeat walk_at "e")
    rw [hd]
    refine signal_make F fun s sx fs hns hnx hne f1 f2 f3 => ?_
    have hsx : s ≠ sx := hne
    have q1 : ∀ y o, σ y = some o → upd (upd σ s (.inst 85 sx)) sx (.attrs fs) y = some o := fun y o e => by
      rw [upd_ne _ _ (fun z => by subst z; rw [hnx] at e; cases e)]
      exact Ext.new hns _ _ e
    ((show WB _ _ _ _ _; refine b_cons ?_))
    refine x_assign_attr ?_
    (repeat walk_at "e")
    refine lf_setattr F.cS (attr_no F.cSa (by decide +kernel)) (by rw [upd_ne _ _ hsx]; exact upd_self _ _ _) (upd_self _ _ _) (by omega) ?_
    rw [upd_upd]
    generalize hfs' : fset fs "at" (.int at_) = fs'
    have f1' : fget fs' "kind" = some (.str kind) := by rw [← hfs']; exact fget_skip (by decide +kernel) f1
    have f2' : fget fs' "key" = some (.int xs.length) := by rw [← hfs']; exact fget_skip (by decide +kernel) f2
    have q2 : ∀ y o, σ y = some o → upd (upd σ s (.inst 85 sx)) sx (.attrs fs') y = some o := fun y o e => by
      rw [upd_ne _ _ (fun z => by subst z; rw [hnx] at e; cases e)]
      exact Ext.new hns _ _ e
    have hs1 : upd (upd σ s (.inst 85 sx)) sx (.attrs fs') s = some (.inst 85 sx) := by rw [upd_ne _ _ hsx]; exact upd_self _ _ _
    have hs2 : upd (upd σ s (.inst 85 sx)) sx (.attrs fs') sx = some (.attrs fs') := upd_self _ _ _
    have fin := h s sx fs'
    generalize upd (upd σ s (.inst 85 sx)) sx (.attrs fs') = σ1 at q2 hs1 hs2 fin ⊢
    have hsl1 := q2 _ _ hsl
    have hbp1 := q2 _ _ hbp
    ((show WB _ _ _ _ _; refine b_cons ?_))
    refine x_expr ?_
    refine e_meth ?_
    (repeat walk_at "e")
    refine lf_getattr F.cD (attr_no F.cDa (by decide +kernel)) (q2 _ _ hi) (q2 _ _ ha) hs ?_
    refine ⟨_, m_append hsl1, ?_⟩
    (repeat walk_at "e")
    refine lf_append hsl1 (by omega) ?_
    have ne1 : dz ≠ sl := fun z => by subst z; rw [hi] at hsl; cases hsl
    have ne2 : dx ≠ sl := fun z => by subst z; rw [ha] at hsl; cases hsl
    have ne3 : bp ≠ sl := fun z => by subst z; rw [hbp] at hsl; cases hsl
    have ne4 : s ≠ sl := fun z => by subst z; rw [hns] at hsl; cases hsl
    have ne5 : sx ≠ sl := fun z => by subst z; rw [hnx] at hsl; cases hsl
    have ne6 : s ≠ bp := fun z => by subst z; rw [hns] at hbp; cases hbp
    ((show WB _ _ _ _ _; refine b_cons ?_))
    refine x_assign_sub ?_
    (repeat walk_at "e")
    refine lf_getattr F.cS (attr_no F.cSa (by decide +kernel)) (by rw [upd_ne _ _ ne4]; exact hs1) (by rw [upd_ne _ _ ne5]; exact hs2) f2' ?_
    (repeat walk_at "e")
    refine lf_getattr F.cD (attr_no F.cDa (by decide +kernel)) (by rw [upd_ne _ _ ne1]; exact q2 _ _ hi) (by rw [upd_ne _ _ ne2]; exact q2 _ _ ha) hb ?_
    (repeat walk_at "e")
    refine lf_setS (by rw [upd_ne _ _ ne3]; exact hbp1) (by omega) fun ep' => ?_
    ((show WB _ _ _ _ _; refine b_cons ?_))
    refine x_return ?_
    (repeat walk_at "e")
    exact fin ep' hns hnx hsx f1' f2'
end

-- part W9
-- labelled objects
noncomputable def At (σ : Store) (ℓ : Addr → Nat) (a : Addr) (L : Nat) (o : O) : Prop := σ a = some o ∧ ℓ a = L
noncomputable def lab (ℓ : Addr → Nat) (a : Addr) (L : Nat) : Addr → Nat := fun x => if x = a then L else ℓ x
noncomputable def Keep (p : Nat → Prop) (σ : Store) (ℓ : Addr → Nat) (σ' : Store) (ℓ' : Addr → Nat) : Prop := ∀ x L o, p L → At σ ℓ x L o → At σ' ℓ' x L o
section
variable {σ σ' σ'' : Store} {ℓ ℓ' ℓ'' : Addr → Nat} {a : Addr} {L : Nat} {o o' : O} {p q : Nat → Prop}
theorem Keep.trans (h : Keep p σ ℓ σ' ℓ') (k : Keep q σ' ℓ' σ'' ℓ'') (hpq : ∀ L, p L → q L) : Keep p σ ℓ σ'' ℓ'' := fun x L o e z => k x L o (hpq L e) (h x L o e z)
theorem Keep.mono (h : Keep p σ ℓ σ' ℓ') (hqp : ∀ L, q L → p L) : Keep q σ ℓ σ' ℓ' := fun x L o e z => h x L o (hqp L e) z
theorem Keep.ext (h : Ext σ σ') : Keep p σ ℓ σ' ℓ := fun x L o _ z => ⟨h _ _ z.1, z.2⟩
theorem Keep.new (ha : σ a = none) : Keep p σ ℓ (upd σ a o) (lab ℓ a L) := fun x L' o' _ z => ⟨Ext.new ha _ _ z.1, by
  unfold lab; rw [if_neg (fun w => by subst w; have z1 := z.1; rw [ha] at z1; cases z1)]; exact z.2⟩
theorem Keep.lab (ha : σ a = none) : Keep p σ ℓ σ (lab ℓ a L) := fun x L' o' _ z => ⟨z.1, by
  unfold Mine.lab; rw [if_neg (fun w => by subst w; have z1 := z.1; rw [ha] at z1; cases z1)]; exact z.2⟩
theorem Keep.set (h : At σ ℓ a L o) : Keep (· ≠ L) σ ℓ (upd σ a o') ℓ := fun x L' o'' e z => ⟨by
  rw [upd_ne _ _ (fun w => by subst w; exact e (z.2.symm.trans h.2))]; exact z.1, z.2⟩
theorem Keep.but (h : At σ ℓ a L o) (hb : But a σ σ') : Keep (· ≠ L) σ ℓ σ' ℓ := fun x L' o'' e z => ⟨hb x o'' (fun w => by subst w; exact e (z.2.symm.trans h.2)) z.1, z.2⟩
theorem At.new (L : Nat) : At (upd σ a o) (lab ℓ a L) a L o := ⟨upd_self _ _ _, by unfold lab; simp⟩
theorem At.set (h : At σ ℓ a L o) : At (upd σ a o') ℓ a L o' := ⟨upd_self _ _ _, h.2⟩
end

-- the pure data of a case
structure Cd where
  sorts : List (PySem.Str × Nat)
  inputs : List Int
  pulls : List (List Int)
  cells : List (PySem.Str × List Int)
  links : List (Nat × Nat × Int)
noncomputable def Cd.w (c : Cd) (r : Nat) : Nat := ((c.sorts[r]?).map (·.2)).getD 0
noncomputable def Cd.kind (c : Cd) (r : Nat) : PySem.Str := ((c.sorts[r]?).map (·.1)).getD ""
noncomputable def Cd.off (c : Cd) : Nat → Nat
  | 0 => 2
  | r + 1 => c.off r + c.w r
noncomputable def Cd.net (c : Cd) (r b : Nat) : Int := (c.off r + b : Nat)
noncomputable def Cd.n (c : Cd) : Nat := c.sorts.length
noncomputable def Cd.top (c : Cd) : Nat := c.off c.n
noncomputable def Cd.count (c : Cd) : Nat := c.top + c.cells.length
noncomputable def srcOf (c : Cd) (l : List (Nat × Nat × Int)) (k : Int) : List Int := (l.filter fun x => c.net x.1 x.2.1 == k).map (·.2.2)
noncomputable def Cd.outs (c : Cd) : List (PySem.Str × Int × List Int) := (c.cells.zipIdx c.top).map fun p => (p.1.1, (p.2 : Int), p.1.2)
noncomputable def Cd.wd (c : Cd) : Wd where
  n := c.n
  kind := c.kind
  w := c.w
  net := c.net
  isIn := fun r => c.inputs.any (· == (r : Int))
  pulled := fun r b => c.pulls.any (· == [(r : Int), (b : Int)])
  src := srcOf c c.links
  cells := c.outs
structure Cd.Good (c : Cd) : Prop where
  few : c.sorts.length ≤ 8
  thin : ∀ p ∈ c.sorts, p.2 ≤ 2
  cells : c.cells.length ≤ 8
  ins : ∀ p ∈ c.cells, p.2.length ≤ 8 ∧ ∀ y ∈ p.2, 0 ≤ y ∧ y < c.count
  links : c.links.length ≤ 50 ∧ ∀ p ∈ c.links, p.1 < c.n ∧ p.2.1 < c.w p.1 ∧ 0 ≤ p.2.2 ∧ p.2.2 < c.count
  inputs : c.inputs.length ≤ 50
  pulls : c.pulls.length ≤ 50 ∧ ∀ k ∈ c.pulls, ∃ r b : Int, k = [r, b]

theorem Cd.w_le {c : Cd} (G : c.Good) (r : Nat) : c.w r ≤ 2 := by
  unfold Cd.w
  cases z : c.sorts[r]? with
  | none => simp
  | some p => simp; exact G.thin p (List.mem_of_getElem? z)
theorem Cd.off_mono (c : Cd) {r s : Nat} (h : r ≤ s) : c.off r ≤ c.off s := by
  induction s with
  | zero => have : r = 0 := by omega
            subst this; exact Nat.le_refl _
  | succ s ih =>
    rcases Nat.lt_or_ge s r with q | q
    · have : r = s + 1 := by omega
      subst this; exact Nat.le_refl _
    · have := ih q
      show _ ≤ c.off s + c.w s
      omega
theorem Cd.off_two (c : Cd) (r : Nat) : 2 ≤ c.off r := c.off_mono (Nat.zero_le r)
theorem Cd.off_le {c : Cd} (G : c.Good) (r : Nat) : c.off r ≤ 2 + 2 * r := by
  induction r with
  | zero => exact Nat.le_refl _
  | succ r ih => have := Cd.w_le G r; show c.off r + c.w r ≤ _; omega
theorem Cd.net_inj (c : Cd) {r b r' b' : Nat} (hb : b < c.w r) (hb' : b' < c.w r') (h : c.net r b = c.net r' b') : r = r' ∧ b = b' := by
  have h : c.off r + b = c.off r' + b' := by unfold Cd.net at h; omega
  rcases Nat.lt_trichotomy r r' with q | q | q
  · have := c.off_mono (r := r + 1) (s := r') q
    have e : c.off (r + 1) = c.off r + c.w r := rfl
    omega
  · subst q; exact ⟨rfl, by omega⟩
  · have := c.off_mono (r := r' + 1) (s := r) q
    have e : c.off (r' + 1) = c.off r' + c.w r' := rfl
    omega
theorem Cd.net_lt (c : Cd) {r b : Nat} (hr : r < c.n) (hb : b < c.w r) : 2 ≤ c.net r b ∧ c.net r b < c.top := by
  have h1 := c.off_two r
  have h2 := c.off_mono (r := r + 1) (s := c.n) hr
  have e : c.off (r + 1) = c.off r + c.w r := rfl
  unfold Cd.net Cd.top
  omega
theorem Cd.wd_good {c : Cd} (G : c.Good) : c.wd.Good where
  inj := fun r b r' b' hr hb hr' hb' e => c.net_inj hb hb' e
  few := by show c.sorts.length ≤ 100; have := G.few; omega
  thin := fun r => by show c.w r ≤ 100; have := Cd.w_le G r; omega
-- each net of a spot is some spot's

-- the parts of the store
noncomputable def Sigs (c : Cd) (σ : Store) (ℓ : Addr → Nat) (sl : Addr) (i : Nat) : Prop := ∃ xs, At σ ℓ sl 1 (.list xs) ∧ xs.length = i ∧ ∀ (r : Nat) x, xs[r]? = some x → ∃ s sx fs, x = .ref s ∧ At σ ℓ s 20 (.inst 85 sx) ∧ At σ ℓ sx 21 (.attrs fs) ∧ fget fs "kind" = some (.str (c.kind r)) ∧ fget fs "key" = some (.int r)
noncomputable def Nets (c : Cd) (σ : Store) (ℓ : Addr → Nat) (nt : Addr) (i : Nat) : Prop := ∃ l ep, At σ ℓ nt 4 (.dict (mapI l) ep) ∧ l.length = i ∧ (∀ r : Nat, i ≤ r → dget l (r : Int) = none) ∧ ∀ r : Nat, r < i → ∃ b, dget l (r : Int) = some (.ref b) ∧ At σ ℓ b 22 (.list (c.wd.netList r))
noncomputable def Srcs (σ : Store) (ℓ : Addr → Nat) (so : Addr) (top : Nat) (f : Int → List Int) : Prop := ∃ l ep, At σ ℓ so 5 (.dict (mapI l) ep) ∧ l.length + 2 = top ∧ ∀ k, match dget l k with
  | some v => 2 ≤ k ∧ k < top ∧ ∃ a, v = .ref a ∧ At σ ℓ a (100 + 2 * k.toNat) (.list ((f k).map .int))
  | none => ¬ (2 ≤ k ∧ k < top)
structure NetP (σ : Store) (ℓ : Addr → Nat) (nl nx ca : Addr) (fn : List (PySem.Str × V)) (cnt : Nat) (cs : List (PySem.Str × Int × List Int)) : Prop where
  i : At σ ℓ nl 13 (.inst 232 nx)
  a : At σ ℓ nx 3 (.attrs (fset fn "count" (.int cnt)))
  c : At σ ℓ ca 7 (.list (cs.map fun c => .tup [.str c.1, .int c.2.1, .tup (c.2.2.map .int), .none]))
structure FnOk (fn : List (PySem.Str × V)) (ca : Addr) : Prop where
  len : fn.length ≤ 5
  cells : fget fn "cells" = some (.ref ca)
  m1 : fget fn "new_net" = none
  m2 : fget fn "new_nets" = none
  m3 : fget fn "drive" = none
  m4 : fget fn "add_cell" = none
structure WrsP (σ : Store) (ℓ : Addr → Nat) (wi wx nt dr pu : Addr) (fw : List (PySem.Str × V)) : Prop where
  i : At σ ℓ wi 13 (.inst 267 wx)
  a : At σ ℓ wx 11 (.attrs fw)
  n : fget fw "nets" = some (.ref nt)
  d : fget fw "drivers" = some (.ref dr)
  p : fget fw "pulls" = some (.ref pu)
  len : fw.length ≤ 12
  m : fget fw "drive" = none
structure DsgP (σ : Store) (ℓ : Addr → Nat) (dz dx sl bp : Addr) (fd : List (PySem.Str × V)) (bn : Nat) : Prop where
  i : At σ ℓ dz 13 (.inst 148 dx)
  a : At σ ℓ dx 12 (.attrs fd)
  s : fget fd "signals" = some (.ref sl)
  b : fget fd "by_path" = some (.ref bp)
  bp : ∃ bl ep, At σ ℓ bp 2 (.dict (mapS bl) ep) ∧ bl.length ≤ bn
  m : fget fd "add_signal" = none
-- drivers, by spots
noncomputable def Drvs (c : Cd) (σ : Store) (ℓ : Addr → Nat) (dr : Addr) (f : Int → List Int) : Prop := ∃ l ep, At σ ℓ dr 8 (.dict (mapT l) ep) ∧ l.length ≤ 50 ∧ (∀ p ∈ l, ∃ r b : Nat, p.1 = [(r : Int), (b : Int)] ∧ r < c.n ∧ b < c.w r) ∧
  ∀ r b : Nat, r < c.n → b < c.w r → match dget l [(r : Int), (b : Int)] with
    | some v => ∃ a, v = .ref a ∧ At σ ℓ a (101 + 2 * (c.off r + b)) (.list ((f (c.net r b)).map .int))
    | none => f (c.net r b) = []
noncomputable def Puls (σ : Store) (ℓ : Addr → Nat) (pu : Addr) (ks : List (List Int)) : Prop := ∃ l ep, At σ ℓ pu 9 (.dict (mapT l) ep) ∧ l.length ≤ ks.length ∧ ∀ k, (dget l k).isSome = ks.any (· == k)
noncomputable def Gats (σ : Store) (ℓ : Addr → Nat) (ga : Addr) (cs : List (PySem.Str × Int × List Int)) : Prop := ∃ l ep, At σ ℓ ga 10 (.dict (mapI l) ep) ∧ l.map (·.1) = cs.map (·.2.1) ∧ ∀ (i : Nat) (c : PySem.Str × Int × List Int) (p : Int × V), cs[i]? = some c → l[i]? = some p → ∃ a, p.2 = .ref a ∧ At σ ℓ a 23 (.list ((if (["flop", "latch"] : List PySem.Str).any (· == c.1) = true then [] else c.2.2).map .int))

section
variable {c : Cd} {σ σ' : Store} {ℓ ℓ' : Addr → Nat} {p : Nat → Prop}
theorem Sigs.keep {sl i} (h : Sigs c σ ℓ sl i) (k : Keep p σ ℓ σ' ℓ') (h1 : p 1) (h2 : p 20) (h3 : p 21) : Sigs c σ' ℓ' sl i := by
  obtain ⟨xs, a, b, d⟩ := h
  refine ⟨xs, k _ _ _ h1 a, b, fun r x hx => ?_⟩
  obtain ⟨s, sx, fs, e1, e2, e3, e4⟩ := d r x hx
  exact ⟨s, sx, fs, e1, k _ _ _ h2 e2, k _ _ _ h3 e3, e4⟩
theorem Nets.keep {nt i} (h : Nets c σ ℓ nt i) (k : Keep p σ ℓ σ' ℓ') (h1 : p 4) (h2 : p 22) : Nets c σ' ℓ' nt i := by
  obtain ⟨l, ep, a, b, d, e⟩ := h
  refine ⟨l, ep, k _ _ _ h1 a, b, d, fun r hr => ?_⟩
  obtain ⟨x, e1, e2⟩ := e r hr
  exact ⟨x, e1, k _ _ _ h2 e2⟩
theorem Srcs.keep {so top f} (h : Srcs σ ℓ so top f) (k : Keep p σ ℓ σ' ℓ') (h1 : p 5) (h2 : ∀ j, p (100 + 2 * j)) : Srcs σ' ℓ' so top f := by
  obtain ⟨l, ep, a, b, d⟩ := h
  refine ⟨l, ep, k _ _ _ h1 a, b, fun j => ?_⟩
  have := d j
  cases z : dget l j with
  | none => rw [z] at this; exact this
  | some v => rw [z] at this; obtain ⟨q1, q2, x, q3, q4⟩ := this; exact ⟨q1, q2, x, q3, k _ _ _ (h2 _) q4⟩
theorem NetP.keep {nl nx ca fn cnt cs} (h : NetP σ ℓ nl nx ca fn cnt cs) (k : Keep p σ ℓ σ' ℓ') (h1 : p 13) (h2 : p 3) (h3 : p 7) : NetP σ' ℓ' nl nx ca fn cnt cs := ⟨k _ _ _ h1 h.i, k _ _ _ h2 h.a, k _ _ _ h3 h.c⟩
theorem WrsP.keep {wi wx nt dr pu fw} (h : WrsP σ ℓ wi wx nt dr pu fw) (k : Keep p σ ℓ σ' ℓ') (h1 : p 13) (h2 : p 11) : WrsP σ' ℓ' wi wx nt dr pu fw := ⟨k _ _ _ h1 h.i, k _ _ _ h2 h.a, h.n, h.d, h.p, h.len, h.m⟩
theorem DsgP.keep {dz dx sl bp fd bn} (h : DsgP σ ℓ dz dx sl bp fd bn) (k : Keep p σ ℓ σ' ℓ') (h1 : p 13) (h2 : p 12) (h3 : p 2) : DsgP σ' ℓ' dz dx sl bp fd bn := ⟨k _ _ _ h1 h.i, k _ _ _ h2 h.a, h.s, h.b, let ⟨bl, ep, x, y⟩ := h.bp; ⟨bl, ep, k _ _ _ h3 x, y⟩, h.m⟩
theorem Drvs.keep {dr f} (h : Drvs c σ ℓ dr f) (k : Keep p σ ℓ σ' ℓ') (h1 : p 8) (h2 : ∀ j, p (101 + 2 * j)) : Drvs c σ' ℓ' dr f := by
  obtain ⟨l, ep, a, b, d, e⟩ := h
  refine ⟨l, ep, k _ _ _ h1 a, b, d, fun r b hr hb => ?_⟩
  have := e r b hr hb
  cases z : dget l [(r : Int), (b : Int)] with
  | none => rw [z] at this; exact this
  | some v => rw [z] at this; obtain ⟨x, q1, q2⟩ := this; exact ⟨x, q1, k _ _ _ (h2 _) q2⟩
theorem Puls.keep {pu ks} (h : Puls σ ℓ pu ks) (k : Keep p σ ℓ σ' ℓ') (h1 : p 9) : Puls σ' ℓ' pu ks := let ⟨l, ep, a, b⟩ := h; ⟨l, ep, k _ _ _ h1 a, b⟩
theorem Gats.keep {ga cs} (h : Gats σ ℓ ga cs) (k : Keep p σ ℓ σ' ℓ') (h1 : p 10) (h2 : p 23) : Gats σ' ℓ' ga cs := by
  obtain ⟨l, ep, a, b, d⟩ := h
  refine ⟨l, ep, k _ _ _ h1 a, b, fun i c q hc hq => ?_⟩
  obtain ⟨x, e1, e2⟩ := d i c q hc hq
  exact ⟨x, e1, k _ _ _ h2 e2⟩
end

-- part W10
noncomputable def caseB : List Stmt := fnBody (top 18)
structure Ad where
  dz : Addr
  dx : Addr
  sl : Addr
  bp : Addr
  nl : Addr
  nx : Addr
  ca : Addr
  wi : Addr
  wx : Addr
  nt : Addr
  dr : Addr
  pu : Addr
  re : Addr
  so : Addr
  fd : List (PySem.Str × V)
  fn : List (PySem.Str × V)
  fw : List (PySem.Str × V)
noncomputable def Old (σ0 σ : Store) (ℓ : Addr → Nat) : Prop := ∀ x o, σ0 x = some o → At σ ℓ x 14 o
theorem Old.keep {σ0 σ σ' : Store} {ℓ ℓ' : Addr → Nat} {p : Nat → Prop} (h : Old σ0 σ ℓ) (k : Keep p σ ℓ σ' ℓ') (h1 : p 14) : Old σ0 σ' ℓ' := fun x o e => k _ _ _ h1 (h x o e)
structure CS (C : Cd) (A : Ad) (σ0 σ : Store) (ℓ : Addr → Nat) (si ni tp : Nat) (f : Int → List Int) (rest : List Int) (cnt : Nat) (cs : List (PySem.Str × Int × List Int)) (fd : Int → List Int) (ks : List (List Int)) : Prop where
  old : Old σ0 σ ℓ
  sigs : Sigs C σ ℓ A.sl si
  nets : Nets C σ ℓ A.nt ni
  srcs : Srcs σ ℓ A.so tp f
  rest : At σ ℓ A.re 6 (.list (rest.map .int))
  np : NetP σ ℓ A.nl A.nx A.ca A.fn cnt cs
  ws : WrsP σ ℓ A.wi A.wx A.nt A.dr A.pu A.fw
  ds : DsgP σ ℓ A.dz A.dx A.sl A.bp A.fd si
  drv : Drvs C σ ℓ A.dr fd
  pul : Puls σ ℓ A.pu ks
section
variable {C : Cd} {A : Ad} {σ0 σ σ' : Store} {ℓ ℓ' : Addr → Nat} {p : Nat → Prop} {si ni tp cnt : Nat} {f fd : Int → List Int} {rest : List Int} {cs : List (PySem.Str × Int × List Int)} {ks : List (List Int)}
theorem CS.keep (h : CS C A σ0 σ ℓ si ni tp f rest cnt cs fd ks) (k : Keep (fun _ => True) σ ℓ σ' ℓ') : CS C A σ0 σ' ℓ' si ni tp f rest cnt cs fd ks :=
  ⟨h.old.keep k trivial, h.sigs.keep k trivial trivial trivial, h.nets.keep k trivial trivial, h.srcs.keep k trivial (fun _ => trivial), k _ _ _ trivial h.rest, h.np.keep k trivial trivial trivial, h.ws.keep k trivial trivial, h.ds.keep k trivial trivial trivial, h.drv.keep k trivial (fun _ => trivial), h.pul.keep k trivial⟩
end
noncomputable def LocA (m : Loc) (so inn pl ce li : Addr) : Prop := m "sorts" = some (.ref so) ∧ m "inputs" = some (.ref inn) ∧ m "pulls" = some (.ref pl) ∧ m "cells" = some (.ref ce) ∧ m "links" = some (.ref li)
noncomputable def LocB (m : Loc) (A : Ad) : Prop := m "design" = some (.ref A.dz) ∧ m "netlist" = some (.ref A.nl) ∧ m "wires" = some (.ref A.wi) ∧ m "resting" = some (.ref A.re) ∧ m "sources" = some (.ref A.so)
theorem lab_self (ℓ : Addr → Nat) (a : Addr) (L : Nat) : lab ℓ a L a = L := by unfold lab; simp
theorem lab_ne (ℓ : Addr → Nat) {a b : Addr} (L : Nat) (h : b ≠ a) : lab ℓ a L b = ℓ b := by unfold lab; rw [if_neg h]

section
variable {P : Pg} {c : Cx P (fnScope (top 18))} {d : Nat} {σ0 : Store} {Fin : Fl → Loc → Store → Prop}
theorem kinds_ne {σ : Store} {a b : Addr} {o o' : O} (h : σ a = some o) (k : σ b = some o') (hne : o ≠ o') : a ≠ b := fun z => by subst z; rw [h] at k; cases k; exact hne rfl
theorem phaseA (F : Facts P.K) (hd : c.d = d + 3) {C : Cd} {m : Loc} {so inn pl ce li : Addr} (hl : LocA m so inn pl ce li)
    (h : ∀ A m σ ℓ, CS C A σ0 σ ℓ 0 0 2 (fun _ => []) [] 2 [] (fun _ => []) [] → FnOk A.fn A.ca → LocA m so inn pl ce li → LocB m A → WB c (caseB.drop 5) m σ Fin) : WB c caseB m σ0 Fin := by
  obtain ⟨l1, l2, l3, l4, l5⟩ := hl
  ((show WB _ _ _ _ _; refine b_cons ?_))
  refine x_assign ?_
  refine e_call F.gDesign F.cDk ?_
  (repeat walk_at "e")
  rw [hd]
  refine design_make F fun dz dx sl bp fd σ1 e1 ⟨f1, f2, f3, f4⟩ d1 d2 d3 d4 d5 d6 d7 d8 => ?_
  ((show WB _ _ _ _ _; refine b_cons ?_))
  refine x_assign ?_
  refine e_call F.gNetlist F.cNk ?_
  (repeat walk_at "e")
  rw [hd]
  refine netlist_make F fun nl nx ca fn σ2 e2 ⟨g1, g2, g3⟩ n1 n2 n3 n4 n5 n6 ⟨n7, n8, n9, n10⟩ => ?_
  ((show WB _ _ _ _ _; refine b_cons ?_))
  refine x_assign ?_
  refine e_call F.gWires F.cWk ?_
  (repeat walk_at "e")
  rw [hd]
  refine wires_make F fun wi wx nt dr pu fw σ3 e3 ⟨h1, h2, h3, h4, h5⟩ w1 w2 w3 w4 w5 w6 w7 w8 ⟨w9, w10, w11⟩ w12 w13 => ?_
  ((show WB _ _ _ _ _; refine b_cons ?_))
  refine x_assign ?_
  (repeat walk_at "e")
  refine ⟨by simp, fun re hre => ?_⟩
  ((show WB _ _ _ _ _; refine b_cons ?_))
  refine x_assign ?_
  (repeat walk_at "e")
  intro sd hsd
  -- labels
  have k1 : Keep (fun _ => True) σ0 (fun _ => 14) σ1 (lab (lab (lab (lab (fun _ => 14) dz 13) dx 12) sl 1) bp 2) :=
    (((Keep.lab f1).trans (Keep.lab f2) fun _ z => z).trans (Keep.lab f3) (fun _ z => z)).trans ((Keep.lab f4).trans (Keep.ext e1) fun _ z => z) fun _ z => z
  have D1 : DsgP σ1 (lab (lab (lab (lab (fun _ => 14) dz 13) dx 12) sl 1) bp 2) dz dx sl bp fd 0 := by
    have z1 : dz ≠ dx := kinds_ne d1 d2 (by simp)
    have z2 : dz ≠ sl := kinds_ne d1 d5 (by simp)
    have z3 : dz ≠ bp := kinds_ne d1 d6 (by simp)
    have z4 : dx ≠ sl := kinds_ne d2 d5 (by simp)
    have z5 : dx ≠ bp := kinds_ne d2 d6 (by simp)
    refine ⟨⟨d1, ?_⟩, ⟨d2, ?_⟩, d3, d4, ⟨[], 0, ⟨d6, lab_self _ _ _⟩, by simp⟩, d8⟩
    · rw [lab_ne _ _ z3, lab_ne _ _ z2, lab_ne _ _ z1, lab_self]
    · rw [lab_ne _ _ z5, lab_ne _ _ z4, lab_self]
  have S1 : At σ1 (lab (lab (lab (lab (fun _ => 14) dz 13) dx 12) sl 1) bp 2) sl 1 (.list []) := by
    have z6 : sl ≠ bp := kinds_ne d5 d6 (by simp)
    exact ⟨d5, by rw [lab_ne _ _ z6, lab_self]⟩
  generalize lab (lab (lab (lab (fun _ => 14) dz 13) dx 12) sl 1) bp 2 = ℓ1 at k1 D1 S1
  have k2 : Keep (fun _ => True) σ1 ℓ1 σ2 (lab (lab (lab ℓ1 nl 13) nx 3) ca 7) :=
    ((Keep.lab g1).trans (Keep.lab g2) fun _ z => z).trans ((Keep.lab g3).trans (Keep.ext e2) fun _ z => z) (fun _ z => z)
  have N1 : NetP σ2 (lab (lab (lab ℓ1 nl 13) nx 3) ca 7) nl nx ca fn 2 [] := by
    have z1 : nl ≠ nx := kinds_ne n1 n2 (by simp)
    have z2 : nl ≠ ca := kinds_ne n1 n5 (by simp)
    have z3 : nx ≠ ca := kinds_ne n2 n5 (by simp)
    refine ⟨⟨n1, by rw [lab_ne _ _ z2, lab_ne _ _ z1, lab_self]⟩, ⟨?_, by rw [lab_ne _ _ z3, lab_self]⟩, ⟨n5, lab_self _ _ _⟩⟩
    rw [fset_same (by simpa using n3)]; exact n2
  generalize lab (lab (lab ℓ1 nl 13) nx 3) ca 7 = ℓ2 at k2 N1
  have k3 : Keep (fun _ => True) σ2 ℓ2 σ3 (lab (lab (lab (lab (lab ℓ2 wi 13) wx 11) nt 4) dr 8) pu 9) :=
    (((Keep.lab h1).trans (Keep.lab h2) fun _ z => z).trans (Keep.lab h3) (fun _ z => z)).trans (((Keep.lab h4).trans (Keep.lab h5) fun _ z => z).trans (Keep.ext e3) fun _ z => z) fun _ z => z
  have z1 : wi ≠ wx := kinds_ne w1 w2 (by simp)
  have z2 : wi ≠ nt := kinds_ne w1 w6 (by simp)
  have z3 : wi ≠ dr := kinds_ne w1 w7 (by simp)
  have z4 : wi ≠ pu := kinds_ne w1 w8 (by simp)
  have z5 : wx ≠ nt := kinds_ne w2 w6 (by simp)
  have z6 : wx ≠ dr := kinds_ne w2 w7 (by simp)
  have z7 : wx ≠ pu := kinds_ne w2 w8 (by simp)
  have W1 : WrsP σ3 (lab (lab (lab (lab (lab ℓ2 wi 13) wx 11) nt 4) dr 8) pu 9) wi wx nt dr pu fw :=
    ⟨⟨w1, by rw [lab_ne _ _ z4, lab_ne _ _ z3, lab_ne _ _ z2, lab_ne _ _ z1, lab_self]⟩, ⟨w2, by rw [lab_ne _ _ z7, lab_ne _ _ z6, lab_ne _ _ z5, lab_self]⟩, w3, w4, w5, by omega, w13⟩
  have N2 : At σ3 (lab (lab (lab (lab (lab ℓ2 wi 13) wx 11) nt 4) dr 8) pu 9) nt 4 (.dict [] 0) := ⟨w6, by rw [lab_ne _ _ w10, lab_ne _ _ w9, lab_self]⟩
  have R2 : At σ3 (lab (lab (lab (lab (lab ℓ2 wi 13) wx 11) nt 4) dr 8) pu 9) dr 8 (.dict [] 0) := ⟨w7, by rw [lab_ne _ _ w11, lab_self]⟩
  have P2 : At σ3 (lab (lab (lab (lab (lab ℓ2 wi 13) wx 11) nt 4) dr 8) pu 9) pu 9 (.dict [] 0) := ⟨w8, lab_self _ _ _⟩
  generalize lab (lab (lab (lab (lab ℓ2 wi 13) wx 11) nt 4) dr 8) pu 9 = ℓ3 at k3 W1 N2 R2 P2
  have k4 : Keep (fun _ => True) σ3 ℓ3 (upd σ3 re (.list [])) (lab ℓ3 re 6) := Keep.new hre
  have E1 : At (upd σ3 re (.list [])) (lab ℓ3 re 6) re 6 (.list []) := At.new 6
  generalize upd σ3 re (.list []) = σ4 at k4 E1 hsd
  generalize lab ℓ3 re 6 = ℓ4 at k4 E1
  have k5 : Keep (fun _ => True) σ4 ℓ4 (upd σ4 sd (.dict [] 0)) (lab ℓ4 sd 5) := Keep.new hsd
  have O1 : At (upd σ4 sd (.dict [] 0)) (lab ℓ4 sd 5) sd 5 (.dict [] 0) := At.new 5
  have k45 := k4.trans k5 fun _ z => z
  have k35 := k3.trans k45 fun _ z => z
  have k25 := k2.trans k35 fun _ z => z
  refine h ⟨dz, dx, sl, bp, nl, nx, ca, wi, wx, nt, dr, pu, re, sd, fd, fn, fw⟩ _ _ (lab ℓ4 sd 5) ⟨?_, ?_, ?_, ?_, ?_, ?_, ?_, ?_, ?_, ?_⟩ ⟨n6, n4, n7, n8, n9, n10⟩ ⟨?_, ?_, ?_, ?_, ?_⟩ ⟨?_, ?_, ?_, ?_, ?_⟩
  · exact fun x o e => (k1.trans k25 fun _ z => z) x 14 o trivial ⟨e, rfl⟩
  · exact ⟨[], k25 _ _ _ trivial S1, rfl, fun r x hx => by simp at hx⟩
  · exact ⟨[], 0, k45 _ _ _ trivial N2, rfl, fun r _ => rfl, fun r hr => by omega⟩
  · exact ⟨[], 0, O1, rfl, fun k => by show ¬ _; omega⟩
  · exact k5 _ _ _ trivial E1
  · exact N1.keep k35 trivial trivial trivial
  · exact W1.keep k45 trivial trivial
  · exact D1.keep k25 trivial trivial trivial
  · exact ⟨[], 0, k45 _ _ _ trivial R2, by simp, (fun p hp => by cases hp), fun r b _ _ => rfl⟩
  · exact ⟨[], 0, k45 _ _ _ trivial P2, by simp, fun k => rfl⟩
  all_goals walk_at "lk"
end

-- part W11
section
variable {C : Cd} {A : Ad} {σ0 σ σ' : Store} {ℓ ℓ' : Addr → Nat} {p : Nat → Prop} {si ni tp cnt : Nat} {f fd : Int → List Int} {rest : List Int} {cs : List (PySem.Str × Int × List Int)} {ks : List (List Int)}

theorem CS.addSig (h : CS C A σ0 σ ℓ si ni tp f rest cnt cs fd ks) {xs : List V} {bl : List (PySem.Str × V)} {ep ep' : Nat} {s sx : Addr} {fs : List (PySem.Str × V)} {path : PySem.Str}
    (hxs : At σ ℓ A.sl 1 (.list xs)) (hlen : xs.length = si) (hat : ∀ (r : Nat) x, xs[r]? = some x → ∃ s sx fs, x = .ref s ∧ At σ ℓ s 20 (.inst 85 sx) ∧ At σ ℓ sx 21 (.attrs fs) ∧ fget fs "kind" = some (.str (C.kind r)) ∧ fget fs "key" = some (.int r))
    (hbl : At σ ℓ A.bp 2 (.dict (mapS bl) ep)) (hbn : bl.length ≤ si) (hs : σ s = none) (hsx : σ sx = none) (hne : s ≠ sx) (f1 : fget fs "kind" = some (.str (C.kind si))) (f2 : fget fs "key" = some (.int si)) :
    CS C A σ0 (upd (upd (upd (upd σ s (.inst 85 sx)) sx (.attrs fs)) A.sl (.list (xs ++ [.ref s]))) A.bp (.dict (mapS (dset bl path (.int xs.length))) ep')) (lab (lab ℓ s 20) sx 21) (si + 1) ni tp f rest cnt cs fd ks := by
  have hsx' : upd σ s (.inst 85 sx) sx = none := by rw [upd_ne _ _ (Ne.symm hne)]; exact hsx
  have k1 : Keep (fun _ => True) σ ℓ (upd (upd σ s (.inst 85 sx)) sx (.attrs fs)) (lab (lab ℓ s 20) sx 21) := (Keep.new hs).trans (Keep.new hsx') fun _ z => z
  have a1 : At (upd (upd σ s (.inst 85 sx)) sx (.attrs fs)) (lab (lab ℓ s 20) sx 21) s 20 (.inst 85 sx) := (Keep.new (p := fun _ => True) (L := 21) hsx') _ _ _ trivial (At.new 20)
  have a2 : At (upd (upd σ s (.inst 85 sx)) sx (.attrs fs)) (lab (lab ℓ s 20) sx 21) sx 21 (.attrs fs) := At.new 21
  have a3 := k1 _ _ _ trivial hxs
  have a4 := k1 _ _ _ trivial hbl
  generalize upd (upd σ s (.inst 85 sx)) sx (.attrs fs) = σ1 at *
  generalize lab (lab ℓ s 20) sx 21 = ℓ1 at *
  have k2 : Keep (· ≠ 1) σ1 ℓ1 (upd σ1 A.sl (.list (xs ++ [.ref s]))) ℓ1 := Keep.set a3
  have a5 := k2 _ _ _ (by decide) a4
  have k3 : Keep (· ≠ 2) (upd σ1 A.sl (.list (xs ++ [.ref s]))) ℓ1 (upd (upd σ1 A.sl (.list (xs ++ [.ref s]))) A.bp (.dict (mapS (dset bl path (.int xs.length))) ep')) ℓ1 := Keep.set a5
  have a6 := k3 A.sl 1 _ (by decide) (At.set a3)
  have a7 := At.set (o' := .dict (mapS (dset bl path (.int xs.length))) ep') a5
  have k : Keep (fun L => L ≠ 1 ∧ L ≠ 2) σ ℓ (upd (upd σ1 A.sl (.list (xs ++ [.ref s]))) A.bp (.dict (mapS (dset bl path (.int xs.length))) ep')) ℓ1 :=
    (k1.mono fun _ _ => trivial).trans ((k2.mono fun _ z => z.1).trans k3 fun _ z => z.2) fun _ z => z
  have k23 : Keep (fun L => L ≠ 1 ∧ L ≠ 2) σ1 ℓ1 (upd (upd σ1 A.sl (.list (xs ++ [.ref s]))) A.bp (.dict (mapS (dset bl path (.int xs.length))) ep')) ℓ1 := (k2.mono fun _ z => z.1).trans k3 fun _ z => z.2
  refine ⟨h.old.keep k (by decide), ⟨_, a6, by simp [hlen], fun r x hx => ?_⟩, h.nets.keep k (by decide) (by decide), h.srcs.keep k (by decide) (fun j => by omega), k _ _ _ (by decide) h.rest, h.np.keep k (by decide) (by decide) (by decide), h.ws.keep k (by decide) (by decide),
    ⟨k _ _ _ (by decide) h.ds.i, k _ _ _ (by decide) h.ds.a, h.ds.s, h.ds.b, ⟨_, ep', a7, Nat.le_trans (dset_length_le _ _ _) (by omega)⟩, h.ds.m⟩, h.drv.keep k (by decide) (fun j => by omega), h.pul.keep k (by decide)⟩
  by_cases q : r < xs.length
  · rw [List.getElem?_append_left q] at hx
    obtain ⟨s', sx', fs', e1, e2, e3, e4⟩ := hat r x hx
    exact ⟨s', sx', fs', e1, k _ _ _ (by decide) e2, k _ _ _ (by decide) e3, e4⟩
  · rw [List.getElem?_append_right (by omega)] at hx
    have hr : r = xs.length := by
      have := (List.getElem?_eq_some_iff.mp hx).1
      simp at this; omega
    subst hr
    simp at hx
    subst hx
    exact ⟨s, sx, fs, rfl, k23 _ _ _ (by decide) a1, k23 _ _ _ (by decide) a2, by rw [hlen]; exact f1, by rw [hlen]; exact f2⟩

theorem CS.setNets (h : CS C A σ0 σ ℓ si ni tp f rest cnt cs fd ks) {l : List (Int × V)} {ep ep' : Nat} {b : Addr} (hl : At σ ℓ A.nt 4 (.dict (mapI l) ep)) (hlen : l.length = ni) (hno : ∀ r : Nat, ni ≤ r → dget l (r : Int) = none) (hat : ∀ r : Nat, r < ni → ∃ b, dget l (r : Int) = some (.ref b) ∧ At σ ℓ b 22 (.list (C.wd.netList r)))
    (hb : At σ ℓ b 22 (.list (C.wd.netList ni))) : CS C A σ0 (upd σ A.nt (.dict (mapI (dset l (ni : Int) (.ref b))) ep')) ℓ si (ni + 1) tp f rest cnt cs fd ks := by
  have k : Keep (· ≠ 4) σ ℓ (upd σ A.nt (.dict (mapI (dset l (ni : Int) (.ref b))) ep')) ℓ := Keep.set hl
  have hn := hno ni (Nat.le_refl _)
  refine ⟨h.old.keep k (by decide), h.sigs.keep k (by decide) (by decide) (by decide), ⟨_, ep', At.set hl, ?_, fun r hr => ?_, fun r hr => ?_⟩, h.srcs.keep k (by decide) (fun j => by omega), k _ _ _ (by decide) h.rest, h.np.keep k (by decide) (by decide) (by decide), h.ws.keep k (by decide) (by decide),
    h.ds.keep k (by decide) (by decide) (by decide), h.drv.keep k (by decide) (fun j => by omega), h.pul.keep k (by decide)⟩
  · rw [dset_new (fun hm => by obtain ⟨w, e, _⟩ := dget_key hm; rw [hn] at e; cases e)]
    simp [hlen]
  · rw [dget_dset hn, if_neg (by omega)]; exact hno r (by omega)
  · rw [dget_dset hn]
    by_cases q : r = ni
    · subst q; rw [if_pos rfl]; exact ⟨b, rfl, k _ _ _ (by decide) hb⟩
    · rw [if_neg (by omega)]
      obtain ⟨x, e1, e2⟩ := hat r (by omega)
      exact ⟨x, e1, k _ _ _ (by decide) e2⟩
-- a new source list
theorem CS.newSrc (h : CS C A σ0 σ ℓ si ni tp (fun _ => []) rest cnt cs fd ks) {l : List (Int × V)} {ep ep' : Nat} {a : Addr} (ha : σ a = none) (hl : At σ ℓ A.so 5 (.dict (mapI l) ep)) (hlen : l.length + 2 = tp) (htp : 2 ≤ tp)
    (hat : ∀ k, match dget l k with | some v => 2 ≤ k ∧ k < tp ∧ ∃ a, v = .ref a ∧ At σ ℓ a (100 + 2 * k.toNat) (.list []) | none => ¬ (2 ≤ k ∧ k < tp)) :
    CS C A σ0 (upd (upd σ a (.list [])) A.so (.dict (mapI (dset l (tp : Int) (.ref a))) ep')) (lab ℓ a (100 + 2 * tp)) si ni (tp + 1) (fun _ => []) rest cnt cs fd ks := by
  have k1 : Keep (fun _ => True) σ ℓ (upd σ a (.list [])) (lab ℓ a (100 + 2 * tp)) := Keep.new ha
  have a1 : At (upd σ a (.list [])) (lab ℓ a (100 + 2 * tp)) a (100 + 2 * tp) (.list []) := At.new _
  have a2 := k1 _ _ _ trivial hl
  generalize upd σ a (.list []) = σ1 at *
  generalize lab ℓ a (100 + 2 * tp) = ℓ1 at *
  have k2 : Keep (· ≠ 5) σ1 ℓ1 (upd σ1 A.so (.dict (mapI (dset l (tp : Int) (.ref a))) ep')) ℓ1 := Keep.set a2
  have k : Keep (· ≠ 5) σ ℓ (upd σ1 A.so (.dict (mapI (dset l (tp : Int) (.ref a))) ep')) ℓ1 := (k1.mono fun _ _ => trivial).trans k2 fun _ z => z
  have hn : dget l (tp : Int) = none := by
    have := hat tp
    cases z : dget l (tp : Int) with
    | none => rfl
    | some v => rw [z] at this; omega
  refine ⟨h.old.keep k (by decide), h.sigs.keep k (by decide) (by decide) (by decide), h.nets.keep k (by decide) (by decide), ⟨_, ep', At.set a2, ?_, fun j => ?_⟩, k _ _ _ (by decide) h.rest, h.np.keep k (by decide) (by decide) (by decide), h.ws.keep k (by decide) (by decide),
    h.ds.keep k (by decide) (by decide) (by decide), h.drv.keep k (by decide) (fun j => by omega), h.pul.keep k (by decide)⟩
  · rw [dset_new (fun hm => by obtain ⟨w, e, _⟩ := dget_key hm; rw [hn] at e; cases e)]
    simp; omega
  · rw [dget_dset hn]
    by_cases q : j = tp
    · subst q
      rw [if_pos rfl]
      exact ⟨by omega, by omega, a, rfl, k2 _ _ _ (by omega) a1⟩
    · rw [if_neg q]
      have := hat j
      cases z : dget l j with
      | none => rw [z] at this; show ¬ _; omega
      | some v => rw [z] at this; obtain ⟨q1, q2, x, q3, q4⟩ := this; exact ⟨q1, by omega, x, q3, k _ _ _ (by omega) q4⟩
theorem CS.pushRest (h : CS C A σ0 σ ℓ si ni tp f rest cnt cs fd ks) (x : Int) : CS C A σ0 (upd σ A.re (.list (rest.map .int ++ [.int x]))) ℓ si ni tp f (rest ++ [x]) cnt cs fd ks := by
  have k : Keep (· ≠ 6) σ ℓ (upd σ A.re (.list (rest.map .int ++ [.int x]))) ℓ := Keep.set h.rest
  refine ⟨h.old.keep k (by decide), h.sigs.keep k (by decide) (by decide) (by decide), h.nets.keep k (by decide) (by decide), h.srcs.keep k (by decide) (fun j => by omega), ?_, h.np.keep k (by decide) (by decide) (by decide), h.ws.keep k (by decide) (by decide),
    h.ds.keep k (by decide) (by decide) (by decide), h.drv.keep k (by decide) (fun j => by omega), h.pul.keep k (by decide)⟩
  have := At.set (o' := .list (rest.map .int ++ [.int x])) h.rest
  rw [List.map_append]; exact this
-- new nets
theorem CS.newNets (h : CS C A σ0 σ ℓ si ni tp f rest cnt cs fd ks) {w : Nat} (hb : But A.nx σ σ') (hx : σ' A.nx = some (.attrs (fset (fset A.fn "count" (.int cnt)) "count" (.int ((cnt : Int) + w))))) : CS C A σ0 σ' ℓ si ni tp f rest (cnt + w) cs fd ks := by
  have k : Keep (· ≠ 3) σ ℓ σ' ℓ := Keep.but h.np.a hb
  refine ⟨h.old.keep k (by decide), h.sigs.keep k (by decide) (by decide) (by decide), h.nets.keep k (by decide) (by decide), h.srcs.keep k (by decide) (fun j => by omega), k _ _ _ (by decide) h.rest, ⟨k _ _ _ (by decide) h.np.i, ⟨?_, h.np.a.2⟩, k _ _ _ (by decide) h.np.c⟩, h.ws.keep k (by decide) (by decide),
    h.ds.keep k (by decide) (by decide) (by decide), h.drv.keep k (by decide) (fun j => by omega), h.pul.keep k (by decide)⟩
  rw [hx, fset_fset]; rfl
end

-- part W12
-- the arguments of a case
structure Arg0 (C : Cd) (σ0 : Store) (so inn pl ce li : Addr) : Prop where
  so : σ0 so = some (.list (C.sorts.map fun p => .tup [.str p.1, .int (p.2 : Nat)]))
  inn : σ0 inn = some (.list (C.inputs.map .int))
  pl : σ0 pl = some (.list (C.pulls.map keyT))
  ce : σ0 ce = some (.list (C.cells.map fun p => .tup [.str p.1, .tup (p.2.map .int)]))
  li : σ0 li = some (.list (C.links.map fun p => .tup [.int (p.1 : Nat), .int (p.2.1 : Nat), .int p.2.2]))
theorem gen2 {α β : Type} {p : α → β → Prop} {q : α → Prop} {a : α} {b : β} (h : p a b) (k : ∀ a b, p a b → q a) : q a := k a b h
theorem path_len : ∀ j < 8, (Str.ofString "top.s").length + (Str.ofString (toString ((j : Nat) : Int))).length ≤ sizeLine := by decide +kernel

section
variable {P : Pg} {c : Cx P (fnScope (top 18))} {d : Nat} {σ0 : Store} {Fin : Fl → Loc → Store → Prop}
theorem phaseB (F : Facts P.K) (hd : c.d = d + 3) {C : Cd} (G : C.Good) {A : Ad} {m : Loc} {σ : Store} {ℓ : Addr → Nat} {so inn pl ce li : Addr} (ar : Arg0 C σ0 so inn pl ce li) (fo : FnOk A.fn A.ca)
    (S : CS C A σ0 σ ℓ 0 0 2 (fun _ => []) [] 2 [] (fun _ => []) []) (hl : LocA m so inn pl ce li) (hb : LocB m A)
    (h : ∀ m σ ℓ, CS C A σ0 σ ℓ C.n C.n C.top (fun _ => []) C.wd.rest C.top [] (fun _ => []) [] → LocA m so inn pl ce li → LocB m A → WB c (caseB.drop 6) m σ Fin) : WB c (caseB.drop 5) m σ Fin := by
  obtain ⟨l1, l2, l3, l4, l5⟩ := hl
  obtain ⟨b1, b2, b3, b4, b5⟩ := hb
  have few := G.few
  ((show WB _ _ _ _ _; refine b_cons ?_))
  refine x_for ?_
  (refine e_callB bt_range callee_type (Facts.b_range (by assumption)) ?_)
  walk_at "e"
  (refine e_callB bt_len callee_builtin (Facts.b_len (by assumption)) ?_)
  (repeat walk_at "e")
  refine lf_len_list (S.old _ _ ar.so).1 (by rw [List.length_map]; omega) ?_
  (repeat walk_at "e")
  rw [List.length_map]
  refine lf_range fun ra hra => ?_
  let J : Nat → Loc → Store → Prop := fun i m σ => ∃ ℓ, CS C A σ0 σ ℓ i i (C.off i) (fun _ => []) (C.wd.nets (restUp C.wd i)) (C.off i) [] (fun _ => []) [] ∧ LocA m so inn pl ce li ∧ LocB m A
  refine ⟨_, _, iter_range (upd_self _ _ _) (by omega) (by omega), J, ?_, ?_, ?_, ?_⟩
  · exact ⟨ℓ, S.keep (Keep.ext (Ext.new hra)), ⟨l1, l2, l3, l4, l5⟩, ⟨b1, b2, b3, b4, b5⟩⟩
  · intros; trivial
  · rintro c' hd' i x m σ hx ⟨ℓ, S, ⟨l1, l2, l3, l4, l5⟩, ⟨b1, b2, b3, b4, b5⟩⟩
    obtain ⟨hi, rfl⟩ := range_item hx
    have hi : i < C.sorts.length := by omega
    obtain ⟨⟨kind, w⟩, hp⟩ : ∃ p, C.sorts[i]? = some p := ⟨_, List.getElem?_eq_getElem hi⟩
    have hkind : C.kind i = kind := by unfold Cd.kind; rw [hp]; rfl
    have hw : C.w i = w := by unfold Cd.w; rw [hp]; rfl
    have hw2 := Cd.w_le G i
    have hoff := Cd.off_le G i
    have hoff2 := C.off_two i
    refine a_name ?_
    ((show WB _ _ _ _ _; refine b_cons ?_))
    refine x_assign_tuple ?_
    (repeat walk_at "e")
    refine lf_item_list (x := .tup [.str kind, .int (w : Nat)]) (S.old _ _ ar.so).1 (by omega) (by simp [hp]) (by omega) ?_
    refine a_tuple ?_
    refine a_name ?_
    refine a_name ?_
    ((show WB _ _ _ _ _; refine b_cons ?_))
    refine x_expr ?_
    refine e_meth ?_
    (repeat walk_at "e")
    obtain ⟨bl, bep, hbl, hbn⟩ := S.ds.bp
    obtain ⟨xs, hxs, hxl, hxat⟩ := S.sigs
    refine ⟨_, meth_inst F.cD F.m110 F.t110 F.addSignal.keep S.ds.i.1 S.ds.a.1 S.ds.m, ?_⟩
    walk_at "e"
    (repeat walk_at "e")
    (refine e_callB bt_str callee_type (Facts.b_str (by assumption)) ?_)
    (repeat walk_at "e")
    refine lf_str_int (by omega) (by omega) ?_
    refine lf_add_str ?_ (path_len i (by omega))
    (repeat walk_at "e")
    refine lf_sub ?_
    (repeat walk_at "e")
    refine lf_neg ?_
    (repeat walk_at "e")
    rw [hd', hd]
    refine (add_signal F S.ds.i.1 S.ds.a.1 S.ds.s S.ds.b hxs.1 hbl.1 (by omega) (by omega) fun s sx fs ep' hs hsx hne f1 f2 => ?_).leaf
    have S2 := S.addSig (ep' := ep') (path := Str.ofString "top.s" ++ Str.ofString (toString (i : Int))) hxs hxl hxat hbl hbn hs hsx hne (by rw [hkind]; exact f1) (by rw [hxl] at f2; exact f2)
    clear S hbl hxs hxat
    show WB _ _ _ _ _
    refine gen2 (p := fun σ ℓ => CS C A σ0 σ ℓ (i + 1) i (C.off i) (fun _ => []) (C.wd.nets (restUp C.wd i)) (C.off i) [] (fun _ => []) []) (q := fun σ => WB c' _ _ σ _) S2 ?_
    clear S2 hs hsx
    intro σ ℓ S
    have hnx : A.nl ≠ A.nx := kinds_ne S.np.i.1 S.np.a.1 (by simp)
    ((show WB _ _ _ _ _; refine b_cons ?_))
    refine x_assign_sub ?_
    refine e_meth ?_
    (repeat walk_at "e")
    refine ⟨_, meth_inst F.cN F.m185 F.t185 F.newNets.keep S.np.i.1 S.np.a.1 (fget_skip (by decide +kernel) fo.m2), ?_⟩
    (repeat walk_at "e")
    rw [hd', hd]
    have fl := fo.len
    have fl2 := fset_length (name := "count") A.fn (.int (C.off i : Nat))
    refine (new_nets F S.np.i.1 S.np.a.1 (fget_set _ _ _) (fget_skip (by decide +kernel) fo.m1) (by omega) (by omega) fun a σ' ha hbut hnx' hal => ?_).leaf
    have S2 := (S.keep (Keep.lab (L := 22) ha)).newNets hbut hnx'
    have hnew : At σ' (lab ℓ a 22) a 22 (.list (C.wd.netList i)) := by
      refine ⟨?_, lab_self _ _ _⟩
      rw [hal]
      show _ = some (O.list ((List.range (C.w i)).map fun b => V.int (C.net i b)))
      rw [hw]
      congr 3
    (repeat walk_at "e")
    refine lf_getattr F.cW (attr_no F.cWa (by decide +kernel)) S2.ws.i.1 S2.ws.a.1 S2.ws.n ?_
    (repeat walk_at "e")
    obtain ⟨nl, nep, n1, n2, n3, n4⟩ := S2.nets
    refine lf_setI n1.1 (by omega) fun ep2 => ?_
    have S3 := S2.setNets (ep' := ep2) n1 n2 n3 n4 hnew
    rw [show C.off i + w = C.off (i + 1) by show _ = C.off i + C.w i; rw [hw]] at S3
    show WB _ _ _ _ _
    refine gen2 (p := fun σ ℓ => CS C A σ0 σ ℓ (i + 1) (i + 1) (C.off i) (fun _ => []) (C.wd.nets (restUp C.wd i)) (C.off (i + 1)) [] (fun _ => []) []) (q := fun σ => WB c' _ _ σ _) S3 ?_
    clear S3 S2 hnew hal hnx' hbut ha n1 n4 S
    intro σ ℓ S
    ((show WB _ _ _ _ _; refine b_cons ?_))
    refine x_for ?_
    (refine e_callB bt_range callee_type (Facts.b_range (by assumption)) ?_)
    (repeat walk_at "e")
    refine lf_range fun rb hrb => ?_
    let J : Nat → Loc → Store → Prop := fun b m σ => ∃ ℓ, CS C A σ0 σ ℓ (i + 1) (i + 1) (C.off i + b) (fun _ => []) (C.wd.nets (restUp C.wd i ++ restIn C.wd i b)) (C.off (i + 1)) [] (fun _ => []) [] ∧ LocA m so inn pl ce li ∧ LocB m A ∧ m "ref" = some (.int i) ∧ m "sort" = some (.str kind)
    refine ⟨_, _, iter_range (upd_self _ _ _) (by omega) (by omega), J, ?_, ?_, ?_, ?_⟩
    · refine ⟨ℓ, ?_, ⟨?_, ?_, ?_, ?_, ?_⟩, ⟨?_, ?_, ?_, ?_, ?_⟩, ?_, ?_⟩
      · have : restIn C.wd i 0 = [] := rfl
        rw [this, List.append_nil, Nat.add_zero]
        exact S.keep (Keep.ext (Ext.new hrb))
      all_goals walk_at "lk"
    · intros; trivial
    · clear S
      rintro c2 hd2 b x m σ hx ⟨ℓ, S, ⟨l1, l2, l3, l4, l5⟩, ⟨b1, b2, b3, b4, b5⟩, r1, r2⟩
      obtain ⟨hb, rfl⟩ := range_item hx
      have hb : b < C.w i := by rw [hw]; omega
      have hidx : (C.wd.netList i)[((b : Nat) : Int).toNat]? = some (.int (C.net i b)) := by
        show ((List.range (C.w i)).map fun b => V.int (C.net i b))[_]? = _
        simp [hb]
      refine a_name ?_
      ((show WB _ _ _ _ _; refine b_cons ?_))
      refine x_assign_sub ?_
      (repeat walk_at "e")
      refine ⟨by simp, fun a ha => ?_⟩
      have e := Ext.new (o := .list []) ha
      obtain ⟨sl, sep, s1, s2, s3⟩ := S.srcs
      obtain ⟨nl, nep, n1, n2, n3, n4⟩ := S.nets
      obtain ⟨nb, n5, n6⟩ := n4 i (by omega)
      (repeat walk_at "e")
      refine lf_getattr F.cW (attr_no F.cWa (by decide +kernel)) (e _ _ S.ws.i.1) (e _ _ S.ws.a.1) S.ws.n ?_
      (repeat walk_at "e")
      refine lf_itemI (e _ _ n1.1) n5 ?_
      (repeat walk_at "e")
      refine lf_item_list (e _ _ n6.1) (by omega) hidx (by omega) ?_
      have htp : 2 ≤ C.off i + b := by omega
      refine lf_setI (k := C.net i b) (e _ _ s1.1) (by omega) fun ep2 => ?_
      have S2 := S.newSrc (ep' := ep2) ha s1 s2 htp (by
        intro k
        have := s3 k
        cases z : dget sl k with
        | none => rw [z] at this; exact this
        | some v => rw [z] at this; exact this)
      show WB _ _ _ _ _
      refine gen2 (p := fun σ ℓ => CS C A σ0 σ ℓ (i + 1) (i + 1) (C.off i + (b + 1)) (fun _ => []) (C.wd.nets (restUp C.wd i ++ restIn C.wd i b)) (C.off (i + 1)) [] (fun _ => []) []) (q := fun σ => WB c2 _ _ σ _) S2 ?_
      clear S2 e ha s1 s3 n1 n4 n6 S
      intro σ ℓ S
      obtain ⟨nl, nep, n1, n2, n3, n4⟩ := S.nets
      obtain ⟨nb, n5, n6⟩ := n4 i (by omega)
      have hnext : restIn C.wd i (b + 1) = restIn C.wd i b ++ if C.wd.ok i b = true then [(i, b)] else [] := rfl
      have done : C.wd.ok i b = false → CS C A σ0 σ ℓ (i + 1) (i + 1) (C.off i + (b + 1)) (fun _ => []) (C.wd.nets (restUp C.wd i ++ restIn C.wd i (b + 1))) (C.off (i + 1)) [] (fun _ => []) [] := fun z => by
        rw [hnext, z]; simpa using S
      ((show WB _ _ _ _ _; refine b_cons ?_))
      refine x_if ?_
      refine t_and ?_
      refine ts_cons ?_
      (repeat walk_at "e")
      refine ⟨by simp, ?_⟩
      refine lf_inS (xs := ["wire", "tri", "wand", "wor"]) (bIf (fun q => ?_) fun q => ?_)
      · refine ts_cons ?_
        (repeat walk_at "e")
        refine lf_ninL (S.old _ _ ar.inn).1 (bIf (fun q2 => ?_) fun q2 => ?_)
        · refine ts_cons ?_
          (repeat walk_at "e")
          refine ⟨by simp, ?_⟩
          (repeat walk_at "e")
          refine lf_ninK (k := [(i : Int), (b : Int)]) (S.old _ _ ar.pl).1 (bIf (fun q3 => ?_) fun q3 => ?_)
          · refine ts_nil ?_
            have hok : C.wd.ok i b = true := by
              show ((([Str.ofString "wire", Str.ofString "tri", Str.ofString "wand", Str.ofString "wor"] : List PySem.Str).any fun x => x == C.kind i) && !(C.inputs.any fun x => x == (i : Int)) && !(C.pulls.any fun x => x == [(i : Int), (b : Int)])) = true
              rw [hkind, q, q2, q3]; rfl
            ((show WB _ _ _ _ _; refine b_cons ?_))
            refine x_expr ?_
            refine e_meth ?_
            (repeat walk_at "e")
            refine ⟨_, m_append S.rest.1, ?_⟩
            (repeat walk_at "e")
            refine lf_getattr F.cW (attr_no F.cWa (by decide +kernel)) S.ws.i.1 S.ws.a.1 S.ws.n ?_
            (repeat walk_at "e")
            refine lf_itemI n1.1 n5 ?_
            (repeat walk_at "e")
            refine lf_item_list n6.1 (by omega) hidx (by omega) ?_
            (repeat walk_at "e")
            have hlen := restUp_len (Cd.wd_good G) i
            have hlen2 := restIn_len C.wd i b
            refine lf_append S.rest.1 (by rw [List.length_map]; unfold Wd.nets; rw [List.length_map, List.length_append]; omega) ?_
            ((show WB _ [] _ _ _; refine b_nil ?_))
            ((show WB _ [] _ _ _; refine b_nil ?_))
            refine ⟨ℓ, ?_, ⟨?_, ?_, ?_, ?_, ?_⟩, ⟨?_, ?_, ?_, ?_, ?_⟩, ?_, ?_⟩
            · have S2 := S.pushRest (C.net i b)
              have e : C.wd.nets (restUp C.wd i ++ restIn C.wd i (b + 1)) = C.wd.nets (restUp C.wd i ++ restIn C.wd i b) ++ [C.net i b] := by
                rw [hnext, hok, if_pos rfl, ← List.append_assoc]
                unfold Wd.nets
                rw [List.map_append]
                rfl
              rw [e]; exact S2
            all_goals walk_at "lk"
          · ((show WB _ [] _ _ _; refine b_nil ?_))
            ((show WB _ [] _ _ _; refine b_nil ?_))
            refine ⟨ℓ, done ?_, ⟨?_, ?_, ?_, ?_, ?_⟩, ⟨?_, ?_, ?_, ?_, ?_⟩, ?_, ?_⟩
            · show (_ && _ && !(C.pulls.any fun x => x == [(i : Int), (b : Int)])) = false
              rw [q3, Bool.and_false]
            all_goals walk_at "lk"
        · ((show WB _ [] _ _ _; refine b_nil ?_))
          ((show WB _ [] _ _ _; refine b_nil ?_))
          refine ⟨ℓ, done ?_, ⟨?_, ?_, ?_, ?_, ?_⟩, ⟨?_, ?_, ?_, ?_, ?_⟩, ?_, ?_⟩
          · show (_ && !(C.inputs.any fun x => x == (i : Int)) && _) = false
            rw [q2, Bool.and_false, Bool.false_and]
          all_goals walk_at "lk"
      · ((show WB _ [] _ _ _; refine b_nil ?_))
        ((show WB _ [] _ _ _; refine b_nil ?_))
        refine ⟨ℓ, done ?_, ⟨?_, ?_, ?_, ?_, ?_⟩, ⟨?_, ?_, ?_, ?_, ?_⟩, ?_, ?_⟩
        · show ((([Str.ofString "wire", Str.ofString "tri", Str.ofString "wand", Str.ofString "wor"] : List PySem.Str).any fun x => x == C.kind i) && _ && _) = false
          rw [hkind, q, Bool.false_and, Bool.false_and]
        all_goals walk_at "lk"
    · rintro m σ ⟨ℓ, S, la, lb, r1, r2⟩
      ((show WB _ [] _ _ _; refine b_nil ?_))
      refine ⟨ℓ, ?_, la, lb⟩
      have hfull : ((List.range (((w : Nat) : Int).toNat)).map fun (k : Nat) => V.int (k : Int)).length = C.w i := by simp [hw]
      rw [hfull] at S
      exact S
  · rintro m σ ⟨ℓ, S, la, lb⟩
    have hfull : ((List.range (((C.sorts.length : Nat) : Int).toNat)).map fun (k : Nat) => V.int (k : Int)).length = C.n := by simp [Cd.n]
    rw [hfull] at S
    exact h m σ ℓ S la lb
end

-- part W13
section
variable {C : Cd} {A : Ad} {σ0 σ σ' : Store} {ℓ ℓ' : Addr → Nat} {p : Nat → Prop} {si ni tp cnt : Nat} {f fd : Int → List Int} {rest : List Int} {cs : List (PySem.Str × Int × List Int)} {ks : List (List Int)}
theorem dset_mem {K α : Type} [DecidableEq K] {l : List (K × α)} {k k' : K} {v : α} : k' ∈ (dset l k v).map (·.1) ↔ k' ∈ l.map (·.1) ∨ k' = k := by
  unfold dset
  split
  · rename_i h
    have : (l.map fun kv => if kv.1 = k then (kv.1, v) else kv).map (·.1) = l.map (·.1) := by
      rw [List.map_map]
      apply List.map_congr_left
      intro a _
      show (if a.1 = k then (a.1, v) else a).1 = a.1
      split <;> rfl
    rw [this]
    constructor
    · exact .inl
    · rintro (h' | rfl)
      · exact h'
      · obtain ⟨p, hp, e⟩ := List.any_eq_true.mp h
        have : p.1 = k' := by simpa using e
        exact this ▸ List.mem_map_of_mem hp
  · simp
theorem cell_keep (h : CS C A σ0 σ ℓ si ni tp f rest cnt cs fd ks) (v : V) (o : O) : Keep (fun L => L ≠ 3 ∧ L ≠ 7) σ ℓ (upd (upd σ A.nx (.attrs (fset (fset A.fn "count" (.int (cnt : Nat))) "count" v))) A.ca o) ℓ := by
  have k1 : Keep (· ≠ 3) σ ℓ (upd σ A.nx (.attrs (fset (fset A.fn "count" (.int (cnt : Nat))) "count" v))) ℓ := Keep.set h.np.a
  exact (k1.mono fun _ z => z.1).trans (Keep.set (k1 _ _ _ (by decide) h.np.c)) fun _ z => z.2
theorem CS.addCell (h : CS C A σ0 σ ℓ si ni tp f rest cnt cs fd ks) {kind : PySem.Str} {ins : List Int} :
    CS C A σ0 (upd (upd σ A.nx (.attrs (fset (fset A.fn "count" (.int (cnt : Nat))) "count" (.int ((cnt : Nat) + 1))))) A.ca (.list ((cs.map fun c => V.tup [.str c.1, .int c.2.1, .tup (c.2.2.map .int), .none]) ++ [.tup [.str kind, .int (cnt : Nat), .tup (ins.map .int), .none]]))) ℓ si ni tp f rest (cnt + 1) (cs ++ [(kind, (cnt : Int), ins)]) fd ks := by
  have k := cell_keep h (.int ((cnt : Nat) + 1)) (.list ((cs.map fun c => V.tup [.str c.1, .int c.2.1, .tup (c.2.2.map .int), .none]) ++ [.tup [.str kind, .int (cnt : Nat), .tup (ins.map .int), .none]]))
  have hne : A.nx ≠ A.ca := kinds_ne h.np.a.1 h.np.c.1 (by simp)
  refine ⟨h.old.keep k (by decide), h.sigs.keep k (by decide) (by decide) (by decide), h.nets.keep k (by decide) (by decide), h.srcs.keep k (by decide) (fun j => by omega), k _ _ _ (by decide) h.rest, ⟨k _ _ _ (by decide) h.np.i, ⟨?_, h.np.a.2⟩, ⟨?_, h.np.c.2⟩⟩, h.ws.keep k (by decide) (by decide),
    h.ds.keep k (by decide) (by decide) (by decide), h.drv.keep k (by decide) (fun j => by omega), h.pul.keep k (by decide)⟩
  · rw [upd_ne _ _ hne, upd_self, fset_fset]; rfl
  · rw [upd_self, List.map_append]; rfl
theorem CS.setPul (h : CS C A σ0 σ ℓ si ni tp f rest cnt cs fd ks) {l : List (List Int × V)} {ep ep' : Nat} {k0 : List Int} {v : V} (hl : At σ ℓ A.pu 9 (.dict (mapT l) ep)) (hn : l.length ≤ ks.length) (hk : ∀ k, (dget l k).isSome = ks.any (· == k)) :
    CS C A σ0 (upd σ A.pu (.dict (mapT (dset l k0 v)) ep')) ℓ si ni tp f rest cnt cs fd (ks ++ [k0]) := by
  have k : Keep (· ≠ 9) σ ℓ (upd σ A.pu (.dict (mapT (dset l k0 v)) ep')) ℓ := Keep.set hl
  refine ⟨h.old.keep k (by decide), h.sigs.keep k (by decide) (by decide) (by decide), h.nets.keep k (by decide) (by decide), h.srcs.keep k (by decide) (fun j => by omega), k _ _ _ (by decide) h.rest, h.np.keep k (by decide) (by decide) (by decide), h.ws.keep k (by decide) (by decide),
    h.ds.keep k (by decide) (by decide) (by decide), h.drv.keep k (by decide) (fun j => by omega), ⟨_, ep', At.set hl, ?_, fun j => ?_⟩⟩
  · rw [List.length_append]; exact Nat.le_trans (dset_length_le _ _ _) (Nat.succ_le_succ hn)
  · rw [dget_keys, List.any_append, ← hk j, dget_keys, Bool.eq_iff_iff, Bool.or_eq_true]
    simp only [decide_eq_true_iff]
    rw [dset_mem]
    refine or_congr Iff.rfl ⟨fun e => ?_, fun e => ?_⟩
    · rw [e]; simp
    · have : k0 = j := by simpa using e
      exact this.symm
theorem gat_push (S : CS C A σ0 σ ℓ si ni tp f rest cnt cs fd ks) {ga a : Addr} {gs : List (PySem.Str × Int × List Int)} (GG : Gats σ ℓ ga gs) (ha : σ a = none) {kind : PySem.Str} {out : Int} {ins : List Int} (hnew : out ∉ gs.map (·.2.1)) :
    ∃ l ep, upd σ a (.list ((if (["flop", "latch"] : List PySem.Str).any (· == kind) = true then [] else ins).map .int)) ga = some (.dict (mapI l) ep) ∧ l.length = gs.length ∧ ∀ ep', ∃ ℓ',
      CS C A σ0 (upd (upd σ a (.list ((if (["flop", "latch"] : List PySem.Str).any (· == kind) = true then [] else ins).map .int))) ga (.dict (mapI (dset l out (.ref a))) ep')) ℓ' si ni tp f rest cnt cs fd ks ∧
      Gats (upd (upd σ a (.list ((if (["flop", "latch"] : List PySem.Str).any (· == kind) = true then [] else ins).map .int))) ga (.dict (mapI (dset l out (.ref a))) ep')) ℓ' ga (gs ++ [(kind, out, ins)]) := by
  obtain ⟨l, ep, g1, g2, g3⟩ := GG
  have hll : l.length = gs.length := by have := congrArg List.length g2; simpa using this
  have k1 : Keep (fun _ => True) σ ℓ (upd σ a (.list ((if (["flop", "latch"] : List PySem.Str).any (· == kind) = true then [] else ins).map .int))) (lab ℓ a 23) := Keep.new ha
  have a1 : At (upd σ a (.list ((if (["flop", "latch"] : List PySem.Str).any (· == kind) = true then [] else ins).map .int))) (lab ℓ a 23) a 23 _ := At.new 23
  have a2 := k1 _ _ _ trivial g1
  refine ⟨l, ep, a2.1, hll, fun ep' => ⟨lab ℓ a 23, ?_, ?_⟩⟩
  all_goals generalize upd σ a (.list ((if (["flop", "latch"] : List PySem.Str).any (· == kind) = true then [] else ins).map .int)) = σ1 at k1 a1 a2 ⊢
  all_goals generalize lab ℓ a 23 = ℓ1 at k1 a1 a2 ⊢
  · have k2 : Keep (· ≠ 10) σ1 ℓ1 (upd σ1 ga (.dict (mapI (dset l out (.ref a))) ep')) ℓ1 := Keep.set a2
    have k : Keep (· ≠ 10) σ ℓ (upd σ1 ga (.dict (mapI (dset l out (.ref a))) ep')) ℓ1 := (k1.mono fun _ _ => trivial).trans k2 fun _ z => z
    exact ⟨S.old.keep k (by decide), S.sigs.keep k (by decide) (by decide) (by decide), S.nets.keep k (by decide) (by decide), S.srcs.keep k (by decide) (fun j => by omega), k _ _ _ (by decide) S.rest, S.np.keep k (by decide) (by decide) (by decide), S.ws.keep k (by decide) (by decide),
      S.ds.keep k (by decide) (by decide) (by decide), S.drv.keep k (by decide) (fun j => by omega), S.pul.keep k (by decide)⟩
  · have k2 : Keep (· ≠ 10) σ1 ℓ1 (upd σ1 ga (.dict (mapI (dset l out (.ref a))) ep')) ℓ1 := Keep.set a2
    have k : Keep (· ≠ 10) σ ℓ (upd σ1 ga (.dict (mapI (dset l out (.ref a))) ep')) ℓ1 := (k1.mono fun _ _ => trivial).trans k2 fun _ z => z
    rw [dset_new (by rw [g2]; exact hnew)] at k2 k ⊢
    refine ⟨_, ep', At.set a2, by simp [g2], fun i c p hc hp => ?_⟩
    by_cases q : i < gs.length
    · rw [List.getElem?_append_left q] at hc
      rw [List.getElem?_append_left (by omega)] at hp
      obtain ⟨x, e1, e2⟩ := g3 i c p hc hp
      exact ⟨x, e1, k _ _ _ (by decide) e2⟩
    · rw [List.getElem?_append_right (by omega)] at hc
      rw [List.getElem?_append_right (by omega)] at hp
      have hi : i = gs.length := by
        have := (List.getElem?_eq_some_iff.mp hc).1
        simp at this; omega
      subst hi
      simp at hc
      simp [hll] at hp
      subst hc; subst hp
      exact ⟨a, rfl, k2 _ _ _ (by decide) a1⟩
end
theorem Cd.outs_get {C : Cd} {i : Nat} {kind : PySem.Str} {ins : List Int} (h : C.cells[i]? = some (kind, ins)) : C.outs[i]? = some (kind, ((C.top + i : Nat) : Int), ins) := by
  unfold Cd.outs
  rw [List.getElem?_map, List.getElem?_zipIdx, h]
  rfl

section
variable {P : Pg} {c : Cx P (fnScope (top 18))} {d : Nat} {σ0 : Store} {Fin : Fl → Loc → Store → Prop}
theorem phaseC (F : Facts P.K) (hd : c.d = d + 3) {C : Cd} (G : C.Good) {A : Ad} {m : Loc} {σ : Store} {ℓ : Addr → Nat} {so inn pl ce li : Addr} (ar : Arg0 C σ0 so inn pl ce li) (fo : FnOk A.fn A.ca)
    (S : CS C A σ0 σ ℓ C.n C.n C.top (fun _ => []) C.wd.rest C.top [] (fun _ => []) []) (hl : LocA m so inn pl ce li) (hb : LocB m A)
    (h : ∀ ga m σ ℓ, CS C A σ0 σ ℓ C.n C.n C.top (fun _ => []) C.wd.rest C.count C.outs (fun _ => []) [] → Gats σ ℓ ga C.outs → LocA m so inn pl ce li → LocB m A → m "gates" = some (.ref ga) → WB c (caseB.drop 8) m σ Fin) : WB c (caseB.drop 6) m σ Fin := by
  obtain ⟨l1, l2, l3, l4, l5⟩ := hl
  obtain ⟨b1, b2, b3, b4, b5⟩ := hb
  have hcl := G.cells
  have hol : C.outs.length = C.cells.length := by unfold Cd.outs; simp
  ((show WB _ _ _ _ _; refine b_cons ?_))
  refine x_assign ?_
  (repeat walk_at "e")
  intro ga hga
  have S1 := S.keep (Keep.new (o := .dict [] 0) (L := 10) hga)
  have G1 : Gats (upd σ ga (.dict [] 0)) (lab ℓ ga 10) ga [] := ⟨[], 0, At.new 10, rfl, fun i c p hc => by simp at hc⟩
  ((show WB _ _ _ _ _; refine b_cons ?_))
  refine x_for ?_
  (repeat walk_at "e")
  let J : Nat → Loc → Store → Prop := fun i m σ => ∃ ℓ, CS C A σ0 σ ℓ C.n C.n C.top (fun _ => []) C.wd.rest (C.top + i) (C.outs.take i) (fun _ => []) [] ∧ Gats σ ℓ ga (C.outs.take i) ∧ LocA m so inn pl ce li ∧ LocB m A ∧ m "gates" = some (.ref ga)
  refine ⟨_, _, iter_list (S1.old _ _ ar.ce).1, J, ?_, ?_, ?_, ?_⟩
  · refine ⟨_, by simpa using S1, by simpa using G1, ⟨?_, ?_, ?_, ?_, ?_⟩, ⟨?_, ?_, ?_, ?_, ?_⟩, ?_⟩
    all_goals walk_at "lk"
  · rintro i m σ ⟨ℓ, S, _⟩; exact (S.old _ _ ar.ce).1
  · clear S S1 G1 hga
    rintro c' hd' i x m σ hx ⟨ℓ, S, GG, ⟨l1, l2, l3, l4, l5⟩, ⟨b1, b2, b3, b4, b5⟩, g1⟩
    rw [List.getElem?_map] at hx
    obtain ⟨⟨kind, ins⟩, hp, rfl⟩ := Option.map_eq_some_iff.mp hx
    have hi : i < C.cells.length := (List.getElem?_eq_some_iff.mp hp).1
    have hout := Cd.outs_get hp
    have hins := G.ins _ (List.mem_of_getElem? hp)
    refine a_tuple ?_
    refine a_name ?_
    refine a_name ?_
    ((show WB _ _ _ _ _; refine b_cons ?_))
    refine x_assign ?_
    refine e_meth ?_
    (repeat walk_at "e")
    have fl := fo.len
    have fl2 := fset_length (name := "count") A.fn (.int (C.top + i : Nat))
    refine ⟨_, meth_inst F.cN F.m207 F.t207 F.addCell.keep S.np.i.1 S.np.a.1 (fget_skip (by decide +kernel) fo.m4), ?_⟩
    (repeat walk_at "e")
    rw [hd', hd]
    refine (add_cell F S.np.i.1 S.np.a.1 (fget_set _ _ _) (fget_skip (by decide +kernel) fo.cells) S.np.c.1 (by rw [List.length_map, List.length_take]; omega) (by omega) (fget_skip (by decide +kernel) fo.m1) (fget_skip (by decide +kernel) fo.m3) ?_).leaf
    have S2 := S.addCell (kind := kind) (ins := ins)
    have G2 := GG.keep (cell_keep S (.int ((C.top + i : Nat) + 1)) (.list (((C.outs.take i).map fun c => V.tup [.str c.1, .int c.2.1, .tup (c.2.2.map .int), .none]) ++ [.tup [.str kind, .int (C.top + i : Nat), .tup (ins.map .int), .none]]))) (by decide) (by decide)
    rw [← take_next hout] at S2
    show WB _ _ _ _ _
    refine gen2 (p := fun σ ℓ => CS C A σ0 σ ℓ C.n C.n C.top (fun _ => []) C.wd.rest (C.top + (i + 1)) (C.outs.take (i + 1)) (fun _ => []) [] ∧ Gats σ ℓ ga (C.outs.take i)) (q := fun σ => WB c' _ _ σ _) ⟨S2, G2⟩ ?_
    clear S2 G2 S GG
    rintro σ ℓ ⟨S, GG⟩
    have hnew : ((C.top : Int) + i) ∉ (C.outs.take i).map (·.2.1) := by
      intro hm
      obtain ⟨p, hp', e⟩ := List.mem_map.mp hm
      obtain ⟨j, hj⟩ := List.getElem?_of_mem hp'
      have hji : j < i := by
        have := (List.getElem?_eq_some_iff.mp hj).1
        rw [List.length_take] at this; omega
      rw [List.getElem?_take_of_lt hji] at hj
      have hjc : j < C.cells.length := by omega
      have := Cd.outs_get (C := C) (i := j) (kind := C.cells[j].1) (ins := C.cells[j].2) (by rw [List.getElem?_eq_getElem hjc])
      rw [this] at hj
      have hj := Option.some.inj hj
      subst hj
      dsimp only at e
      omega
    have hl8 : (C.outs.take i).length ≤ 8 := by rw [List.length_take]; omega
    have hlen8 : ins.length ≤ 8 := hins.1
    ((show WB _ _ _ _ _; refine b_cons ?_))
    refine x_assign_sub ?_
    refine e_ifexp ?_
    (repeat walk_at "e")
    refine ⟨by simp, ?_⟩
    refine lf_inS (xs := ["flop", "latch"]) (bIf (fun q => ?_) fun q => ?_)
    · (repeat walk_at "e")
      refine ⟨by simp, fun a ha => ?_⟩
      (repeat walk_at "e")
      obtain ⟨l, ep, p1, p2, p3⟩ := gat_push S GG ha (kind := kind) (out := (C.top : Int) + i) (ins := ins) hnew
      have q' : ((["flop", "latch"] : List PySem.Str).any fun x => x == kind) = true := q
      rw [if_pos q'] at p1 p3
      refine lf_setI (k := (C.top : Int) + i) p1 (by omega) fun ep' => ?_
      obtain ⟨ℓ', S3, G3⟩ := p3 ep'
      ((show WB _ [] _ _ _; refine b_nil ?_))
      refine ⟨ℓ', S3, ?_, ⟨?_, ?_, ?_, ?_, ?_⟩, ⟨?_, ?_, ?_, ?_, ?_⟩, ?_⟩
      · rw [take_next hout]; exact G3
      all_goals walk_at "lk"
    · (refine e_callB bt_list callee_type (Facts.b_list (by assumption)) ?_)
      (repeat walk_at "e")
      refine lf_list_tup (by rw [List.length_map]; omega) fun a ha => ?_
      (repeat walk_at "e")
      obtain ⟨l, ep, p1, p2, p3⟩ := gat_push S GG ha (kind := kind) (out := (C.top : Int) + i) (ins := ins) hnew
      have q' : ¬ ((["flop", "latch"] : List PySem.Str).any fun x => x == kind) = true := fun z => by
        have q0 : ((["flop", "latch"] : List PySem.Str).any fun x => x == kind) = false := q
        rw [q0] at z; cases z
      rw [if_neg q'] at p1 p3
      refine lf_setI (k := (C.top : Int) + i) p1 (by omega) fun ep' => ?_
      obtain ⟨ℓ', S3, G3⟩ := p3 ep'
      ((show WB _ [] _ _ _; refine b_nil ?_))
      refine ⟨ℓ', S3, ?_, ⟨?_, ?_, ?_, ?_, ?_⟩, ⟨?_, ?_, ?_, ?_, ?_⟩, ?_⟩
      · rw [take_next hout]; exact G3
      all_goals walk_at "lk"
  · rintro m σ ⟨ℓ, S, GG, la, lb, g1⟩
    have hfull : (C.cells.map fun p => V.tup [.str p.1, .tup (p.2.map .int)]).length = C.outs.length := by rw [hol]; simp
    rw [hfull] at S GG
    rw [List.take_length] at S GG
    rw [hol] at S
    exact h ga m σ ℓ S GG la lb g1
end

-- part W14
section
variable {C : Cd} {A : Ad} {σ0 σ σ' : Store} {ℓ ℓ' : Addr → Nat} {p : Nat → Prop} {si ni tp cnt : Nat} {f fd : Int → List Int} {rest : List Int} {cs : List (PySem.Str × Int × List Int)} {ks : List (List Int)}
noncomputable def bump (f : Int → List Int) (k x : Int) : Int → List Int := fun j => if j = k then f j ++ [x] else f j
theorem srcOf_snoc (C : Cd) (l : List (Nat × Nat × Int)) (r b : Nat) (x : Int) : srcOf C (l ++ [(r, b, x)]) = bump (srcOf C l) (C.net r b) x := by
  funext j
  unfold srcOf bump
  rw [List.filter_append, List.map_append]
  by_cases q : j = C.net r b
  · subst q; simp
  · have : (C.net r b == j) = false := by simpa using fun e => q e.symm
    simp [this, q]
-- a source list grows
theorem CS.src (h : CS C A σ0 σ ℓ si ni tp f rest cnt cs fd ks) {k x : Int} (h1 : 2 ≤ k) (h2 : k < tp) :
    ∃ l ep a, σ A.so = some (.dict (mapI l) ep) ∧ dget l k = some (.ref a) ∧ σ a = some (.list ((f k).map .int)) ∧ CS C A σ0 (upd σ a (.list ((f k).map .int ++ [.int x]))) ℓ si ni tp (bump f k x) rest cnt cs fd ks ∧ Keep (fun L => L < 100) σ ℓ (upd σ a (.list ((f k).map .int ++ [.int x]))) ℓ := by
  obtain ⟨l, ep, s1, s2, s3⟩ := h.srcs
  have hk := s3 k
  cases z : dget l k with
  | none => rw [z] at hk; exact absurd ⟨h1, h2⟩ hk
  | some v =>
    rw [z] at hk
    obtain ⟨_, _, a, rfl, ha⟩ := hk
    refine ⟨l, ep, a, s1.1, z, ha.1, ?_, (Keep.set ha).mono fun L hL => by omega⟩
    have k' : Keep (· ≠ 100 + 2 * k.toNat) σ ℓ (upd σ a (.list ((f k).map .int ++ [.int x]))) ℓ := Keep.set ha
    have hn : ∀ n, n ≤ 99 → n ≠ 100 + 2 * k.toNat := fun n hn => by omega
    refine ⟨h.old.keep k' (hn _ (by decide)), h.sigs.keep k' (hn _ (by decide)) (hn _ (by decide)) (hn _ (by decide)), h.nets.keep k' (hn _ (by decide)) (hn _ (by decide)), ⟨l, ep, k' _ _ _ (hn _ (by decide)) s1, s2, fun j => ?_⟩, k' _ _ _ (hn _ (by decide)) h.rest, h.np.keep k' (hn _ (by decide)) (hn _ (by decide)) (hn _ (by decide)), h.ws.keep k' (hn _ (by decide)) (hn _ (by decide)),
      h.ds.keep k' (hn _ (by decide)) (hn _ (by decide)) (hn _ (by decide)), h.drv.keep k' (hn _ (by decide)) (fun j => by omega), h.pul.keep k' (hn _ (by decide))⟩
    have hj := s3 j
    cases w : dget l j with
    | none => rw [w] at hj; exact hj
    | some v =>
      rw [w] at hj
      obtain ⟨q1, q2, y, rfl, hy⟩ := hj
      refine ⟨q1, q2, y, rfl, ?_⟩
      by_cases q : j = k
      · subst q
        rw [z] at w; cases w
        have := At.set (o' := .list ((f j).map .int ++ [.int x])) ha
        unfold bump
        rw [if_pos rfl, List.map_append]
        exact this
      · unfold bump
        rw [if_neg q]
        exact k' _ _ _ (by omega) hy
end
section
variable {P : Pg} {c : Cx P (fnScope (top 18))} {d : Nat} {σ0 : Store} {Fin : Fl → Loc → Store → Prop}
theorem phaseD (F : Facts P.K) (hd : c.d = d + 3) {C : Cd} (G : C.Good) {A : Ad} {m : Loc} {σ : Store} {ℓ : Addr → Nat} {so inn pl ce li ga : Addr} (ar : Arg0 C σ0 so inn pl ce li)
    (S : CS C A σ0 σ ℓ C.n C.n C.top (fun _ => []) C.wd.rest C.count C.outs (fun _ => []) []) (GG : Gats σ ℓ ga C.outs) (hl : LocA m so inn pl ce li) (hb : LocB m A) (hg : m "gates" = some (.ref ga))
    (h : ∀ m σ ℓ, CS C A σ0 σ ℓ C.n C.n C.top (fun _ => []) C.wd.rest C.count C.outs (fun _ => []) C.pulls → Gats σ ℓ ga C.outs → LocA m so inn pl ce li → LocB m A → m "gates" = some (.ref ga) → WB c (caseB.drop 9) m σ Fin) : WB c (caseB.drop 8) m σ Fin := by
  obtain ⟨l1, l2, l3, l4, l5⟩ := hl
  obtain ⟨b1, b2, b3, b4, b5⟩ := hb
  have hpl := G.pulls
  ((show WB _ _ _ _ _; refine b_cons ?_))
  refine x_for ?_
  (repeat walk_at "e")
  let J : Nat → Loc → Store → Prop := fun i m σ => ∃ ℓ, CS C A σ0 σ ℓ C.n C.n C.top (fun _ => []) C.wd.rest C.count C.outs (fun _ => []) (C.pulls.take i) ∧ Gats σ ℓ ga C.outs ∧ LocA m so inn pl ce li ∧ LocB m A ∧ m "gates" = some (.ref ga)
  refine ⟨_, _, iter_list (S.old _ _ ar.pl).1, J, ?_, ?_, ?_, ?_⟩
  · exact ⟨ℓ, by simpa using S, GG, ⟨l1, l2, l3, l4, l5⟩, ⟨b1, b2, b3, b4, b5⟩, hg⟩
  · rintro i m σ ⟨ℓ, S, _⟩; exact (S.old _ _ ar.pl).1
  · clear S GG
    rintro c' hd' i x m σ hx ⟨ℓ, S, GG, ⟨l1, l2, l3, l4, l5⟩, ⟨b1, b2, b3, b4, b5⟩, g1⟩
    rw [List.getElem?_map] at hx
    obtain ⟨k, hp, rfl⟩ := Option.map_eq_some_iff.mp hx
    refine a_name ?_
    ((show WB _ _ _ _ _; refine b_cons ?_))
    refine x_assign_sub ?_
    (repeat walk_at "e")
    refine lf_getattr F.cW (attr_no F.cWa (by decide +kernel)) S.ws.i.1 S.ws.a.1 S.ws.p ?_
    (repeat walk_at "e")
    obtain ⟨l, ep, p1, p2, p3⟩ := S.pul
    have hlen : (C.pulls.take i).length ≤ 50 := by rw [List.length_take]; omega
    refine lf_setT (k := k) p1.1 (by omega) fun ep' => ?_
    ((show WB _ [] _ _ _; refine b_nil ?_))
    refine ⟨ℓ, ?_, GG.keep (Keep.set p1) (by decide) (by decide), ⟨?_, ?_, ?_, ?_, ?_⟩, ⟨?_, ?_, ?_, ?_, ?_⟩, ?_⟩
    · rw [take_next hp]; exact S.setPul p1 p2 p3
    all_goals walk_at "lk"
  · rintro m σ ⟨ℓ, S, GG, la, lb, g1⟩
    have hfull : (C.pulls.map keyT).length = C.pulls.length := by simp
    rw [hfull, List.take_length] at S
    exact h m σ ℓ S GG la lb g1
end

-- part W15
section
variable {C : Cd} {A : Ad} {σ0 σ σ' : Store} {ℓ ℓ' : Addr → Nat} {p : Nat → Prop} {si ni tp cnt : Nat} {f fd : Int → List Int} {rest : List Int} {cs : List (PySem.Str × Int × List Int)} {ks : List (List Int)}
theorem srcOf_len (C : Cd) (l : List (Nat × Nat × Int)) (k : Int) : (srcOf C l k).length ≤ l.length := by
  unfold srcOf; rw [List.length_map]; exact List.length_filter_le _ _
theorem CS.drive (h : CS C A σ0 σ ℓ si ni tp f rest cnt cs fd ks) {r b : Nat} {x : Int} (hr : r < C.n) (hb : b < C.w r) : ∃ l ep, σ A.dr = some (.dict (mapT l) ep) ∧ l.length ≤ 50 ∧
    (∀ v, dget l [(r : Int), (b : Int)] = some v → ∃ a, v = .ref a ∧ σ a = some (.list ((fd (C.net r b)).map .int)) ∧ CS C A σ0 (upd σ a (.list ((fd (C.net r b)).map .int ++ [.int x]))) ℓ si ni tp f rest cnt cs (bump fd (C.net r b) x) ks ∧
      Keep (fun L => L < 100) σ ℓ (upd σ a (.list ((fd (C.net r b)).map .int ++ [.int x]))) ℓ) ∧
    (dget l [(r : Int), (b : Int)] = none → ∀ a ep', σ a = none → l.length + 1 ≤ 50 → ∃ ℓ', CS C A σ0 (upd (upd σ a (.list [.int x])) A.dr (.dict (mapT (l ++ [([(r : Int), (b : Int)], .ref a)])) ep')) ℓ' si ni tp f rest cnt cs (bump fd (C.net r b) x) ks ∧
      Keep (fun L => L ≠ 8) σ ℓ (upd (upd σ a (.list [.int x])) A.dr (.dict (mapT (l ++ [([(r : Int), (b : Int)], .ref a)])) ep')) ℓ') := by
  obtain ⟨l, ep, s1, s2, s3, s4⟩ := h.drv
  refine ⟨l, ep, s1.1, s2, fun v z => ?_, fun z a ep' ha hlen => ?_⟩
  · have hk := s4 r b hr hb
    rw [z] at hk
    obtain ⟨a, rfl, ha⟩ := hk
    have k' : Keep (· ≠ 101 + 2 * (C.off r + b)) σ ℓ (upd σ a (.list ((fd (C.net r b)).map .int ++ [.int x]))) ℓ := Keep.set ha
    have hn : ∀ n, n ≤ 99 → n ≠ 101 + 2 * (C.off r + b) := fun n hn => by omega
    refine ⟨a, rfl, ha.1, ⟨h.old.keep k' (hn _ (by decide)), h.sigs.keep k' (hn _ (by decide)) (hn _ (by decide)) (hn _ (by decide)), h.nets.keep k' (hn _ (by decide)) (hn _ (by decide)), h.srcs.keep k' (hn _ (by decide)) (fun j => by omega), k' _ _ _ (hn _ (by decide)) h.rest, h.np.keep k' (hn _ (by decide)) (hn _ (by decide)) (hn _ (by decide)), h.ws.keep k' (hn _ (by decide)) (hn _ (by decide)),
      h.ds.keep k' (hn _ (by decide)) (hn _ (by decide)) (hn _ (by decide)), ⟨l, ep, k' _ _ _ (hn _ (by decide)) s1, s2, s3, fun r' b' hr' hb' => ?_⟩, h.pul.keep k' (hn _ (by decide))⟩, k'.mono fun L hL => by omega⟩
    have hj := s4 r' b' hr' hb'
    unfold bump
    by_cases q : C.net r' b' = C.net r b
    · obtain ⟨e1, e2⟩ := C.net_inj hb' hb q
      subst e1; subst e2
      rw [z, if_pos rfl]
      refine ⟨a, rfl, ?_⟩
      rw [List.map_append]
      exact At.set ha
    · rw [if_neg q]
      cases w : dget l [(r' : Int), (b' : Int)] with
      | none => rw [w] at hj; exact hj
      | some v =>
        rw [w] at hj
        obtain ⟨y, e, hy⟩ := hj
        refine ⟨y, e, k' _ _ _ ?_ hy⟩
        intro e'
        apply q
        unfold Cd.net
        omega
  · have k1 : Keep (fun _ => True) σ ℓ (upd σ a (.list [.int x])) (lab ℓ a (101 + 2 * (C.off r + b))) := Keep.new ha
    have a1 : At (upd σ a (.list [.int x])) (lab ℓ a (101 + 2 * (C.off r + b))) a (101 + 2 * (C.off r + b)) (.list [.int x]) := At.new _
    have a2 := k1 _ _ _ trivial s1
    refine ⟨lab ℓ a (101 + 2 * (C.off r + b)), ?_⟩
    generalize upd σ a (.list [.int x]) = σ1 at *
    generalize lab ℓ a (101 + 2 * (C.off r + b)) = ℓ1 at *
    have k2 : Keep (· ≠ 8) σ1 ℓ1 (upd σ1 A.dr (.dict (mapT (l ++ [([(r : Int), (b : Int)], .ref a)])) ep')) ℓ1 := Keep.set a2
    have k : Keep (· ≠ 8) σ ℓ (upd σ1 A.dr (.dict (mapT (l ++ [([(r : Int), (b : Int)], .ref a)])) ep')) ℓ1 := (k1.mono fun _ _ => trivial).trans k2 fun _ z => z
    refine ⟨⟨h.old.keep k (by decide), h.sigs.keep k (by decide) (by decide) (by decide), h.nets.keep k (by decide) (by decide), h.srcs.keep k (by decide) (fun j => by omega), k _ _ _ (by decide) h.rest, h.np.keep k (by decide) (by decide) (by decide), h.ws.keep k (by decide) (by decide),
      h.ds.keep k (by decide) (by decide) (by decide), ⟨_, ep', At.set a2, by simpa using hlen, fun p hp => ?_, fun r' b' hr' hb' => ?_⟩, h.pul.keep k (by decide)⟩, k⟩
    · rcases List.mem_append.mp hp with hp | hp
      · exact s3 p hp
      · simp at hp; subst hp; exact ⟨r, b, rfl, hr, hb⟩
    · have hnew : [(r : Int), (b : Int)] ∉ l.map (·.1) := fun hm => by obtain ⟨w, e, _⟩ := dget_key hm; rw [z] at e; cases e
      have hd := dget_dset (k' := [(r' : Int), (b' : Int)]) (v := V.ref a) z
      rw [dset_new hnew] at hd
      rw [hd]
      have hj := s4 r' b' hr' hb'
      unfold bump
      by_cases q : C.net r' b' = C.net r b
      · obtain ⟨e1, e2⟩ := C.net_inj hb' hb q
        subst e1; subst e2
        rw [if_pos rfl, if_pos rfl]
        rw [z] at hj
        refine ⟨a, rfl, ?_⟩
        rw [hj]
        exact k2 _ _ _ (by omega) a1
      · have hne : ¬ ([(r' : Int), (b' : Int)] = [(r : Int), (b : Int)]) := fun e => by
          apply q
          simp at e
          have e1 : r' = r := by omega
          have e2 : b' = b := by omega
          rw [e1, e2]
        rw [if_neg hne, if_neg q]
        cases w : dget l [(r' : Int), (b' : Int)] with
        | none => rw [w] at hj; exact hj
        | some v =>
          rw [w] at hj
          obtain ⟨y, e, hy⟩ := hj
          exact ⟨y, e, k _ _ _ (by omega) hy⟩
end
section
variable {P : Pg} {c : Cx P (fnScope (top 18))} {d : Nat} {σ0 : Store} {Fin : Fl → Loc → Store → Prop}
theorem WB.know' {sc : Scope} {c : Cx P sc} {b : List Stmt} {m : Loc} {σ : Store} {F : Fl → Loc → Store → Prop} (h : (∀ a kvs ep, σ a = some (.dict kvs ep) → (kvs.map (·.1)).Nodup) → WB c b m σ F) : WB c b m σ F := fun s S =>
  h (fun a kvs ep e => by obtain ⟨o, es, _, _, _, _, _, hn⟩ := S.sto.rep a _ e; exact hn) s S
theorem drv_len {C : Cd} (G : C.Good) {l : List (List Int × V)} (hn : (l.map (·.1)).Nodup) (h : ∀ p ∈ l, ∃ r b : Nat, p.1 = [(r : Int), (b : Int)] ∧ r < C.n ∧ b < C.w r) : l.length ≤ 16 := by
  have hs : ∀ k ∈ l.map (·.1), k ∈ (List.range 8).flatMap fun r => (List.range 2).map fun b => [((r : Nat) : Int), ((b : Nat) : Int)] := fun k hk => by
    obtain ⟨p, hp, rfl⟩ := List.mem_map.mp hk
    obtain ⟨r, b, e, hr, hb⟩ := h p hp
    have h1 := G.few
    have h2 := Cd.w_le G r
    unfold Cd.n at hr
    rw [e]
    exact List.mem_flatMap.mpr ⟨r, List.mem_range.mpr (by omega), List.mem_map.mpr ⟨b, List.mem_range.mpr (by omega), rfl⟩⟩
  have := List.Nodup.length_le_of_subset hn fun k hk => hs k hk
  rw [List.length_map] at this
  exact this
theorem phaseE (F : Facts P.K) (hd : c.d = d + 3) {C : Cd} (G : C.Good) {A : Ad} {m : Loc} {σ : Store} {ℓ : Addr → Nat} {so inn pl ce li ga : Addr} (ar : Arg0 C σ0 so inn pl ce li)
    (S : CS C A σ0 σ ℓ C.n C.n C.top (fun _ => []) C.wd.rest C.count C.outs (fun _ => []) C.pulls) (GG : Gats σ ℓ ga C.outs) (hl : LocA m so inn pl ce li) (hb : LocB m A) (hg : m "gates" = some (.ref ga))
    (h : ∀ m σ ℓ, CS C A σ0 σ ℓ C.n C.n C.top (srcOf C C.links) C.wd.rest C.count C.outs (srcOf C C.links) C.pulls → Gats σ ℓ ga C.outs → LocA m so inn pl ce li → LocB m A → m "gates" = some (.ref ga) → WB c (caseB.drop 10) m σ Fin) : WB c (caseB.drop 9) m σ Fin := by
  obtain ⟨l1, l2, l3, l4, l5⟩ := hl
  obtain ⟨b1, b2, b3, b4, b5⟩ := hb
  have hlk := G.links
  ((show WB _ _ _ _ _; refine b_cons ?_))
  refine x_for ?_
  (repeat walk_at "e")
  let J : Nat → Loc → Store → Prop := fun i m σ => ∃ ℓ, CS C A σ0 σ ℓ C.n C.n C.top (srcOf C (C.links.take i)) C.wd.rest C.count C.outs (srcOf C (C.links.take i)) C.pulls ∧ Gats σ ℓ ga C.outs ∧ LocA m so inn pl ce li ∧ LocB m A ∧ m "gates" = some (.ref ga)
  refine ⟨_, _, iter_list (S.old _ _ ar.li).1, J, ?_, ?_, ?_, ?_⟩
  · exact ⟨ℓ, S, GG, ⟨l1, l2, l3, l4, l5⟩, ⟨b1, b2, b3, b4, b5⟩, hg⟩
  · rintro i m σ ⟨ℓ, S, _⟩; exact (S.old _ _ ar.li).1
  · clear S GG
    rintro c' hd' i x m σ hx ⟨ℓ, S, GG, ⟨l1, l2, l3, l4, l5⟩, ⟨b1, b2, b3, b4, b5⟩, g1⟩
    rw [List.getElem?_map] at hx
    obtain ⟨⟨r, b, net⟩, hp, rfl⟩ := Option.map_eq_some_iff.mp hx
    have hi : i < C.links.length := (List.getElem?_eq_some_iff.mp hp).1
    obtain ⟨hr, hb, hn0, hn1⟩ := hlk.2 _ (List.mem_of_getElem? hp)
    dsimp only at hr hb hn0 hn1
    have hw2 := Cd.w_le G r
    have hnet := C.net_lt hr hb
    have hmt : ∀ l : List (List Int × V), (mapT l).length = l.length := fun l => by simp [mapT]
    refine a_tuple (xs := [.int r, .int b, .int net]) ?_
    refine a_name ?_
    refine a_name ?_
    refine a_name ?_
    refine WB.know' fun kn => ?_
    ((show WB _ _ _ _ _; refine b_cons ?_))
    refine x_expr ?_
    refine e_meth ?_
    (repeat walk_at "e")
    refine ⟨_, meth_inst F.cW F.m257 F.t257 F.wDrive.keep S.ws.i.1 S.ws.a.1 S.ws.m, ?_⟩
    (repeat walk_at "e")
    rw [hd', hd]
    obtain ⟨l, ep, d1, d2, d3, d4⟩ := S.drive (x := net) hr hb
    obtain ⟨l0, ep0, y1, y2, y3, y4⟩ := S.drv
    have hno : (l0.map (·.1)).Nodup := by have := kn _ _ _ y1.1; rw [mapT_keys] at this; exact nodup_of_map this
    have hli : l.length ≤ 16 := by
      have h0 := drv_len G hno y3
      have e := y1.1.symm.trans d1
      have e := congrArg (fun o => match o with | some (O.dict es _) => es.length | _ => 0) e
      simp only [hmt] at e
      omega
    refine (w_drive F (Q := fun _ σ => ∃ ℓ, CS C A σ0 σ ℓ C.n C.n C.top (srcOf C (C.links.take i)) C.wd.rest C.count C.outs (bump (srcOf C (C.links.take i)) (C.net r b) net) C.pulls ∧ Gats σ ℓ ga C.outs) S.ws.i.1 S.ws.a.1 S.ws.d d1 (by omega) (fun v z => ?_) (fun z a ep' ha had => ?_)).leaf.mono fun u hp2 σ2 ⟨av, hav, ℓ2, S2, G2⟩ => ⟨av, hav, ?_⟩
    · obtain ⟨a, rfl, q1, q2, q3⟩ := d3 v z
      refine ⟨a, _, rfl, q1, ?_, ℓ, q2, GG.keep q3 (by decide) (by decide)⟩
      rw [List.length_map]
      refine Nat.le_trans (srcOf_len _ _ _) ?_
      rw [List.length_take]; omega
    · obtain ⟨ℓ2, q2, q3⟩ := d4 z a ep' ha (by omega)
      exact ⟨ℓ2, q2, GG.keep q3 (by decide) (by decide)⟩
    · clear d1 d2 d3 d4 S GG
      obtain ⟨nl, nep, n1, n2, n3, n4⟩ := S2.nets
      obtain ⟨nb, n5, n6⟩ := n4 r hr
      obtain ⟨l, ep, a, p1, p2, p3, S3, K3⟩ := S2.src (x := net) hnet.1 (by exact hnet.2)
      have hidx : (C.wd.netList r)[((b : Nat) : Int).toNat]? = some (.int (C.net r b)) := by
        show ((List.range (C.w r)).map fun b => V.int (C.net r b))[_]? = _
        simp [hb]
      ((show WB _ _ _ _ _; refine b_cons ?_))
      refine x_expr ?_
      refine e_meth ?_
      (repeat walk_at "e")
      refine lf_getattr F.cW (attr_no F.cWa (by decide +kernel)) S2.ws.i.1 S2.ws.a.1 S2.ws.n ?_
      (repeat walk_at "e")
      refine lf_itemI n1.1 n5 ?_
      (repeat walk_at "e")
      refine lf_item_list n6.1 (by omega) hidx (by omega) ?_
      refine lf_itemI p1 p2 ?_
      refine ⟨_, m_append p3, ?_⟩
      (repeat walk_at "e")
      refine lf_append p3 ?_ ?_
      · rw [List.length_map]
        refine Nat.le_trans (srcOf_len _ _ _) ?_
        rw [List.length_take]; omega
      ((show WB _ [] _ _ _; refine b_nil ?_))
      have k3 : Gats (upd σ2 a (.list ((srcOf C (C.links.take i) (C.net r b)).map .int ++ [.int net]))) ℓ2 ga C.outs := G2.keep K3 (by decide) (by decide)
      refine ⟨ℓ2, ?_, k3, ⟨?_, ?_, ?_, ?_, ?_⟩, ⟨?_, ?_, ?_, ?_, ?_⟩, ?_⟩
      · rw [take_next hp, srcOf_snoc]; exact S3
      all_goals walk_at "lk"
  · rintro m σ ⟨ℓ, S, GG, la, lb, g1⟩
    have hfull : (C.links.map fun p => V.tup [.int (p.1 : Nat), .int (p.2.1 : Nat), .int p.2.2]).length = C.links.length := by simp
    rw [hfull, List.take_length] at S
    exact h m σ ℓ S GG la lb g1
end

-- part W16
noncomputable def firmOf (C : Cd) : List Int := ((List.range C.count).map fun (i : Nat) => (i : Int)).filter fun x => !(C.wd.rest.any (· == x))
theorem mem_firm {C : Cd} {x : Int} : x ∈ firmOf C ↔ (0 ≤ x ∧ x < C.count) ∧ x ∉ C.wd.rest := by
  unfold firmOf
  rw [List.mem_filter, List.mem_map]
  constructor
  · rintro ⟨⟨i, hi, rfl⟩, h⟩
    rw [List.mem_range] at hi
    exact ⟨⟨by omega, by omega⟩, fun hm => by rw [any_mem.mpr hm] at h; cases h⟩
  · rintro ⟨⟨h1, h2⟩, h3⟩
    refine ⟨⟨x.toNat, List.mem_range.mpr (by omega), by omega⟩, ?_⟩
    cases z : C.wd.rest.any (· == x) with
    | true => exact absurd (any_mem.mp z) h3
    | false => rfl
theorem src_out {C : Cd} (G : C.Good) {k : Int} (h : ¬ (2 ≤ k ∧ k < C.top)) : srcOf C C.links k = [] := by
  unfold srcOf
  rw [List.filter_eq_nil_iff.mpr, List.map_nil]
  intro p hp e
  obtain ⟨h1, h2, _⟩ := G.links.2 p hp
  have := C.net_lt h1 h2
  have e : C.net p.1 p.2.1 = k := by simpa using e
  rw [e] at this
  exact h this
theorem src_in {C : Cd} (G : C.Good) {k y : Int} (h : y ∈ srcOf C C.links k) : 0 ≤ y ∧ y < C.count := by
  unfold srcOf at h
  obtain ⟨p, hp, rfl⟩ := List.mem_map.mp h
  obtain ⟨_, _, h3⟩ := G.links.2 p (List.mem_filter.mp hp).1
  exact h3
theorem Cd.count_le {C : Cd} (G : C.Good) : C.count ≤ 40 := by
  have h1 := Cd.off_le G C.n
  have h2 := G.few
  have h3 := G.cells
  unfold Cd.count Cd.top
  unfold Cd.n at *
  omega
section
variable {P : Pg} {sc : Scope} {c : Cx P sc}
theorem swaps_cell {elt : Expr} {gens : List Comprehension} {scope : Scope} {pos p : Pos} {y : PySem.Str} {l : Nat} (hy : sc.names.lookup y = some .cell) : swapsWith (.ListComp elt gens scope pos) (some (.Name y p)) l c.env = pure false := by
  have ky := c.look y _ hy (by simp)
  unfold swapsWith
  show (pure _ : Sem Bool) = pure false
  congr 1
  show (c.env.blockKind == .function && c.env.kindOf y == some .local && p.line == pos.line && !(scope.names.any fun (n, k) => n == y && (k == .local || k == .cell))) = false
  have : (c.env.kindOf y == some .local) = false := by rw [ky]; rfl
  rw [this]; simp
end
section
variable {P : Pg} {c : Cx P (fnScope (top 18))} {d : Nat} {σ0 : Store} {Fin : Fl → Loc → Store → Prop}
theorem phaseF (F : Facts P.K) (hd : c.d = d + 3) {C : Cd} (G : C.Good) {A : Ad} {m : Loc} {σ : Store} {ℓ : Addr → Nat} {so inn pl ce li ga : Addr}
    (S : CS C A σ0 σ ℓ C.n C.n C.top (srcOf C C.links) C.wd.rest C.count C.outs (srcOf C C.links) C.pulls) (GG : Gats σ ℓ ga C.outs) (hl : LocA m so inn pl ce li) (hb : LocB m A) (hg : m "gates" = some (.ref ga))
    (h : ∀ m σ ℓ fi du, CS C A σ0 σ ℓ C.n C.n C.top (srcOf C C.links) C.wd.rest C.count C.outs (srcOf C C.links) C.pulls → Gats σ ℓ ga C.outs → At σ ℓ fi 30 (.list ((firmOf C).map .int)) → At σ ℓ du 31 (.list []) → LocA m so inn pl ce li → LocB m A → m "gates" = some (.ref ga) → m "firm" = some (.ref fi) → m "due" = some (.ref du) → WB c (caseB.drop 12) m σ Fin) : WB c (caseB.drop 10) m σ Fin := by
  obtain ⟨l1, l2, l3, l4, l5⟩ := hl
  obtain ⟨b1, b2, b3, b4, b5⟩ := hb
  have hcount := Cd.count_le G
  ((show WB _ _ _ _ _; refine b_cons ?_))
  refine x_assign ?_ (by kernel_rfl) (swaps_cell (by kernel_rfl))
  refine e_listcomp ?_
  (refine e_callB bt_range callee_type (Facts.b_range (by assumption)) ?_)
  (repeat walk_at "e")
  refine lf_getattr F.cN (attr_no F.cNa (by decide +kernel)) S.np.i.1 S.np.a.1 (fget_set _ _ _) ?_
  (repeat walk_at "e")
  refine lf_range fun ra hra => ?_
  have S1 := S.keep (Keep.ext (Ext.new (o := .range (C.count : Nat)) hra))
  have G1 := GG.keep (p := fun _ => True) (Keep.ext (Ext.new (o := .range (C.count : Nat)) hra)) trivial trivial
  let J : Nat → List V → Store → Prop := fun i acc σ' => i ≤ C.count ∧ Ext (upd σ ra (.range (C.count : Nat))) σ' ∧ acc = (((List.range i).map fun (i : Nat) => (i : Int)).filter fun x => !(C.wd.rest.any (· == x))).map .int
  refine ⟨_, _, iter_range (upd_self _ _ _) (by omega) (by omega), J, ?_, ?_, ?_, ?_⟩
  · exact ⟨Nat.zero_le _, Ext.refl _, rfl⟩
  · rintro i acc σ' ⟨hi, e, rfl⟩
    refine ⟨trivial, ?_⟩
    rw [List.length_map]
    refine Nat.le_trans (List.length_filter_le _ _) ?_
    rw [List.length_map, List.length_range]; omega
  · rintro i x acc σ' hx ⟨hi, e, rfl⟩ c' hd'
    obtain ⟨hlt, rfl⟩ := range_item hx
    show WT _ _ _ _ _
    (repeat walk_at "e")
    refine lf_ninL (e _ _ S1.rest.1) (bIf (fun q => ?_) fun q => ?_)
    · intro c2 hd2
      (repeat walk_at "e")
      refine ⟨by omega, e, ?_⟩
      rw [List.range_succ, List.map_append, List.filter_append, List.map_append]
      simp only [List.map_cons, List.map_nil, List.filter_cons, q, if_true, List.filter_nil]
    · refine ⟨by omega, e, ?_⟩
      rw [List.range_succ, List.map_append, List.filter_append, List.map_append]
      simp only [List.map_cons, List.map_nil, List.filter_cons, q, Bool.false_eq_true, if_false, List.filter_nil, List.append_nil]
  · rintro acc σ' ⟨hi, e, rfl⟩ fi hfi
    have hfull : ((List.range (((C.count : Nat) : Int).toNat)).map fun (k : Nat) => V.int (k : Int)).length = C.count := by simp
    rw [hfull]
    have S2 := (S1.keep (Keep.ext e)).keep (Keep.new (o := .list ((firmOf C).map .int)) (L := 30) hfi)
    have G2 := ((G1.keep (p := fun _ => True) (Keep.ext e) trivial trivial)).keep (p := fun _ => True) (Keep.new (o := .list ((firmOf C).map .int)) (L := 30) hfi) trivial trivial
    have F2 : At (upd σ' fi (.list ((firmOf C).map .int))) (lab ℓ fi 30) fi 30 (.list ((firmOf C).map .int)) := At.new 30
    ((show WB _ _ _ _ _; refine b_cons ?_))
    refine x_assign ?_
    (repeat walk_at "e")
    refine ⟨by simp, fun du hdu => ?_⟩
    have S3 := S2.keep (Keep.new (o := .list []) (L := 31) hdu)
    have G3 := G2.keep (p := fun _ => True) (Keep.new (o := .list []) (L := 31) hdu) trivial trivial
    have F3 := (Keep.new (p := fun _ => True) (o := .list []) (L := 31) hdu) _ _ _ trivial F2
    refine h _ _ _ fi du S3 G3 F3 (At.new 31) ⟨?_, ?_, ?_, ?_, ?_⟩ ⟨?_, ?_, ?_, ?_, ?_⟩ ?_ ?_ ?_
    all_goals walk_at "lk"
end

-- part W17
theorem Srcs.dictL {C : Cd} (G : C.Good) {σ : Store} {ℓ : Addr → Nat} {so : Addr} (h : Srcs σ ℓ so C.top (srcOf C C.links)) : DictL σ so (srcOf C C.links) := by
  obtain ⟨l, ep, h1, h2, h3⟩ := h
  refine ⟨l, ep, h1.1, fun k => ?_⟩
  have := h3 k
  cases z : dget l k with
  | none => rw [z] at this; exact src_out G this
  | some v => rw [z] at this; obtain ⟨_, _, a, q1, q2⟩ := this; exact ⟨a, q1, q2.1⟩
noncomputable def hitF (C : Cd) (n : Int) : Prop := ∃ y, Reach (srcOf C C.links) (fun x => (firmOf C).any (· == x)) n y ∧ y ∈ firmOf C
open Classical in
noncomputable def isDue (C : Cd) (n : Int) : Bool := decide (¬ hitF C n)
theorem isDue_iff {C : Cd} {n : Int} : isDue C n = true ↔ ¬ hitF C n := by unfold isDue; exact @decide_eq_true_iff _ (_)
noncomputable def dueOf (C : Cd) : List Int := C.wd.rest.filter (isDue C)
theorem rest_lt {C : Cd} {x : Int} (h : x ∈ C.wd.rest) : 2 ≤ x ∧ x < C.top := by
  obtain ⟨p, hp, rfl⟩ := List.mem_map.mp h
  obtain ⟨h1, h2, _⟩ := mem_restUp.mp hp
  exact C.net_lt h1 h2
theorem rest_len {C : Cd} (G : C.Good) : C.wd.rest.length ≤ 40 := by
  have hn : C.wd.rest.Nodup := nodup_nets (Cd.wd_good G) (nodup_restUp _) fun p hp => by have := mem_restUp.mp hp; exact ⟨this.1, this.2.1⟩
  have hc := Cd.count_le G
  refine Nat.le_trans (nodup_bound (N := C.count) hn fun y hy => ?_) hc
  have := rest_lt hy
  unfold Cd.count
  omega

section
variable {P : Pg} {c : Cx P (fnScope (top 18))} {d : Nat} {σ0 : Store} {Fin : Fl → Loc → Store → Prop}
theorem phaseG (F : Facts P.K) (hd : c.d = d + 3) {C : Cd} (G : C.Good) {A : Ad} {m : Loc} {σ : Store} {ℓ : Addr → Nat} {so inn pl ce li ga fi du : Addr}
    (S : CS C A σ0 σ ℓ C.n C.n C.top (srcOf C C.links) C.wd.rest C.count C.outs (srcOf C C.links) C.pulls) (GG : Gats σ ℓ ga C.outs) (FI : At σ ℓ fi 30 (.list ((firmOf C).map .int))) (DU : At σ ℓ du 31 (.list [])) (hl : LocA m so inn pl ce li) (hb : LocB m A) (hg : m "gates" = some (.ref ga)) (hf : m "firm" = some (.ref fi)) (hu : m "due" = some (.ref du))
    (h : ∀ m σ ℓ, CS C A σ0 σ ℓ C.n C.n C.top (srcOf C C.links) C.wd.rest C.count C.outs (srcOf C C.links) C.pulls → Gats σ ℓ ga C.outs → At σ ℓ du 31 (.list ((dueOf C).map .int)) → LocA m so inn pl ce li → LocB m A → m "gates" = some (.ref ga) → m "due" = some (.ref du) → WB c (caseB.drop 13) m σ Fin) : WB c (caseB.drop 12) m σ Fin := by
  obtain ⟨l1, l2, l3, l4, l5⟩ := hl
  obtain ⟨b1, b2, b3, b4, b5⟩ := hb
  have hcount := Cd.count_le G
  have hrl := rest_len G
  ((show WB _ _ _ _ _; refine b_cons ?_))
  refine x_for ?_
  (repeat walk_at "e")
  let J : Nat → Loc → Store → Prop := fun i m σ => ∃ ℓ, CS C A σ0 σ ℓ C.n C.n C.top (srcOf C C.links) C.wd.rest C.count C.outs (srcOf C C.links) C.pulls ∧ Gats σ ℓ ga C.outs ∧ At σ ℓ fi 30 (.list ((firmOf C).map .int)) ∧ At σ ℓ du 31 (.list (((C.wd.rest.take i).filter (isDue C)).map .int)) ∧ LocA m so inn pl ce li ∧ LocB m A ∧ m "gates" = some (.ref ga) ∧ m "firm" = some (.ref fi) ∧ m "due" = some (.ref du)
  refine ⟨_, _, iter_list S.rest.1, J, ?_, ?_, ?_, ?_⟩
  · exact ⟨ℓ, S, GG, FI, by simpa using DU, ⟨l1, l2, l3, l4, l5⟩, ⟨b1, b2, b3, b4, b5⟩, hg, hf, hu⟩
  · rintro i m σ ⟨ℓ, S, _⟩; exact S.rest.1
  · clear S GG FI DU
    rintro c' hd' i x m σ hx ⟨ℓ, S, GG, FI, DU, ⟨l1, l2, l3, l4, l5⟩, ⟨b1, b2, b3, b4, b5⟩, g1, g2, g3⟩
    rw [List.getElem?_map] at hx
    obtain ⟨n, hn, rfl⟩ := Option.map_eq_some_iff.mp hx
    have hnr := rest_lt (List.mem_of_getElem? hn)
    refine a_name ?_
    ((show WB _ _ _ _ _; refine b_cons ?_))
    refine x_if ?_
    (repeat walk_at "e")
    (refine e_callB bt_len callee_builtin (Facts.b_len (by assumption)) ?_)
    refine es_cons (e_listcomp ?_)
    refine e_call F.g_law_back F.back.keep ?_
    (repeat walk_at "e")
    rw [hd', hd]
    have hct : (C.top : Int) ≤ C.count := by unfold Cd.count; omega
    refine (back_leaf (N := C.count) F (S.srcs.dictL G) FI.1 (by omega) ⟨by omega, by omega⟩ (fun k y hy => src_in G hy) fun r ms σ1 e1 hr hms hre hml => ?_).leaf
    have ke : Keep (fun _ => True) σ ℓ σ1 ℓ := Keep.ext e1
    have FI1 := ke _ _ _ trivial FI
    let J : Nat → List V → Store → Prop := fun j acc σ' => j ≤ ms.length ∧ Ext σ1 σ' ∧ acc = ((ms.take j).filter fun y => (firmOf C).any (· == y)).map .int
    refine ⟨_, _, iter_list hms, J, ?_, ?_, ?_, ?_⟩
    · exact ⟨Nat.zero_le _, Ext.refl _, by simp⟩
    · rintro j acc σ' ⟨hj, e2, rfl⟩
      refine ⟨e2 _ _ hms, ?_⟩
      rw [List.length_map]
      exact Nat.le_trans (List.length_filter_le _ _) (Nat.le_trans (List.length_take_le' _ _) (by omega))
    · rintro j z acc σ' hz ⟨hj, e2, rfl⟩ c2 hd2
      rw [List.getElem?_map] at hz
      obtain ⟨y, hy, rfl⟩ := Option.map_eq_some_iff.mp hz
      have hlt := (List.getElem?_eq_some_iff.mp hy).1
      show WT _ _ _ _ _
      (repeat walk_at "e")
      refine lf_inL (e2 _ _ FI1.1) (bIf (fun q => ?_) fun q => ?_)
      · intro c3 hd3
        (repeat walk_at "e")
        refine ⟨hlt, e2, ?_⟩
        rw [take_next hy, List.filter_append, List.map_append]
        simp only [List.filter_cons, q, if_true, List.filter_nil, List.map_cons, List.map_nil]
      · refine ⟨hlt, e2, ?_⟩
        rw [take_next hy, List.filter_append, List.map_append]
        simp only [List.filter_cons, q, Bool.false_eq_true, if_false, List.filter_nil, List.map_nil, List.append_nil]
    · rintro acc σ' ⟨hj, e2, rfl⟩ a ha
      have hfull : (ms.map V.int).length = ms.length := by simp
      rw [hfull, List.take_length]
      (repeat walk_at "e")
      have hlen : ((ms.filter fun y => (firmOf C).any (· == y)).map V.int).length ≤ 1000000 := by
        rw [List.length_map]
        exact Nat.le_trans (List.length_filter_le _ _) (by omega)
      refine lf_len_list (upd_self _ _ _) hlen ?_
      (repeat walk_at "e")
      have hdue : (((((ms.filter fun y => (firmOf C).any (· == y)).map V.int).length : Nat) : Int) == 0) = isDue C n := by
        rw [List.length_map]
        rw [Bool.eq_iff_iff, isDue_iff, beq_iff_eq]
        constructor
        · rintro h0 ⟨y, hy1, hy2⟩
          have : y ∈ ms.filter fun y => (firmOf C).any (· == y) := List.mem_filter.mpr ⟨(hre y).mpr hy1, any_mem.mpr hy2⟩
          have h1 := List.length_pos_of_mem this
          omega
        · intro hno
          have : ms.filter (fun y => (firmOf C).any (· == y)) = [] := List.filter_eq_nil_iff.mpr fun y hy hq => hno ⟨y, (hre y).mp hy, any_mem.mp hq⟩
          rw [this]; rfl
      refine lf_eqi ?_
      rw [hdue]
      have ka : Keep (fun _ => True) σ ℓ (upd σ' a (.list ((ms.filter fun y => (firmOf C).any (· == y)).map V.int))) ℓ := Keep.ext (e1.trans (e2.trans (Ext.new ha)))
      have S2 := S.keep ka
      have G2 := GG.keep ka trivial trivial
      have FI2 := ka _ _ _ trivial FI
      have DU2 := ka _ _ _ trivial DU
      generalize upd σ' a (.list ((ms.filter fun y => (firmOf C).any (· == y)).map V.int)) = σ2 at S2 G2 FI2 DU2 ⊢
      refine bIf (fun q => ?_) fun q => ?_
      · ((show WB _ _ _ _ _; refine b_cons ?_))
        refine x_expr ?_
        refine e_meth ?_
        (repeat walk_at "e")
        refine ⟨_, m_append DU2.1, ?_⟩
        (repeat walk_at "e")
        refine lf_append DU2.1 ?_ ?_
        · rw [List.length_map]
          exact Nat.le_trans (List.length_filter_le _ _) (Nat.le_trans (List.length_take_le' _ _) (by omega))
        ((show WB _ [] _ _ _; refine b_nil ?_))
        ((show WB _ [] _ _ _; refine b_nil ?_))
        have ks : Keep (· ≠ 31) σ2 ℓ (upd σ2 du (.list (((C.wd.rest.take i).filter (isDue C)).map .int ++ [.int n]))) ℓ := Keep.set DU2
        refine ⟨ℓ, ⟨S2.old.keep ks (by decide), S2.sigs.keep ks (by decide) (by decide) (by decide), S2.nets.keep ks (by decide) (by decide), S2.srcs.keep ks (by decide) (fun j => by omega), ks _ _ _ (by decide) S2.rest, S2.np.keep ks (by decide) (by decide) (by decide), S2.ws.keep ks (by decide) (by decide),
          S2.ds.keep ks (by decide) (by decide) (by decide), S2.drv.keep ks (by decide) (fun j => by omega), S2.pul.keep ks (by decide)⟩, G2.keep ks (by decide) (by decide), ks _ _ _ (by decide) FI2, ?_, ⟨?_, ?_, ?_, ?_, ?_⟩, ⟨?_, ?_, ?_, ?_, ?_⟩, ?_, ?_, ?_⟩
        · have := At.set (o' := .list (((C.wd.rest.take i).filter (isDue C)).map .int ++ [.int n])) DU2
          rw [take_next hn, List.filter_append, List.map_append]
          simp only [List.filter_cons, q, if_true, List.filter_nil, List.map_cons, List.map_nil]
          exact this
        all_goals walk_at "lk"
      · ((show WB _ [] _ _ _; refine b_nil ?_))
        ((show WB _ [] _ _ _; refine b_nil ?_))
        refine ⟨ℓ, S2, G2, FI2, ?_, ⟨?_, ?_, ?_, ?_, ?_⟩, ⟨?_, ?_, ?_, ?_, ?_⟩, ?_, ?_, ?_⟩
        · rw [take_next hn, List.filter_append, List.map_append]
          simp only [List.filter_cons, q, Bool.false_eq_true, if_false, List.filter_nil, List.map_nil, List.append_nil]
          exact DU2
        all_goals walk_at "lk"
  · rintro m σ ⟨ℓ, S, GG, FI, DU, la, lb, g1, g2, g3⟩
    have hfull : (C.wd.rest.map V.int).length = C.wd.rest.length := by simp
    rw [hfull, List.take_length] at DU
    exact h m σ ℓ S GG DU la lb g1 g3
end

-- part W18
-- the drivers and their copy, side by side
noncomputable def Twin (σ : Store) (dr be : Addr) : Prop := ∃ la lb ea eb, σ dr = some (.dict (mapT la) ea) ∧ σ be = some (.dict (mapT lb) eb) ∧ la.length = lb.length ∧
  ∀ k v, (k, v) ∈ la → ∃ (x y : Addr) (ns : List Int), v = .ref x ∧ dget lb k = some (.ref y) ∧ σ x = some (.list (ns.map .int)) ∧ σ y = some (.list (ns.map .int))
theorem Twin.ext {σ σ' : Store} {dr be : Addr} (h : Twin σ dr be) (e : Ext σ σ') : Twin σ' dr be := by
  obtain ⟨la, lb, ea, eb, h1, h2, h3, h4⟩ := h
  refine ⟨la, lb, ea, eb, e _ _ h1, e _ _ h2, h3, fun k v hm => ?_⟩
  obtain ⟨x, y, ns, q1, q2, q3, q4⟩ := h4 k v hm
  exact ⟨x, y, ns, q1, q2, e _ _ q3, e _ _ q4⟩
section
variable {P : Pg} {c : Cx P (fnScope (top 18))} {d : Nat} {σ0 : Store} {Fin : Fl → Loc → Store → Prop}
theorem WB.know {sc : Scope} {c : Cx P sc} {b : List Stmt} {m : Loc} {σ : Store} {F : Fl → Loc → Store → Prop} (h : (∀ a kvs ep, σ a = some (.dict kvs ep) → (kvs.map (·.1)).Nodup) → WB c b m σ F) : WB c b m σ F := fun s S =>
  h (fun a kvs ep e => by obtain ⟨o, es, _, _, _, _, _, hn⟩ := S.sto.rep a _ e; exact hn) s S
theorem phaseH (F : Facts P.K) (hd : c.d = d + 3) {C : Cd} (G : C.Good) {A : Ad} {m : Loc} {σ : Store} {ℓ : Addr → Nat} {so inn pl ce li ga du : Addr}
    (S : CS C A σ0 σ ℓ C.n C.n C.top (srcOf C C.links) C.wd.rest C.count C.outs (srcOf C C.links) C.pulls) (GG : Gats σ ℓ ga C.outs) (DU : At σ ℓ du 31 (.list ((dueOf C).map .int))) (hl : LocA m so inn pl ce li) (hb : LocB m A) (hg : m "gates" = some (.ref ga)) (hu : m "due" = some (.ref du))
    (h : ∀ m σ ℓ be, CS C A σ0 σ ℓ C.n C.n C.top (srcOf C C.links) C.wd.rest C.count C.outs (srcOf C C.links) C.pulls → Gats σ ℓ ga C.outs → At σ ℓ du 31 (.list ((dueOf C).map .int)) → Twin σ A.dr be → LocA m so inn pl ce li → LocB m A → m "gates" = some (.ref ga) → m "due" = some (.ref du) → m "before" = some (.ref be) → WB c (caseB.drop 14) m σ Fin) : WB c (caseB.drop 13) m σ Fin := by
  obtain ⟨l1, l2, l3, l4, l5⟩ := hl
  obtain ⟨b1, b2, b3, b4, b5⟩ := hb
  obtain ⟨dl, dep, d1, d2, d3, d4⟩ := S.drv
  refine WB.know fun kn => ?_
  have hno : (dl.map (·.1)).Nodup := by have := kn _ _ _ d1.1; rw [mapT_keys] at this; exact nodup_of_map this
  ((show WB _ _ _ _ _; refine b_cons ?_))
  refine x_dictcomp ?_
  (repeat walk_at "e")
  refine lf_getattr F.cW (attr_no F.cWa (by decide +kernel)) S.ws.i.1 S.ws.a.1 S.ws.d ?_
  let J : Nat → O → Store → Prop := fun i acc σ' => ∃ lb ep, acc = .dict (mapT lb) ep ∧ lb.map (·.1) = (dl.map (·.1)).take i ∧ Ext σ σ' ∧ ∀ p ∈ lb, ∃ x y ns, dget dl p.1 = some (.ref x) ∧ p.2 = .ref y ∧ σ x = some (.list ((ns : List Int).map .int)) ∧ σ' y = some (.list (ns.map .int))
  refine ⟨_, _, iter_dict d1.1, J, ?_, ?_, ?_, ?_⟩
  · exact ⟨[], 0, rfl, by simp, Ext.refl _, fun p hp => by cases hp⟩
  · rintro i acc σ' ⟨lb, ep, rfl, _, e, _⟩; exact e _ _ d1.1
  · rintro i x acc σ' hx ⟨lb, ep, rfl, hk, e, hv⟩ c' hd'
    rw [mapT_keys, List.getElem?_map] at hx
    obtain ⟨k, hki, rfl⟩ := Option.map_eq_some_iff.mp hx
    intro c2 hd2
    (repeat walk_at "e")
    intro c3 hd3
    (refine e_callB bt_list callee_type (Facts.b_list (by assumption)) ?_)
    (repeat walk_at "e")
    have hwi : c3.d = c3.d := rfl
    refine lf_getattr F.cW (attr_no F.cWa (by decide +kernel)) (e _ _ S.ws.i.1) (e _ _ S.ws.a.1) S.ws.d ?_
    (repeat walk_at "e")
    have hkm : k ∈ dl.map (·.1) := List.mem_of_getElem? hki
    obtain ⟨v, hv1, hv2⟩ := dget_key hkm
    obtain ⟨r, b, hrb, hr, hb⟩ := d3 _ hv2
    dsimp only at hrb
    have h4 := d4 r b hr hb
    rw [← hrb, hv1] at h4
    obtain ⟨xa, rfl, hxa⟩ := h4
    refine lf_itemT (k := k) (e _ _ d1.1) hv1 ?_
    (repeat walk_at "e")
    have hsl := srcOf_len C C.links (C.net r b)
    have hlk := G.links.1
    refine lf_list_list (e _ _ hxa.1) (by rw [List.length_map]; omega) fun y hy D => ?_
    have hll : lb.length ≤ 50 := by
      have : lb.length = (lb.map (·.1)).length := by simp
      rw [this, hk]
      refine Nat.le_trans (List.length_take_le' _ _) ?_
      rw [List.length_map]; exact d2
    have hnew : k ∉ lb.map (·.1) := by
      rw [hk]
      intro hm
      obtain ⟨j, hj⟩ := List.getElem?_of_mem hm
      have hji : j < i := by
        have := (List.getElem?_eq_some_iff.mp hj).1
        rw [List.length_take] at this; omega
      rw [List.getElem?_take_of_lt hji] at hj
      have := (List.getElem?_inj (List.getElem?_eq_some_iff.mp hj).1 hno).mp (hj.trans hki.symm)
      omega
    refine lf_dsetT (k := k) (upd_self _ _ _) (by omega) fun ep' => ⟨_, rfl, ?_⟩
    refine ⟨_, ep', rfl, ?_, e.trans (Ext.new hy), fun p hp => ?_⟩
    · rw [dset_new hnew, List.map_append, hk, take_next hki]; rfl
    · rw [dset_new hnew] at hp
      rcases List.mem_append.mp hp with hp | hp
      · obtain ⟨x1, y1, ns, q1, q2, q3, q4⟩ := hv p hp
        exact ⟨x1, y1, ns, q1, q2, q3, Ext.new hy _ _ q4⟩
      · simp at hp
        subst hp
        exact ⟨xa, y, _, hv1, rfl, hxa.1, upd_self _ _ _⟩
  · rintro acc σ' ⟨lb, ep, rfl, hk, e, hv⟩ be hbe
    have hfull : ((mapT dl).map (·.1)).length = (dl.map (·.1)).length := by rw [mapT_keys]; simp
    rw [hfull, List.take_length] at hk
    have ke : Keep (fun _ => True) σ ℓ (upd σ' be (.dict (mapT lb) ep)) ℓ := Keep.ext (e.trans (Ext.new hbe))
    refine h _ _ ℓ be (S.keep ke) (GG.keep ke trivial trivial) (ke _ _ _ trivial DU) ⟨dl, lb, dep, ep, (ke _ _ _ trivial d1).1, upd_self _ _ _, ?_, fun k v hm => ?_⟩ ⟨?_, ?_, ?_, ?_, ?_⟩ ⟨?_, ?_, ?_, ?_, ?_⟩ ?_ ?_ ?_
    · have := congrArg List.length hk; simpa using this.symm
    · have hkl : k ∈ lb.map (·.1) := by rw [hk]; exact List.mem_map_of_mem hm
      obtain ⟨w, w1, w2⟩ := dget_key hkl
      obtain ⟨x, y, ns, q1, q2, q3, q4⟩ := hv _ w2
      dsimp only at q1 q2
      subst q2
      obtain ⟨v', v1, v2⟩ := dget_key (List.mem_map_of_mem (f := (·.1)) hm)
      have hvv : v = v' := by
        obtain ⟨i1, hi1⟩ := List.getElem?_of_mem hm
        obtain ⟨i2, hi2⟩ := List.getElem?_of_mem v2
        have e1 : (dl.map (·.1))[i1]? = some k := by rw [List.getElem?_map, hi1]; rfl
        have e2 : (dl.map (·.1))[i2]? = some k := by rw [List.getElem?_map, hi2]; rfl
        have := (List.getElem?_inj (List.getElem?_eq_some_iff.mp e1).1 hno).mp (e1.trans e2.symm)
        subst this
        rw [hi1] at hi2
        exact (Prod.mk.inj (Option.some.inj hi2)).2
      subst hvv
      rw [q1] at v1
      cases v1
      exact ⟨x, y, ns, rfl, w1, (e.trans (Ext.new hbe)) _ _ q3, Ext.new hbe _ _ q4⟩
    all_goals walk_at "lk"
end

-- part W19
-- the built case, as the readers see it
theorem CS.world {C : Cd} (G : C.Good) {A : Ad} {σ0 σ : Store} {ℓ : Addr → Nat} {rest : List Int} {cnt : Nat} {cs : List (PySem.Str × Int × List Int)} (S : CS C A σ0 σ ℓ C.n C.n C.top (srcOf C C.links) rest cnt cs (srcOf C C.links) C.pulls) {ind : Addr} {il : List (Int × V)} {iep : Nat} (hi : σ ind = some (.dict (mapI il) iep)) (hin : ∀ r : Nat, (dget il (r : Int)).isSome = C.inputs.any (· == (r : Int))) :
    World C.wd σ A.wi A.wx A.dz A.dx ind A.fw A.fd := by
  obtain ⟨xs, s1, s2, s3⟩ := S.sigs
  obtain ⟨nl, nep, n1, n2, n3, n4⟩ := S.nets
  obtain ⟨dl, dep, d1, d2, d3, d4⟩ := S.drv
  obtain ⟨pl, pep, p1, p2, p3⟩ := S.pul
  refine ⟨S.ws.i.1, S.ws.a.1, S.ds.i.1, S.ds.a.1, ⟨_, nl, nep, S.ws.n, n1.1, fun r hr => ?_⟩, ⟨_, dl, dep, S.ws.d, d1.1, fun r b hr hb => ?_, d3, by omega⟩, ⟨_, pl, pep, S.ws.p, p1.1, fun r b _ _ => p3 _⟩, ⟨_, xs, S.ds.s, s1.1, s2, fun r x hx => ?_⟩, ⟨il, iep, hi, fun r _ => hin r⟩⟩
  · obtain ⟨b, e1, e2⟩ := n4 r hr
    exact ⟨b, e1, e2.1⟩
  · have := d4 r b hr hb
    cases z : dget dl [(r : Int), (b : Int)] with
    | none => rw [z] at this; exact this
    | some v => rw [z] at this; obtain ⟨a, q1, q2⟩ := this; exact ⟨a, q1, q2.1⟩
  · obtain ⟨s, sx, fs, q1, q2, q3, q4, q5⟩ := s3 r x hx
    exact ⟨s, sx, fs, q1, q2.1, q3.1, q4, q5⟩

-- part W20
theorem sorted_same {xs ys zs ws : List Int} (h1 : zs.Perm xs) (h2 : ws.Perm ys) (p1 : zs.Pairwise (· ≤ ·)) (p2 : ws.Pairwise (· ≤ ·)) (hx : xs.Nodup) (hy : ys.Nodup) (h : ∀ a, a ∈ xs ↔ a ∈ ys) : zs = ws := by
  have hp : xs.Perm ys := (List.perm_ext_iff_of_nodup hx hy).mpr h
  exact List.Perm.eq_of_pairwise (fun a b _ _ h1 h2 => Int.le_antisymm h1 h2) p1 p2 ((h1.trans hp).trans h2.symm)
-- the first of the two laws
theorem due_great {C : Cd} (G : C.Good) {ks : List Int} (h : Great (srcOf C C.links) C.wd.rest ks) (x : Int) : x ∈ ks ↔ x ∈ dueOf C := by
  have hnf : ∀ {y : Int}, y ∈ C.wd.rest → ((firmOf C).any (· == y)) = false := fun {y} hy => by
    cases z : (firmOf C).any (· == y) with
    | false => rfl
    | true => exact absurd hy (mem_firm.mp (any_mem.mp z)).2
  have hrc : ∀ {y : Int}, y ∈ C.wd.rest → 0 ≤ y ∧ y < C.count := fun {y} hy => by have := rest_lt hy; unfold Cd.count; omega
  constructor
  · intro hx
    refine List.mem_filter.mpr ⟨h.sub x hx, isDue_iff.mpr fun ⟨y, hy, hf⟩ => ?_⟩
    have : y ∈ ks := by
      clear hf
      induction hy with
      | refl => exact hx
      | step _ _ h3 ih => exact h.closed _ ih _ h3
    exact (mem_firm.mp hf).2 (h.sub y this)
  · intro hx
    refine h.great (dueOf C) (fun k hk => (List.mem_filter.mp hk).1) (fun k hk y hy => ?_) x hx
    obtain ⟨hk1, hk2⟩ := List.mem_filter.mp hk
    have hk2 := isDue_iff.mp hk2
    have hyc := src_in G hy
    have hr : Reach (srcOf C C.links) (fun x => (firmOf C).any (· == x)) k y := .step .refl (hnf hk1) hy
    have hyr : y ∈ C.wd.rest := Classical.byContradiction fun hno => hk2 ⟨y, hr, mem_firm.mpr ⟨hyc, hno⟩⟩
    refine List.mem_filter.mpr ⟨hyr, isDue_iff.mpr fun ⟨z, hz, hf⟩ => hk2 ⟨z, ?_, hf⟩⟩
    clear hf
    induction hz with
    | refl => exact hr
    | step _ h2 h3 ih => exact .step ih h2 h3
theorem rest_nodup {C : Cd} (G : C.Good) : C.wd.rest.Nodup := nodup_nets (Cd.wd_good G) (nodup_restUp _) fun p hp => by have := mem_restUp.mp hp; exact ⟨this.1, this.2.1⟩

-- part W21
section
variable {σ σ' : Store}
theorem World.ext {D : Wd} {wi wx dz dx ind : Addr} {fw fd : List (PySem.Str × V)} (h : World D σ wi wx dz dx ind fw fd) (e : Ext σ σ') : World D σ' wi wx dz dx ind fw fd := by
  obtain ⟨a1, l1, p1, x1, x2, x3⟩ := h.nets
  obtain ⟨a2, l2, p2, y1, y2, y3, y4, y5⟩ := h.drivers
  obtain ⟨a3, l3, p3, z1, z2, z3⟩ := h.pulls
  obtain ⟨a4, l4, u1, u2, u3, u4⟩ := h.signals
  obtain ⟨l5, p5, v1, v2⟩ := h.inputs
  refine ⟨e _ _ h.wi, e _ _ h.wa, e _ _ h.di, e _ _ h.da, ⟨a1, l1, p1, x1, e _ _ x2, fun r hr => ?_⟩, ⟨a2, l2, p2, y1, e _ _ y2, fun r b hr hb => ?_, y4, y5⟩, ⟨a3, l3, p3, z1, e _ _ z2, z3⟩, ⟨a4, l4, u1, e _ _ u2, u3, fun r x hx => ?_⟩, ⟨l5, p5, e _ _ v1, v2⟩⟩
  · obtain ⟨b, q1, q2⟩ := x3 r hr; exact ⟨b, q1, e _ _ q2⟩
  · have := y3 r b hr hb
    cases z : dget l2 [(r : Int), (b : Int)] with
    | none => rw [z] at this; exact this
    | some v => rw [z] at this; obtain ⟨x, q1, q2⟩ := this; exact ⟨x, q1, e _ _ q2⟩
  · obtain ⟨s, sx, fs, q1, q2, q3, q4⟩ := u4 r x hx
    exact ⟨s, sx, fs, q1, e _ _ q2, e _ _ q3, q4⟩
theorem NetL.ext {D : Wd} {nl nx : Addr} {fn : List (PySem.Str × V)} (h : NetL D σ nl nx fn) (e : Ext σ σ') : NetL D σ' nl nx fn := ⟨e _ _ h.i, e _ _ h.a, let ⟨c, z1, z2⟩ := h.cells; ⟨c, z1, e _ _ z2⟩⟩
end
theorem World.of {C : Cd} (G : C.Good) {σ : Store} {ℓ : Addr → Nat} {sl nt dr pu wi wx dz dx bp : Addr} {fw fd : List (PySem.Str × V)} {bn : Nat} (s : Sigs C σ ℓ sl C.n) (n : Nets C σ ℓ nt C.n) (dv : Drvs C σ ℓ dr (srcOf C C.links)) (pv : Puls σ ℓ pu C.pulls) (ds : DsgP σ ℓ dz dx sl bp fd bn)
    (w1 : σ wi = some (.inst 267 wx)) (w2 : σ wx = some (.attrs fw)) (w3 : fget fw "nets" = some (.ref nt)) (w4 : fget fw "drivers" = some (.ref dr)) (w5 : fget fw "pulls" = some (.ref pu)) {ind : Addr} {il : List (Int × V)} {iep : Nat} (hi : σ ind = some (.dict (mapI il) iep)) (hin : ∀ r : Nat, (dget il (r : Int)).isSome = C.inputs.any (· == (r : Int))) :
    World C.wd σ wi wx dz dx ind fw fd := by
  obtain ⟨xs, s1, s2, s3⟩ := s
  obtain ⟨nl, nep, n1, n2, n3, n4⟩ := n
  obtain ⟨dl, dep, d1, d2, d3, d4⟩ := dv
  obtain ⟨pl, pep, p1, p2, p3⟩ := pv
  refine ⟨w1, w2, ds.i.1, ds.a.1, ⟨_, nl, nep, w3, n1.1, fun r hr => ?_⟩, ⟨_, dl, dep, w4, d1.1, fun r b hr hb => ?_, d3, by omega⟩, ⟨_, pl, pep, w5, p1.1, fun r b _ _ => p3 _⟩, ⟨_, xs, ds.s, s1.1, s2, fun r x hx => ?_⟩, ⟨il, iep, hi, fun r _ => hin r⟩⟩
  · obtain ⟨b, e1, e2⟩ := n4 r hr
    exact ⟨b, e1, e2.1⟩
  · have := d4 r b hr hb
    cases z : dget dl [(r : Int), (b : Int)] with
    | none => rw [z] at this; exact this
    | some v => rw [z] at this; obtain ⟨a, q1, q2⟩ := this; exact ⟨a, q1, q2.1⟩
  · obtain ⟨s, sx, fs, q1, q2, q3, q4, q5⟩ := s3 r x hx
    exact ⟨s, sx, fs, q1, q2.1, q3.1, q4, q5⟩
-- what stands after wires.floating is set
structure Fd (C : Cd) (A : Ad) (σ0 σ : Store) (ga du be ind fl : Addr) (ks : List Int) (fw : List (PySem.Str × V)) : Prop where
  old : Ext σ0 σ
  w : World C.wd σ A.wi A.wx A.dz A.dx ind fw A.fd
  n : NetL C.wd σ A.nl A.nx (fset A.fn "count" (.int C.count))
  so : ∃ ℓ, Srcs σ ℓ A.so C.top (srcOf C C.links)
  g : ∃ ℓ, Gats σ ℓ ga C.outs
  dd : σ du = some (.list ((dueOf C).map .int))
  tw : Twin σ A.dr be
  dr : fget fw "drivers" = some (.ref A.dr)
  ff : fget fw "floating" = some (.ref fl)
  fd : ∃ l ep, σ fl = some (.dict (mapI l) ep) ∧ l.map (·.1) = ks
  gr : Great (srcOf C C.links) C.wd.rest ks
theorem Srcs.ext {σ σ' : Store} {ℓ : Addr → Nat} {so : Addr} {top : Nat} {f : Int → List Int} (h : Srcs σ ℓ so top f) (e : Ext σ σ') : Srcs σ' ℓ so top f := h.keep (p := fun _ => True) (Keep.ext e) trivial (fun _ => trivial)
theorem Gats.ext {σ σ' : Store} {ℓ : Addr → Nat} {ga : Addr} {cs : List (PySem.Str × Int × List Int)} (h : Gats σ ℓ ga cs) (e : Ext σ σ') : Gats σ' ℓ ga cs := h.keep (p := fun _ => True) (Keep.ext e) trivial trivial
theorem Fd.ext {C : Cd} {A : Ad} {σ0 σ σ' : Store} {ga du be ind fl : Addr} {ks : List Int} {fw : List (PySem.Str × V)} (h : Fd C A σ0 σ ga du be ind fl ks fw) (e : Ext σ σ') : Fd C A σ0 σ' ga du be ind fl ks fw :=
  ⟨h.old.trans e, h.w.ext e, h.n.ext e, let ⟨ℓ, z⟩ := h.so; ⟨ℓ, z.ext e⟩, let ⟨ℓ, z⟩ := h.g; ⟨ℓ, z.ext e⟩, e _ _ h.dd, h.tw.ext e, h.dr, h.ff, let ⟨l, ep, z1, z2⟩ := h.fd; ⟨l, ep, e _ _ z1, z2⟩, h.gr⟩
section
variable {P : Pg} {c : Cx P (fnScope (top 18))} {d : Nat} {σ0 : Store} {Fin : Fl → Loc → Store → Prop}
theorem phaseI (F : Facts P.K) (hd : c.d = d + 3) {C : Cd} (G : C.Good) {A : Ad} {m : Loc} {σ : Store} {ℓ : Addr → Nat} {so inn pl ce li ga du be : Addr} (ar : Arg0 C σ0 so inn pl ce li)
    (hn : FnOk A.fn A.ca) (S : CS C A σ0 σ ℓ C.n C.n C.top (srcOf C C.links) C.wd.rest C.count C.outs (srcOf C C.links) C.pulls) (GG : Gats σ ℓ ga C.outs) (DU : At σ ℓ du 31 (.list ((dueOf C).map .int))) (TW : Twin σ A.dr be) (hl : LocA m so inn pl ce li) (hb : LocB m A) (hg : m "gates" = some (.ref ga)) (hu : m "due" = some (.ref du)) (hbe : m "before" = some (.ref be))
    (h : ∀ σ ind fl ks fw, Fd C A σ0 σ ga du be ind fl ks fw → WB c (caseB.drop 15) m σ Fin) : WB c (caseB.drop 14) m σ Fin := by
  obtain ⟨l1, l2, l3, l4, l5⟩ := hl
  obtain ⟨b1, b2, b3, b4, b5⟩ := hb
  have hin := G.inputs
  ((show WB _ _ _ _ _; refine b_cons ?_))
  refine x_assign_attr ?_
  refine e_call F.gfloating_nets F.floating.keep ?_
  walk_at "e"
  walk_at "e"
  walk_at "e"
  walk_at "e"
  refine es_cons (e_dictcomp ?_)
  (repeat walk_at "e")
  have hinn := (S.old _ _ ar.inn).1
  let J : Nat → O → Store → Prop := fun i acc σ' => (∃ l ep, acc = .dict (mapI l) ep ∧ l.length ≤ i ∧ i ≤ C.inputs.length ∧ ∀ k, k ∈ l.map (·.1) ↔ k ∈ C.inputs.take i) ∧ Ext σ σ'
  refine ⟨_, _, iter_list hinn, J, ?_, ?_, ?_, ?_⟩
  · exact ⟨⟨[], 0, rfl, Nat.le_refl _, Nat.zero_le _, fun k => by simp⟩, Ext.refl _⟩
  · rintro i acc σ' ⟨_, e⟩; exact e _ _ hinn
  · rintro i x acc σ' hx ⟨⟨l, ep, rfl, hll, hil, hk⟩, e⟩ c' hd'
    rw [List.getElem?_map] at hx
    obtain ⟨k, hki, rfl⟩ := Option.map_eq_some_iff.mp hx
    have hlt := (List.getElem?_eq_some_iff.mp hki).1
    intro c2 hd2
    (repeat walk_at "e")
    intro c3 hd3
    (repeat walk_at "e")
    intro D
    refine lf_dsetI (upd_self _ _ _) (by omega) fun ep' => ⟨_, rfl, ⟨_, ep', rfl, ?_, hlt, fun j => ?_⟩, e⟩
    · exact Nat.le_trans (dset_length_le _ _ _) (by omega)
    · rw [dset_mem, take_next hki, List.mem_append, List.mem_singleton, hk j]
  · rintro acc σ' ⟨⟨l, ep, rfl, hll, hil, hk⟩, e⟩ ind hind
    have hfull : (C.inputs.map V.int).length = C.inputs.length := by simp
    rw [hfull, List.take_length] at hk
    have hk : ∀ k, (dget l k).isSome = C.inputs.any (· == k) := fun k => by
      rw [dget_keys, Bool.eq_iff_iff, decide_eq_true_iff, any_mem]; exact hk k
    have e1 : Ext σ (upd σ' ind (.dict (mapI l) ep)) := e.trans (Ext.new hind)
    have i1 : (upd σ' ind (.dict (mapI l) ep)) ind = some (.dict (mapI l) ep) := upd_self _ _ _
    generalize upd σ' ind (.dict (mapI l) ep) = σ1 at e1 i1 ⊢
    clear e hind
    have S1 := S.keep (Keep.ext e1)
    walk_at "e"
    rw [hd]
    refine (floating_leaf F (Cd.wd_good G) (CS.world G S1 i1 fun r => hk _) (fun k => Nat.le_trans (srcOf_len C C.links k) (by have := G.links.1; omega)) fun fl fll fep σ2 e2 hfl hfl2 hgr => ?_).leaf
    have e12 := e1.trans e2
    have S2 := S.keep (Keep.ext e12)
    (repeat walk_at "e")
    refine lf_setattr F.cW (attr_no F.cWa (by decide +kernel)) S2.ws.i.1 S2.ws.a.1 (by have := S2.ws.len; omega) ?_
    have K : Keep (· ≠ 11) σ2 ℓ (upd σ2 A.wx (.attrs (fset A.fw "floating" (.ref fl)))) ℓ := Keep.set S2.ws.a
    have K14 : Keep (· ≠ 11) σ ℓ (upd σ2 A.wx (.attrs (fset A.fw "floating" (.ref fl)))) ℓ := (Keep.ext (p := (· ≠ 11)) e12).trans K fun _ z => z
    have O3 : Old σ0 (upd σ2 A.wx (.attrs (fset A.fw "floating" (.ref fl)))) ℓ := S.old.keep K14 (by decide)
    have N3 := S.np.keep K14 (by decide) (by decide) (by decide)
    have hne : ∀ {x : Addr} {o : O}, σ2 x = some o → (∀ fs, o ≠ .attrs fs) → (upd σ2 A.wx (.attrs (fset A.fw "floating" (.ref fl)))) x = some o := fun {x o} hx hno => by
      rw [upd_ne _ _ (kinds_ne hx S2.ws.a.1 (hno _))]; exact hx
    have W3 := World.of G (S.sigs.keep K14 (by decide) (by decide) (by decide)) (S.nets.keep K14 (by decide) (by decide)) (S.drv.keep K14 (by decide) (fun j => by omega)) (S.pul.keep K14 (by decide)) (S.ds.keep K14 (by decide) (by decide) (by decide)) (K14 _ _ _ (by decide) S.ws.i).1 (At.set S2.ws.a).1 (fget_skip (by decide +kernel) S.ws.n) (fget_skip (by decide +kernel) S.ws.d) (fget_skip (by decide +kernel) S.ws.p) (hne (e2 _ _ i1) (by simp)) fun r => hk _
    refine h _ ind fl (fll.map (fun p : Int × V => p.1)) (fset A.fw "floating" (.ref fl)) ⟨fun x o e => (O3 x o e).1, W3, ⟨N3.i.1, N3.a.1, A.ca, fget_skip (by decide +kernel) hn.cells, N3.c.1⟩, ⟨ℓ, S.srcs.keep K14 (by decide) (fun j => by omega)⟩, ⟨ℓ, GG.keep K14 (by decide) (by decide)⟩, (K14 _ _ _ (by decide) DU).1, ?_, fget_skip (by decide +kernel) S.ws.d, fget_set _ _ _, ⟨fll, fep, hne hfl2 (by simp), rfl⟩, by exact hgr⟩
    obtain ⟨la, lb, ea, eb, t1, t2, t3, t4⟩ := TW
    refine ⟨la, lb, ea, eb, hne (e12 _ _ t1) (by simp), hne (e12 _ _ t2) (by simp), t3, fun k v hm => ?_⟩
    obtain ⟨x, y, ns, q1, q2, q3, q4⟩ := t4 k v hm
    exact ⟨x, y, ns, q1, q2, hne (e12 _ _ q3) (by simp), hne (e12 _ _ q4) (by simp)⟩
end

-- part W22
section
variable {P : Pg} {c : Cx P (fnScope (top 18))} {d : Nat} {σ0 : Store} {Fin : Fl → Loc → Store → Prop}
theorem due_nodup {C : Cd} (G : C.Good) : (dueOf C).Nodup := (rest_nodup G).sublist List.filter_sublist
theorem due_len {C : Cd} (G : C.Good) : (dueOf C).length ≤ 40 := Nat.le_trans (List.length_filter_le _ _) (rest_len G)
theorem ks_len {C : Cd} (G : C.Good) {ks : List Int} (h : Great (srcOf C C.links) C.wd.rest ks) : ks.length ≤ 40 :=
  Nat.le_trans (List.Nodup.length_le_of_subset h.nodup fun x hx => h.sub x hx) (rest_len G)
theorem phaseJ (F : Facts P.K) (hd : c.d = d + 3) {C : Cd} (G : C.Good) {A : Ad} {m : Loc} {σ : Store} {ga du be ind fl : Addr} {ks : List Int} {fw : List (PySem.Str × V)}
    (D : Fd C A σ0 σ ga du be ind fl ks fw) (b3 : m "wires" = some (.ref A.wi)) (hu : m "due" = some (.ref du))
    (h : ∀ σ, Fd C A σ0 σ ga du be ind fl ks fw → WB c (caseB.drop 16) m σ Fin) : WB c (caseB.drop 15) m σ Fin := by
  obtain ⟨l, ep, f1, f2⟩ := D.fd
  have hkl := ks_len G D.gr
  have hdl := due_len G
  have hll : l.length ≤ 40 := by rw [← f2, List.length_map] at hkl; exact hkl
  ((show WB _ _ _ _ _; refine b_cons ?_))
  refine x_if ?_
  (repeat walk_at "e")
  (refine e_callB bt_sorted callee_builtin (Facts.b_sorted (by assumption)) ?_)
  (repeat walk_at "e")
  refine lf_getattr F.cW (attr_no F.cWa (by decide +kernel)) D.w.wi D.w.wa D.ff ?_
  (repeat walk_at "e")
  refine lf_sortedI f1 (by omega) fun ns hp1 hs1 b hb => ?_
  have e1 : Ext σ (upd σ b (.list (ns.map .int))) := Ext.new hb
  have o1 : (upd σ b (.list (ns.map .int))) b = some (.list (ns.map .int)) := upd_self _ _ _
  have D1 := D.ext e1
  generalize upd σ b (.list (ns.map .int)) = σ1 at e1 o1 D1 ⊢
  (refine e_callB bt_sorted callee_builtin (Facts.b_sorted (by assumption)) ?_)
  (repeat walk_at "e")
  refine lf_sortedL D1.dd (by omega) fun ms hp2 hs2 b2 hb2 => ?_
  have e2 : Ext σ1 (upd σ1 b2 (.list (ms.map .int))) := Ext.new hb2
  have o2 : (upd σ1 b2 (.list (ms.map .int))) b2 = some (.list (ms.map .int)) := upd_self _ _ _
  have D2 := D1.ext e2
  generalize upd σ1 b2 (.list (ms.map .int)) = σ2 at e2 o2 D2 ⊢
  refine lf_neL (e2 _ _ o1) o2 ?_
  have hsame : ns = ms := by
    rw [f2] at hp1
    exact sorted_same hp1 hp2 hs1 hs2 D.gr.nodup (due_nodup G) fun a => due_great G D.gr a
  rw [decide_eq_true hsame]
  refine bIf (fun q => by cases q) fun _ => ?_
  ((show WB _ [] _ _ _; refine b_nil ?_))
  exact h σ2 D2
end

-- part W23
-- the ways back: sources without what floats, and the ins of gates
noncomputable def dueB (C : Cd) (x : Int) : Bool := (dueOf C).any (· == x)
noncomputable def gateF (C : Cd) (k : Int) : List Int := match C.cells[(k - C.top).toNat]? with
  | some p => if (["flop", "latch"] : List PySem.Str).any (· == p.1) = true then [] else p.2
  | none => []
noncomputable def wayF (C : Cd) (k : Int) : List Int := if k < C.top then (srcOf C C.links k).filter fun y => !dueB C y else gateF C k
noncomputable def Ways (C : Cd) (σ : Store) (wa : Addr) (n : Nat) (p : Int → Prop) : Prop := ∃ l ep, σ wa = some (.dict (mapI l) ep) ∧ l.length ≤ n ∧ ∀ k, match dget l k with
  | some v => p k ∧ ∃ x, v = .ref x ∧ σ x = some (.list ((wayF C k).map .int))
  | none => ¬ p k
theorem Ways.ext {C : Cd} {σ σ' : Store} {wa : Addr} {n : Nat} {p : Int → Prop} (h : Ways C σ wa n p) (e : Ext σ σ') : Ways C σ' wa n p := by
  obtain ⟨l, ep, h1, h2, h3⟩ := h
  refine ⟨l, ep, e _ _ h1, h2, fun k => ?_⟩
  have := h3 k
  cases z : dget l k with
  | none => rw [z] at this; exact this
  | some v => rw [z] at this; obtain ⟨q, x, q1, q2⟩ := this; exact ⟨q, x, q1, e _ _ q2⟩
theorem Ways.congr {C : Cd} {σ : Store} {wa : Addr} {n n' : Nat} {p q : Int → Prop} (h : Ways C σ wa n p) (hn : n ≤ n') (e : ∀ k, p k ↔ q k) : Ways C σ wa n' q := by
  obtain ⟨l, ep, h1, h2, h3⟩ := h
  refine ⟨l, ep, h1, by omega, fun k => ?_⟩
  have := h3 k
  cases z : dget l k with
  | none => rw [z] at this; exact fun w => this ((e k).mpr w)
  | some v => rw [z] at this; exact ⟨(e k).mp this.1, this.2⟩
theorem Ways.add {C : Cd} {σ : Store} {wa : Addr} {n : Nat} {p : Int → Prop} (h : Ways C σ wa n p) {k : Int} (hk : ¬ p k) {x : Addr} (hx : σ x = some (.list ((wayF C k).map .int))) :
    ∃ l ep, σ wa = some (.dict (mapI l) ep) ∧ l.length ≤ n ∧ ∀ ep', Ways C (upd σ wa (.dict (mapI (dset l k (.ref x))) ep')) wa (n + 1) (fun j => j = k ∨ p j) := by
  obtain ⟨l, ep, h1, h2, h3⟩ := h
  refine ⟨l, ep, h1, h2, fun ep' => ⟨_, ep', upd_self _ _ _, Nat.le_trans (dset_length_le _ _ _) (by omega), fun j => ?_⟩⟩
  have hno : dget l k = none := by
    have := h3 k
    cases z : dget l k with
    | none => rfl
    | some v => rw [z] at this; exact absurd this.1 hk
  have keep : ∀ {y : Addr} {ns : List V}, σ y = some (.list ns) → upd σ wa (.dict (mapI (dset l k (.ref x))) ep') y = some (.list ns) := fun {y ns} hy => by
    rw [upd_ne _ _ (kinds_ne hy h1 (by simp))]; exact hy
  rw [dget_dset hno]
  by_cases q : j = k
  · subst q
    rw [if_pos rfl]
    exact ⟨.inl rfl, x, rfl, keep hx⟩
  · rw [if_neg q]
    have := h3 j
    cases z : dget l j with
    | none => rw [z] at this; exact fun w => w.elim q this
    | some v => rw [z] at this; obtain ⟨q1, y, q2, q3⟩ := this; exact ⟨.inr q1, y, q2, keep q3⟩
theorem dget_at {K α : Type} [DecidableEq K] {l : List (K × α)} (hn : (l.map (·.1)).Nodup) {i : Nat} {p : K × α} (h : l[i]? = some p) : dget l p.1 = some p.2 := by
  obtain ⟨w, w1, w2⟩ := dget_key (l := l) (List.mem_map_of_mem (f := (·.1)) (List.mem_of_getElem? h))
  obtain ⟨j, hj⟩ := List.getElem?_of_mem w2
  have e1 : (l.map (·.1))[i]? = some p.1 := by rw [List.getElem?_map, h]; rfl
  have e2 : (l.map (·.1))[j]? = some p.1 := by rw [List.getElem?_map, hj]; rfl
  have := (List.getElem?_inj (List.getElem?_eq_some_iff.mp e1).1 hn).mp (e1.trans e2.symm)
  subst this
  rw [h] at hj
  rw [w1]
  exact congrArg (fun o => o.map Prod.snd) hj.symm
structure LocC (m : Loc) (A : Ad) (ga du be : Addr) : Prop where
  b : LocB m A
  g : m "gates" = some (.ref ga)
  u : m "due" = some (.ref du)
  e : m "before" = some (.ref be)

section
variable {P : Pg} {c : Cx P (fnScope (top 18))} {d : Nat} {σ0 : Store} {Fin : Fl → Loc → Store → Prop}
theorem phaseK (F : Facts P.K) (hd : c.d = d + 3) {C : Cd} (G : C.Good) {A : Ad} {m : Loc} {σ : Store} {ga du be ind fl : Addr} {ks : List Int} {fw : List (PySem.Str × V)}
    (D : Fd C A σ0 σ ga du be ind fl ks fw) (hl : LocC m A ga du be)
    (h : ∀ m σ wa σ1, Fd C A σ0 σ1 ga du be ind fl ks fw → σ1 wa = none → Ext σ1 σ → LocC m A ga du be → m "ways" = some (.ref wa) → Ways C σ wa 40 (fun k => 2 ≤ k ∧ k < C.top) → WB c (caseB.drop 18) m σ Fin) : WB c (caseB.drop 16) m σ Fin := by
  obtain ⟨⟨b1, b2, b3, b4, b5⟩, g1, g2, g3⟩ := hl
  have hcount := Cd.count_le G
  have htop : C.top ≤ C.count := Nat.le_add_right _ _
  ((show WB _ _ _ _ _; refine b_cons ?_))
  refine x_assign ?_
  (repeat walk_at "e")
  intro wa hwa
  refine WB.know fun kn => ?_
  ((show WB _ _ _ _ _; refine b_cons ?_))
  refine x_for ?_
  (repeat walk_at "e")
  obtain ⟨ℓ, sl, sep, s1, s2, s3⟩ := D.so
  have hno : (sl.map (·.1)).Nodup := by have := kn _ _ _ (Ext.new hwa _ _ s1.1); rw [mapI_keys] at this; exact nodup_of_map this
  have hsk : ∀ k : Int, k ∈ sl.map (·.1) ↔ 2 ≤ k ∧ k < C.top := fun k => by
    have := s3 k
    constructor
    · intro hm
      obtain ⟨v, z, _⟩ := dget_key hm
      rw [z] at this; exact ⟨this.1, this.2.1⟩
    · intro hk
      cases z : dget sl k with
      | none => rw [z] at this; exact absurd hk this
      | some v => have := dget_keys (l := sl) (k := k); rw [z] at this; exact of_decide_eq_true this.symm
  let J : Nat → Loc → Store → Prop := fun i m' σ' => Ext σ σ' ∧ LocC m' A ga du be ∧ m' "ways" = some (.ref wa) ∧ Ways C σ' wa i (fun k => k ∈ (sl.map (·.1)).take i)
  refine ⟨_, _, iter_dict (Ext.new hwa _ _ s1.1), J, ?_, ?_, ?_, ?_⟩
  · exact ⟨Ext.new hwa, ⟨⟨by walk_at "lk", by walk_at "lk", by walk_at "lk", by walk_at "lk", by walk_at "lk"⟩, by walk_at "lk", by walk_at "lk", by walk_at "lk"⟩, by walk_at "lk", [], 0, upd_self _ _ _, Nat.le_refl _, fun k => by simp [dget]⟩
  · rintro i m' σ' ⟨e, _⟩; exact e _ _ s1.1
  · rintro c' hd' i x m' σ' hx ⟨e, ⟨⟨b1, b2, b3, b4, b5⟩, g1, g2, g3⟩, w1, W⟩
    rw [mapI_keys, List.getElem?_map] at hx
    obtain ⟨k, hki, rfl⟩ := Option.map_eq_some_iff.mp hx
    have hki0 := hki
    rw [List.getElem?_map] at hki
    obtain ⟨p, hp, rfl⟩ := Option.map_eq_some_iff.mp hki
    have hlt := (List.getElem?_eq_some_iff.mp hp).1
    have hget := dget_at hno hp
    have hkr := (hsk p.1).mp (List.mem_of_getElem? hki0)
    have h3 := s3 p.1
    rw [hget] at h3
    obtain ⟨_, _, xa, hxa, hxl⟩ := h3
    refine a_name ?_
    ((show WB _ _ _ _ _; refine b_cons ?_))
    refine x_assign_sub ?_
    refine e_listcomp ?_
    (repeat walk_at "e")
    refine lf_itemI (e _ _ s1.1) hget ?_
    rw [hxa]
    have hsl := srcOf_len C C.links p.1
    have hlk := G.links.1
    let J : Nat → List V → Store → Prop := fun j acc σ2 => Ext σ' σ2 ∧ acc = (((srcOf C C.links p.1).take j).filter fun y => !dueB C y).map .int
    refine ⟨_, _, iter_list (e _ _ hxl.1), J, ?_, ?_, ?_, ?_⟩
    · exact ⟨Ext.refl _, by simp⟩
    · rintro j acc σ2 ⟨e2, rfl⟩
      refine ⟨e2 _ _ (e _ _ hxl.1), ?_⟩
      rw [List.length_map]
      exact Nat.le_trans (List.length_filter_le _ _) (Nat.le_trans (List.length_take_le' _ _) (by omega))
    · rintro j z acc σ2 hz ⟨e2, rfl⟩ c2 hd2
      rw [List.getElem?_map] at hz
      obtain ⟨y, hy, rfl⟩ := Option.map_eq_some_iff.mp hz
      show WT _ _ _ _ _
      (repeat walk_at "e")
      refine lf_ninL (e2 _ _ (e _ _ D.dd)) (bIf (fun q => ?_) fun q => ?_)
      · intro c3 hd3
        (repeat walk_at "e")
        refine ⟨e2, ?_⟩
        rw [take_next hy, List.filter_append, List.map_append]
        have q : (!dueB C y) = true := q
        simp only [List.filter_cons, q, if_true, List.filter_nil, List.map_cons, List.map_nil]
      · refine ⟨e2, ?_⟩
        rw [take_next hy, List.filter_append, List.map_append]
        have q : (!dueB C y) = false := q
        simp only [List.filter_cons, q, Bool.false_eq_true, if_false, List.filter_nil, List.map_nil, List.append_nil]
    · rintro acc σ2 ⟨e2, rfl⟩ a ha
      have hfull : ((srcOf C C.links p.1).map V.int).length = (srcOf C C.links p.1).length := by simp
      rw [hfull, List.take_length]
      have hway : wayF C p.1 = (srcOf C C.links p.1).filter fun y => !dueB C y := by unfold wayF; rw [if_pos hkr.2]
      rw [← hway]
      have e3 : Ext σ' (upd σ2 a (.list ((wayF C p.1).map .int))) := e2.trans (Ext.new ha)
      have a3 : (upd σ2 a (.list ((wayF C p.1).map .int))) a = some (.list ((wayF C p.1).map .int)) := upd_self _ _ _
      generalize upd σ2 a (.list ((wayF C p.1).map .int)) = σ3 at e3 a3 ⊢
      (repeat walk_at "e")
      have hnew : p.1 ∉ (sl.map (·.1)).take i := by
        intro hm
        obtain ⟨j, hj⟩ := List.getElem?_of_mem hm
        have hji : j < i := by
          have := (List.getElem?_eq_some_iff.mp hj).1
          rw [List.length_take] at this; omega
        rw [List.getElem?_take_of_lt hji] at hj
        have := (List.getElem?_inj (List.getElem?_eq_some_iff.mp hj).1 hno).mp (hj.trans hki0.symm)
        omega
      obtain ⟨l, ep, q1, q2, q3⟩ := (W.ext e3).add hnew a3
      refine lf_setI q1 (by omega) fun ep' => ?_
      ((show WB _ [] _ _ _; refine b_nil ?_))
      refine ⟨fun x o hx => ?_, ⟨⟨?_, ?_, ?_, ?_, ?_⟩, ?_, ?_, ?_⟩, ?_, (q3 ep').congr (Nat.le_refl _) fun k => ?_⟩
      · have hxe := e3 _ _ (e _ _ hx)
        have hne : x ≠ wa := fun w => by subst w; rw [hwa] at hx; cases hx
        rw [upd_ne _ _ hne]; exact hxe
      · walk_at "lk"
      · walk_at "lk"
      · walk_at "lk"
      · walk_at "lk"
      · walk_at "lk"
      · walk_at "lk"
      · walk_at "lk"
      · walk_at "lk"
      · walk_at "lk"
      · rw [take_next hki0, List.mem_append, List.mem_singleton]
        exact Or.comm
  · rintro m' σ' ⟨e, hl, w1, W⟩
    have hfull : ((mapI sl).map (·.1)).length = sl.length := by simp [mapI]
    rw [hfull] at W
    refine h m' σ' wa σ D hwa e hl w1 (W.congr (by omega) fun k => ?_)
    rw [List.take_of_length_le (by simp)]
    exact hsk k
end

-- part W24
theorem outs_at {C : Cd} {i : Nat} {c : PySem.Str × Int × List Int} (h : C.outs[i]? = some c) : ∃ p, C.cells[i]? = some p ∧ c = (p.1, ((C.top + i : Nat) : Int), p.2) := by
  unfold Cd.outs at h
  rw [List.getElem?_map] at h
  obtain ⟨q, hq, rfl⟩ := Option.map_eq_some_iff.mp h
  rw [List.getElem?_zipIdx] at hq
  obtain ⟨p, hp, rfl⟩ := Option.map_eq_some_iff.mp hq
  exact ⟨p, hp, rfl⟩
theorem outs_keys (C : Cd) : C.outs.map (·.2.1) = (List.range C.cells.length).map fun i => ((C.top + i : Nat) : Int) := by
  apply List.ext_getElem?
  intro i
  rw [List.getElem?_map, List.getElem?_map]
  cases z : C.outs[i]? with
  | none =>
    have : C.outs.length = C.cells.length := by unfold Cd.outs; simp
    have hi : C.cells.length ≤ i := by rw [← this]; exact List.getElem?_eq_none_iff.mp z
    simp [hi]
  | some c =>
    obtain ⟨p, hp, rfl⟩ := outs_at z
    have := (List.getElem?_eq_some_iff.mp hp).1
    simp [this]
theorem way_gate {C : Cd} {i : Nat} {p : PySem.Str × List Int} (h : C.cells[i]? = some p) : wayF C ((C.top + i : Nat) : Int) = if (["flop", "latch"] : List PySem.Str).any (· == p.1) = true then [] else p.2 := by
  unfold wayF
  rw [if_neg (by omega)]
  unfold gateF
  have : (((C.top + i : Nat) : Int) - C.top).toNat = i := by omega
  rw [this, h]
section
variable {P : Pg} {c : Cx P (fnScope (top 18))} {d : Nat} {σ0 : Store} {Fin : Fl → Loc → Store → Prop}
theorem phaseL (F : Facts P.K) (hd : c.d = d + 3) {C : Cd} (G : C.Good) {A : Ad} {m : Loc} {σ σ1 : Store} {wa ga du be ind fl : Addr} {ks : List Int} {fw : List (PySem.Str × V)}
    (D : Fd C A σ0 σ1 ga du be ind fl ks fw) (hwa : σ1 wa = none) (e1 : Ext σ1 σ) (hl : LocC m A ga du be) (w1 : m "ways" = some (.ref wa)) (W : Ways C σ wa 40 (fun k => 2 ≤ k ∧ k < C.top))
    (h : ∀ m σ, Fd C A σ0 σ ga du be ind fl ks fw → LocC m A ga du be → m "ways" = some (.ref wa) → DictL σ wa (wayF C) → WB c (caseB.drop 19) m σ Fin) : WB c (caseB.drop 18) m σ Fin := by
  obtain ⟨⟨b1, b2, b3, b4, b5⟩, g1, g2, g3⟩ := hl
  have hcount := Cd.count_le G
  have hcells := G.cells
  have htop := C.off_two C.n
  have htop : 2 ≤ C.top := htop
  obtain ⟨ℓ, gl, gep, s1, s2, s3⟩ := D.g
  rw [outs_keys] at s2
  have hlen : gl.length = C.cells.length := by have := congrArg List.length s2; simpa using this
  have hno : (gl.map (·.1)).Nodup := by
    rw [s2, List.nodup_iff_pairwise_ne, List.pairwise_map]
    refine List.Pairwise.imp (R := fun a b : Nat => a ≠ b) (fun {a b} hab => ?_) List.nodup_range
    intro w
    have w : ((C.top + a : Nat) : Int) = ((C.top + b : Nat) : Int) := w
    omega
  ((show WB _ _ _ _ _; refine b_cons ?_))
  refine x_for ?_
  (repeat walk_at "e")
  let J : Nat → Loc → Store → Prop := fun i m' σ' => Ext σ1 σ' ∧ LocC m' A ga du be ∧ m' "ways" = some (.ref wa) ∧ Ways C σ' wa (40 + i) (fun k => 2 ≤ k ∧ k < ((C.top + i : Nat) : Int))
  refine ⟨_, _, iter_dict (e1 _ _ s1.1), J, ?_, ?_, ?_, ?_⟩
  · exact ⟨e1, ⟨⟨b1, b2, b3, b4, b5⟩, g1, g2, g3⟩, w1, W⟩
  · rintro i m' σ' ⟨e, _⟩; exact e _ _ s1.1
  · rintro c' hd' i x m' σ' hx ⟨e, ⟨⟨b1, b2, b3, b4, b5⟩, g1, g2, g3⟩, w1, W⟩
    rw [mapI_keys, List.getElem?_map] at hx
    obtain ⟨k, hki, rfl⟩ := Option.map_eq_some_iff.mp hx
    rw [List.getElem?_map] at hki
    obtain ⟨p, hp, rfl⟩ := Option.map_eq_some_iff.mp hki
    have hlt := (List.getElem?_eq_some_iff.mp hp).1
    have hget := dget_at hno hp
    obtain ⟨q, hq⟩ : ∃ q, C.cells[i]? = some q := ⟨_, List.getElem?_eq_getElem (by omega)⟩
    have ho : C.outs[i]? = some (q.1, ((C.top + i : Nat) : Int), q.2) := by
      unfold Cd.outs
      rw [List.getElem?_map, List.getElem?_zipIdx, hq]; rfl
    obtain ⟨xa, hxa, hxl⟩ := s3 i _ p ho hp
    have hkey : p.1 = ((C.top + i : Nat) : Int) := by
      have := congrArg (fun l => l[i]?) s2
      simp only [List.getElem?_map, hp] at this
      rw [List.getElem?_range (by omega)] at this
      simpa using this
    have hway := way_gate hq
    dsimp only at hxl
    rw [← hway] at hxl
    rw [hxa] at hget
    rw [hkey] at hget ⊢
    refine a_name ?_
    ((show WB _ _ _ _ _; refine b_cons ?_))
    refine x_assign_sub ?_
    (repeat walk_at "e")
    refine lf_itemI (e _ _ s1.1) hget ?_
    (repeat walk_at "e")
    obtain ⟨l, ep, q1, q2, q3⟩ := W.add (k := ((C.top + i : Nat) : Int)) (by omega) (e _ _ hxl.1)
    refine lf_setI q1 (by omega) fun ep' => ?_
    ((show WB _ [] _ _ _; refine b_nil ?_))
    refine ⟨fun x o hx => ?_, ⟨⟨?_, ?_, ?_, ?_, ?_⟩, ?_, ?_, ?_⟩, ?_, (q3 ep').congr (Nat.le_refl _) fun k => ?_⟩
    · have hne : x ≠ wa := fun w => by subst w; rw [hwa] at hx; cases hx
      rw [upd_ne _ _ hne]; exact e _ _ hx
    · walk_at "lk"
    · walk_at "lk"
    · walk_at "lk"
    · walk_at "lk"
    · walk_at "lk"
    · walk_at "lk"
    · walk_at "lk"
    · walk_at "lk"
    · walk_at "lk"
    · omega
  · rintro m' σ' ⟨e, hl, w1, l, ep, q1, q2, q3⟩
    have hfull : ((mapI gl).map (·.1)).length = C.cells.length := by rw [← hlen]; simp [mapI]
    rw [hfull] at q3
    refine h m' σ' (D.ext e) hl w1 ⟨l, ep, q1, fun k => ?_⟩
    have := q3 k
    cases z : dget l k with
    | some v => rw [z] at this; exact this.2
    | none =>
      rw [z] at this
      show wayF C k = []
      unfold wayF
      split
      · rw [src_out G (by omega)]; rfl
      · unfold gateF
        rw [List.getElem?_eq_none (by omega)]
end

-- part W25
theorem way_in {C : Cd} (G : C.Good) {k y : Int} (h : y ∈ wayF C k) : 0 ≤ y ∧ y < C.count := by
  unfold wayF at h
  split at h
  · exact src_in G (List.mem_filter.mp h).1
  · unfold gateF at h
    split at h
    · rename_i p hp
      split at h
      · cases h
      · exact (G.ins p (List.mem_of_getElem? hp)).2 y h
    · cases h
noncomputable def hitW (C : Cd) (n : Int) : Prop := ∃ y, Reach (wayF C) (fun x => (dueOf C).any (· == x)) n y ∧ y ∈ dueOf C
open Classical in
noncomputable def isLoose (C : Cd) (n : Int) : Bool := decide (hitW C n)
theorem isLoose_iff {C : Cd} {n : Int} : isLoose C n = true ↔ hitW C n := by unfold isLoose; exact @decide_eq_true_iff _ (_)
noncomputable def upTo (C : Cd) (i : Nat) : List Int := ((List.range i).map fun (i : Nat) => (i : Int)).filter (isLoose C)
theorem upTo_len (C : Cd) (i : Nat) : (upTo C i).length ≤ i := by
  unfold upTo
  refine Nat.le_trans (List.length_filter_le _ _) ?_
  rw [List.length_map, List.length_range]; exact Nat.le_refl _
theorem upTo_succ (C : Cd) (i : Nat) : upTo C (i + 1) = if isLoose C i = true then upTo C i ++ [(i : Int)] else upTo C i := by
  unfold upTo
  rw [List.range_succ, List.map_append, List.filter_append]
  split
  · rename_i q; simp [q]
  · rename_i q; simp [q]
section
variable {P : Pg} {c : Cx P (fnScope (top 18))} {d : Nat} {σ0 : Store} {Fin : Fl → Loc → Store → Prop}
theorem phaseM (F : Facts P.K) (hd : c.d = d + 3) {C : Cd} (G : C.Good) {A : Ad} {m : Loc} {σ : Store} {wa ga du be ind fl : Addr} {ks : List Int} {fw : List (PySem.Str × V)}
    (D : Fd C A σ0 σ ga du be ind fl ks fw) (hl : LocC m A ga du be) (w1 : m "ways" = some (.ref wa)) (W : DictL σ wa (wayF C))
    (h : ∀ m σ lo, Fd C A σ0 σ ga du be ind fl ks fw → LocC m A ga du be → m "loose" = some (.ref lo) → σ lo = some (.list ((upTo C C.count).map .int)) → WB c (caseB.drop 21) m σ Fin) : WB c (caseB.drop 19) m σ Fin := by
  obtain ⟨⟨b1, b2, b3, b4, b5⟩, g1, g2, g3⟩ := hl
  have hcount := Cd.count_le G
  have hdl := due_len G
  ((show WB _ _ _ _ _; refine b_cons ?_))
  refine x_assign ?_
  (repeat walk_at "e")
  refine ⟨by simp, fun lo hlo => ?_⟩
  ((show WB _ _ _ _ _; refine b_cons ?_))
  refine x_for ?_
  (refine e_callB bt_range callee_type (Facts.b_range (by assumption)) ?_)
  (repeat walk_at "e")
  refine lf_getattr F.cN (attr_no F.cNa (by decide +kernel)) (Ext.new hlo _ _ D.n.i) (Ext.new hlo _ _ D.n.a) (fget_set _ _ _) ?_
  (repeat walk_at "e")
  refine lf_range fun ra hra => ?_
  let J : Nat → Loc → Store → Prop := fun i m' σ' => i ≤ C.count ∧ Ext σ σ' ∧ LocC m' A ga du be ∧ m' "ways" = some (.ref wa) ∧ m' "loose" = some (.ref lo) ∧ σ' lo = some (.list ((upTo C i).map .int))
  refine ⟨_, _, iter_range (upd_self _ _ _) (by omega) (by omega), J, ?_, ?_, ?_, ?_⟩
  · exact ⟨Nat.zero_le _, (Ext.new hlo).trans (Ext.new hra), ⟨⟨by walk_at "lk", by walk_at "lk", by walk_at "lk", by walk_at "lk", by walk_at "lk"⟩, by walk_at "lk", by walk_at "lk", by walk_at "lk"⟩, by walk_at "lk", by walk_at "lk", by
      have hne : lo ≠ ra := fun w => by subst w; rw [upd_self] at hra; cases hra
      rw [upd_ne _ _ hne, upd_self]; rfl⟩
  · rintro i m' σ' ⟨hi, e, _⟩; trivial
  · rintro c' hd' i x m' σ' hx ⟨hi, e, ⟨⟨b1, b2, b3, b4, b5⟩, g1, g2, g3⟩, w1, w2, LO⟩
    obtain ⟨hlt, rfl⟩ := range_item hx
    have hlt : i < C.count := by omega
    refine a_name ?_
    ((show WB _ _ _ _ _; refine b_cons ?_))
    refine x_if ?_
    (repeat walk_at "e")
    (refine e_callB bt_len callee_builtin (Facts.b_len (by assumption)) ?_)
    refine es_cons (e_listcomp ?_)
    refine e_call F.g_law_back F.back.keep ?_
    (repeat walk_at "e")
    rw [hd', hd]
    refine (back_leaf (N := C.count) F (W.ext e) (e _ _ D.dd) (by omega) ⟨by omega, by omega⟩ (fun k y hy => way_in G hy) fun r ms σ1 e1 hr hms hre hml => ?_).leaf
    let J : Nat → List V → Store → Prop := fun j acc σ2 => j ≤ ms.length ∧ Ext σ1 σ2 ∧ acc = ((ms.take j).filter fun y => (dueOf C).any (· == y)).map .int
    refine ⟨_, _, iter_list hms, J, ?_, ?_, ?_, ?_⟩
    · exact ⟨Nat.zero_le _, Ext.refl _, by simp⟩
    · rintro j acc σ2 ⟨hj, e2, rfl⟩
      refine ⟨e2 _ _ hms, ?_⟩
      rw [List.length_map]
      exact Nat.le_trans (List.length_filter_le _ _) (Nat.le_trans (List.length_take_le' _ _) (by omega))
    · rintro j z acc σ2 hz ⟨hj, e2, rfl⟩ c2 hd2
      rw [List.getElem?_map] at hz
      obtain ⟨y, hy, rfl⟩ := Option.map_eq_some_iff.mp hz
      have hlt := (List.getElem?_eq_some_iff.mp hy).1
      show WT _ _ _ _ _
      (repeat walk_at "e")
      refine lf_inL (e2 _ _ (e1 _ _ (e _ _ D.dd))) (bIf (fun q => ?_) fun q => ?_)
      · intro c3 hd3
        (repeat walk_at "e")
        refine ⟨hlt, e2, ?_⟩
        rw [take_next hy, List.filter_append, List.map_append]
        simp only [List.filter_cons, q, if_true, List.filter_nil, List.map_cons, List.map_nil]
      · refine ⟨hlt, e2, ?_⟩
        rw [take_next hy, List.filter_append, List.map_append]
        simp only [List.filter_cons, q, Bool.false_eq_true, if_false, List.filter_nil, List.map_nil, List.append_nil]
    · rintro acc σ2 ⟨hj, e2, rfl⟩ a ha
      have hfull : (ms.map V.int).length = ms.length := by simp
      rw [hfull, List.take_length]
      (repeat walk_at "e")
      have hlen : ((ms.filter fun y => (dueOf C).any (· == y)).map V.int).length ≤ 1000000 := by
        rw [List.length_map]
        exact Nat.le_trans (List.length_filter_le _ _) (by omega)
      refine lf_len_list (upd_self _ _ _) hlen ?_
      (repeat walk_at "e")
      have hbit : decide (((((ms.filter fun y => (dueOf C).any (· == y)).map V.int).length : Nat) : Int) > 0) = isLoose C (i : Int) := by
        rw [List.length_map]
        rw [Bool.eq_iff_iff, isLoose_iff, decide_eq_true_iff]
        constructor
        · intro h0
          have h0 : 0 < (ms.filter fun y => (dueOf C).any (· == y)).length := by omega
          obtain ⟨y, hy⟩ := List.exists_mem_of_length_pos h0
          obtain ⟨hy1, hy2⟩ := List.mem_filter.mp hy
          exact ⟨y, (hre y).mp hy1, any_mem.mp hy2⟩
        · rintro ⟨y, hy1, hy2⟩
          have : y ∈ ms.filter fun y => (dueOf C).any (· == y) := List.mem_filter.mpr ⟨(hre y).mpr hy1, any_mem.mpr hy2⟩
          have h1 := List.length_pos_of_mem this
          omega
      refine lf_gti ?_
      rw [hbit]
      have ea : Ext σ' (upd σ2 a (.list ((ms.filter fun y => (dueOf C).any (· == y)).map V.int))) := e1.trans (e2.trans (Ext.new ha))
      generalize upd σ2 a (.list ((ms.filter fun y => (dueOf C).any (· == y)).map V.int)) = σ3 at ea ⊢
      have LO3 := ea _ _ LO
      refine bIf (fun q => ?_) fun q => ?_
      · ((show WB _ _ _ _ _; refine b_cons ?_))
        refine x_expr ?_
        refine e_meth ?_
        (repeat walk_at "e")
        refine ⟨_, m_append LO3, ?_⟩
        (repeat walk_at "e")
        refine lf_append LO3 ?_ ?_
        · rw [List.length_map]
          exact Nat.le_trans (upTo_len _ _) (by omega)
        ((show WB _ [] _ _ _; refine b_nil ?_))
        ((show WB _ [] _ _ _; refine b_nil ?_))
        refine ⟨hlt, fun x o hx => ?_, ⟨⟨?_, ?_, ?_, ?_, ?_⟩, ?_, ?_, ?_⟩, ?_, ?_, ?_⟩
        · have hne : x ≠ lo := fun w => by subst w; rw [hlo] at hx; cases hx
          rw [upd_ne _ _ hne]; exact ea _ _ (e _ _ hx)
        · walk_at "lk"
        · walk_at "lk"
        · walk_at "lk"
        · walk_at "lk"
        · walk_at "lk"
        · walk_at "lk"
        · walk_at "lk"
        · walk_at "lk"
        · walk_at "lk"
        · walk_at "lk"
        · rw [upTo_succ, if_pos q, List.map_append]
          exact upd_self _ _ _
      · ((show WB _ [] _ _ _; refine b_nil ?_))
        ((show WB _ [] _ _ _; refine b_nil ?_))
        refine ⟨hlt, e.trans ea, ⟨⟨?_, ?_, ?_, ?_, ?_⟩, ?_, ?_, ?_⟩, ?_, ?_, ?_⟩
        · walk_at "lk"
        · walk_at "lk"
        · walk_at "lk"
        · walk_at "lk"
        · walk_at "lk"
        · walk_at "lk"
        · walk_at "lk"
        · walk_at "lk"
        · walk_at "lk"
        · walk_at "lk"
        · rw [upTo_succ, if_neg (by rw [q]; decide)]
          exact LO3
  · rintro m' σ' ⟨hi, e, hl, w1, w2, LO⟩
    have hfull : ((List.range (((C.count : Nat) : Int).toNat)).map fun (k : Nat) => V.int (k : Int)).length = C.count := by simp
    rw [hfull] at LO
    exact h m' σ' lo (D.ext e) hl w2 LO
end

-- part W26
theorem Reach.trans' {src : Int → List Int} {stop : Int → Bool} {a b z : Int} (h : Reach src stop a b) (k : Reach src stop b z) : Reach src stop a z := by
  induction k with
  | refl => exact h
  | step _ h2 h3 ih => exact .step ih h2 h3
theorem edge_way {C : Cd} (G : C.Good) {ks : List Int} (hk : ∀ x, x ∈ ks ↔ x ∈ dueOf C) {k x : Int} : Edge C.wd ks k x ↔ k ∈ wayF C x := by
  have hdb : ∀ y, (!dueB C y) = true ↔ y ∉ ks := fun y => by
    unfold dueB
    rw [Bool.not_eq_true', hk]
    constructor
    · intro z hm; rw [any_mem.mpr hm] at z; cases z
    · intro z
      cases w : (dueOf C).any (· == y) with
      | false => rfl
      | true => exact absurd (any_mem.mp w) z
  constructor
  · rintro (⟨c, hc, he⟩ | ⟨r, b, hr, hb, he⟩)
    · obtain ⟨i, hi⟩ := List.getElem?_of_mem (show c ∈ C.outs from hc)
      obtain ⟨p, hp, rfl⟩ := outs_at hi
      unfold cellE at he
      dsimp only at he
      split at he
      · cases he
      · rename_i hs
        obtain ⟨n, hn, e⟩ := List.mem_map.mp he
        cases e
        rw [way_gate hp, if_neg hs]; exact hn
    · unfold spotE at he
      obtain ⟨n, hn, e⟩ := List.mem_map.mp he
      cases e
      obtain ⟨h1, h2⟩ := List.mem_filter.mp hn
      have hlt := C.net_lt (r := r) (b := b) hr hb
      show k ∈ wayF C (C.net r b)
      unfold wayF
      rw [if_pos hlt.2]
      refine List.mem_filter.mpr ⟨h1, (hdb _).mpr fun hm => ?_⟩
      rw [decide_eq_true hm] at h2; cases h2
  · intro h
    unfold wayF at h
    split at h
    · obtain ⟨h1, h2⟩ := List.mem_filter.mp h
      have h2 := (hdb _).mp h2
      have h1' := h1
      unfold srcOf at h1
      obtain ⟨p, hp, rfl⟩ := List.mem_map.mp h1
      obtain ⟨hp1, hp2⟩ := List.mem_filter.mp hp
      obtain ⟨q1, q2, _⟩ := G.links.2 p hp1
      have hx : C.net p.1 p.2.1 = x := by simpa using hp2
      subst hx
      refine .inr ⟨p.1, p.2.1, q1, q2, ?_⟩
      unfold spotE
      refine List.mem_map.mpr ⟨p.2.2, List.mem_filter.mpr ⟨h1', by rw [decide_eq_false h2]; rfl⟩, rfl⟩
    · rename_i hx
      unfold gateF at h
      split at h
      · rename_i p hp
        split at h
        · cases h
        · rename_i hs
          refine .inl ⟨(p.1, ((C.top + (x - C.top).toNat : Nat) : Int), p.2), ?_, ?_⟩
          · show _ ∈ C.outs
            refine List.mem_of_getElem? (i := (x - C.top).toNat) ?_
            unfold Cd.outs
            rw [List.getElem?_map, List.getElem?_zipIdx, hp]; rfl
          · unfold cellE
            dsimp only
            rw [if_neg hs]
            refine List.mem_map.mpr ⟨k, h, ?_⟩
            have : ((C.top + (x - C.top).toNat : Nat) : Int) = x := by omega
            rw [this]
      · cases h
-- the second of the two laws
theorem loose_reach {C : Cd} (G : C.Good) {ks : List Int} (hk : ∀ x, x ∈ ks ↔ x ∈ dueOf C) (x : Int) : FReach (Edge C.wd ks) ks x ↔ hitW C x := by
  constructor
  · intro h
    induction h with
    | base h => exact ⟨_, .refl, (hk _).mp h⟩
    | @step y x _ he ih =>
      obtain ⟨t, h1, h2⟩ := ih
      have hw := (edge_way G hk).mp he
      cases z : (dueOf C).any (· == x) with
      | true => exact ⟨x, .refl, any_mem.mp z⟩
      | false => exact ⟨t, Reach.trans' (.step .refl z hw) h1, h2⟩
  · rintro ⟨y, h1, h2⟩
    have : ∀ y, Reach (wayF C) (fun x => (dueOf C).any (· == x)) x y → FReach (Edge C.wd ks) ks y → FReach (Edge C.wd ks) ks x := by
      intro y h
      induction h with
      | refl => exact fun z => z
      | step _ _ h3 ih => exact fun z => ih (.step z ((edge_way G hk).mpr h3))
    exact this y h1 (.base ((hk _).mpr h2))
theorem upTo_sorted (C : Cd) (i : Nat) : (upTo C i).Pairwise (· < ·) := by
  unfold upTo
  refine List.Pairwise.filter _ ?_
  rw [List.pairwise_map]
  refine List.Pairwise.imp (R := fun a b : Nat => a < b) (fun {a b} hab => ?_) List.pairwise_lt_range
  show (a : Int) < b
  omega
theorem mem_upTo {C : Cd} {i : Nat} {x : Int} : x ∈ upTo C i ↔ (0 ≤ x ∧ x < i) ∧ hitW C x := by
  unfold upTo
  rw [List.mem_filter, isLoose_iff, List.mem_map]
  constructor
  · rintro ⟨⟨j, hj, rfl⟩, h⟩
    rw [List.mem_range] at hj
    exact ⟨by omega, h⟩
  · rintro ⟨h1, h⟩
    exact ⟨⟨x.toNat, List.mem_range.mpr (by omega), by omega⟩, h⟩
theorem edge_in {C : Cd} (G : C.Good) {ks : List Int} {k x : Int} (h : Edge C.wd ks k x) : 0 ≤ x ∧ x < C.count := by
  obtain ⟨c, hc, he⟩ | ⟨r, b, hr, hb, he⟩ := h
  · obtain ⟨i, hi⟩ := List.getElem?_of_mem (show c ∈ C.outs from hc)
    obtain ⟨p, hp, rfl⟩ := outs_at hi
    have hlt := (List.getElem?_eq_some_iff.mp hp).1
    unfold cellE at he
    dsimp only at he
    split at he
    · cases he
    · obtain ⟨n, hn, e⟩ := List.mem_map.mp he
      cases e
      unfold Cd.count
      omega
  · unfold spotE at he
    obtain ⟨n, hn, e⟩ := List.mem_map.mp he
    cases e
    have hlt : 2 ≤ C.net r b ∧ C.net r b < C.top := C.net_lt (r := r) (b := b) hr hb
    have : C.wd.net r b = C.net r b := rfl
    rw [this]
    unfold Cd.count
    omega
section
variable {P : Pg} {c : Cx P (fnScope (top 18))} {d : Nat} {σ0 : Store} {Fin : Fl → Loc → Store → Prop}
theorem phaseN (F : Facts P.K) (hd : c.d = d + 3) {C : Cd} (G : C.Good) {A : Ad} {m : Loc} {σ : Store} {lo ga du be ind fl : Addr} {ks : List Int} {fw : List (PySem.Str × V)}
    (D : Fd C A σ0 σ ga du be ind fl ks fw) (hl : LocC m A ga du be) (w1 : m "loose" = some (.ref lo)) (LO : σ lo = some (.list ((upTo C C.count).map .int)))
    (h : ∀ m σ, Ext σ0 σ → Fin (.ret (.bool true)) m σ) : WB c (caseB.drop 21) m σ Fin := by
  obtain ⟨⟨b1, b2, b3, b4, b5⟩, g1, g2, g3⟩ := hl
  have hcount := Cd.count_le G
  have hcells := G.cells
  have hkl := ks_len G D.gr
  have hdl := due_len G
  have hkd := fun x => due_great G D.gr x
  have hup := upTo_len C C.count
  ((show WB _ _ _ _ _; refine b_cons ?_))
  refine x_if ?_
  (repeat walk_at "e")
  (refine e_callB bt_sorted callee_builtin (Facts.b_sorted (by assumption)) ?_)
  refine es_cons ?_
  refine e_call F.gloose_nets F.loose.keep ?_
  (repeat walk_at "e")
  rw [hd]
  obtain ⟨fll, fep, f1, f2⟩ := D.fd
  refine (loose_leaf (N := C.count) F (Cd.wd_good G) D.w D.n ⟨fl, fll, fep, D.ff, f1, f2⟩ (by show C.outs.length ≤ 100; unfold Cd.outs; simp; omega) (fun c hc => ?_) (fun k => Nat.le_trans (srcOf_len C C.links k) (by have := G.links.1; omega)) hcount (fun y hy => by have := rest_lt (D.gr.sub y hy); unfold Cd.count; omega) D.gr.nodup (fun k x he => edge_in G he) fun r l ep σ1 e1 hr hr2 hnd hmem hbd => ?_).leaf
  · obtain ⟨i, hi⟩ := List.getElem?_of_mem (show c ∈ C.outs from hc)
    obtain ⟨p, hp, rfl⟩ := outs_at hi
    have := (G.ins p (List.mem_of_getElem? hp)).1
    dsimp only
    omega
  (repeat walk_at "e")
  have hll : l.length ≤ C.count := by
    have := nodup_bound (N := C.count) hnd hbd
    rwa [List.length_map] at this
  refine lf_sortedI hr2 (by omega) fun ns hp1 hs1 b hb => ?_
  have e2 : Ext σ1 (upd σ1 b (.list (ns.map .int))) := Ext.new hb
  have o2 : (upd σ1 b (.list (ns.map .int))) b = some (.list (ns.map .int)) := upd_self _ _ _
  generalize upd σ1 b (.list (ns.map .int)) = σ2 at e2 o2 ⊢
  have e12 := e1.trans e2
  (repeat walk_at "e")
  refine lf_neL o2 (e12 _ _ LO) ?_
  have hsame : ns = upTo C C.count := by
    have hlt := upTo_sorted C C.count
    refine sorted_same hp1 (List.Perm.refl _) hs1 (hlt.imp fun h => Int.le_of_lt h) hnd (hlt.imp fun h => Int.ne_of_lt h) fun a => ?_
    rw [hmem, loose_reach G hkd, mem_upTo]
    constructor
    · exact fun z => ⟨hbd a ((hmem a).mpr ((loose_reach G hkd a).mpr z)), z⟩
    · exact fun z => z.2
  rw [decide_eq_true hsame]
  refine bIf (fun q => by cases q) fun _ => ?_
  ((show WB _ [] _ _ _; refine b_nil ?_))
  have D2 := D.ext e12
  ((show WB _ _ _ _ _; refine b_cons ?_))
  refine x_return ?_
  refine e_and ?_
  (repeat walk_at "e")
  refine lf_getattr F.cW (attr_no F.cWa (by decide +kernel)) D2.w.wi D2.w.wa D2.dr ?_
  (repeat walk_at "e")
  obtain ⟨la, lb, ea, eb, t1, t2, t3, t4⟩ := D2.tw
  refine lf_eqT t1 t2 t3 t4 ?_
  refine ⟨true, rfl, ?_⟩
  rw [if_pos rfl]
  obtain ⟨fll, fep, f1, f2⟩ := D2.fd
  have hfl : fll.length ≤ 40 := by rw [← f2, List.length_map] at hkl; exact hkl
  walk_at "e"
  (refine e_callB bt_sorted callee_builtin (Facts.b_sorted (by assumption)) ?_)
  (repeat walk_at "e")
  refine lf_getattr F.cW (attr_no F.cWa (by decide +kernel)) D2.w.wi D2.w.wa D2.ff ?_
  (repeat walk_at "e")
  refine lf_sortedI f1 (by omega) fun ns hp1 hs1 b hb => ?_
  have e3 : Ext σ2 (upd σ2 b (.list (ns.map .int))) := Ext.new hb
  have o3 : (upd σ2 b (.list (ns.map .int))) b = some (.list (ns.map .int)) := upd_self _ _ _
  have D3 := D2.ext e3
  generalize upd σ2 b (.list (ns.map .int)) = σ3 at e3 o3 D3 ⊢
  (refine e_callB bt_sorted callee_builtin (Facts.b_sorted (by assumption)) ?_)
  (repeat walk_at "e")
  refine lf_sortedL D3.dd (by omega) fun ms hp2 hs2 b2 hb2 => ?_
  have e4 : Ext σ3 (upd σ3 b2 (.list (ms.map .int))) := Ext.new hb2
  have o4 : (upd σ3 b2 (.list (ms.map .int))) b2 = some (.list (ms.map .int)) := upd_self _ _ _
  have D4 := D3.ext e4
  generalize upd σ3 b2 (.list (ms.map .int)) = σ4 at e4 o4 D4 ⊢
  refine lf_eqL (e4 _ _ o3) o4 ?_
  have hsame : ns = ms := by
    rw [f2] at hp1
    exact sorted_same hp1 hp2 hs1 hs2 D.gr.nodup (due_nodup G) fun a => due_great G D.gr a
  rw [decide_eq_true hsame]
  exact h _ _ D4.old
end

-- part W27
section
variable {P : Pg} {d : Nat} {σ : Store} {Q : V → Store → Prop}
theorem case_leaf (F : Facts P.K) {C : Cd} (G : C.Good) {so inn pl ce li : Addr} (ar : Arg0 C σ so inn pl ce li) (h : ∀ σ', Ext σ σ' → Q (.bool true) σ') :
    LeafC P (d + 4) (.ref 311) [.ref so, .ref inn, .ref pl, .ref ce, .ref li] σ (asV Q) := by
  refine fn_callC (exV := []) (ex := []) F.case.fn ["sorts", "inputs", "pulls", "cells", "links"] ?_ (fun h => VRs_nil.mpr rfl) (fun c hd => ?_) (by decide +kernel) (by kernel_rfl) (by kernel_rfl) (by kernel_rfl)
  · intro name kV doc pm an cdv ct us s hl _
    obtain ⟨a, b, c, d, e, rfl⟩ := len5 hl
    exact BindsTo.of_eq (by kernel_rfl)
  · show WB c caseB (setL (setL (setL (setL (setL emp "sorts" (.ref so)) "inputs" (.ref inn)) "pulls" (.ref pl)) "cells" (.ref ce)) "links" (.ref li)) σ _
    refine phaseA F hd (C := C) (so := so) (inn := inn) (pl := pl) (ce := ce) (li := li) ⟨by walk_at "lk", by walk_at "lk", by walk_at "lk", by walk_at "lk", by walk_at "lk"⟩ fun A m1 σ1 ℓ1 S1 fo la lb => ?_
    refine phaseB F hd G ar fo S1 la lb fun m2 σ2 ℓ2 S2 la lb => ?_
    refine phaseC F hd G ar fo S2 la lb fun ga m3 σ3 ℓ3 S3 GG la lb lg => ?_
    refine phaseD F hd G ar S3 GG la lb lg fun m4 σ4 ℓ4 S4 GG la lb lg => ?_
    refine phaseE F hd G ar S4 GG la lb lg fun m5 σ5 ℓ5 S5 GG la lb lg => ?_
    refine phaseF F hd G S5 GG la lb lg fun m6 σ6 ℓ6 fi du S6 GG FI DU la lb lg lf lu => ?_
    refine phaseG F hd G S6 GG FI DU la lb lg lf lu fun m7 σ7 ℓ7 S7 GG DU la lb lg lu => ?_
    refine phaseH F hd G S7 GG DU la lb lg lu fun m8 σ8 ℓ8 be S8 GG DU TW la lb lg lu le => ?_
    refine phaseI F hd G ar fo S8 GG DU TW la lb lg lu le fun σ9 ind fl ks fw D9 => ?_
    refine phaseJ F hd G D9 lb.2.2.1 lu fun σ10 D10 => ?_
    refine phaseK F hd G D10 ⟨lb, lg, lu, le⟩ fun m11 σ11 wa σb D11 hwa e11 lc lw W => ?_
    refine phaseL F hd G D11 hwa e11 lc lw W fun m12 σ12 D12 lc lw DL => ?_
    refine phaseM F hd G D12 lc lw DL fun m13 σ13 lo D13 lc ll LO => ?_
    refine phaseN F hd G D13 lc ll LO fun m14 σ14 e14 => ?_
    exact h σ14 e14
end

-- part W28
noncomputable def fixedC : Cd where
  sorts := [("wire", 1), ("wor", 1), ("wire", 1), ("tri", 1), ("wire", 1), ("wire", 1)]
  inputs := [4]
  pulls := []
  cells := [("and", [2, 6]), ("flop", [6, 2, 0, 0])]
  links := [(0, 0, 3), (1, 0, 2), (2, 0, 3), (2, 0, 6), (3, 0, 8), (5, 0, 9)]
theorem fixed_good : fixedC.Good where
  few := by decide
  thin := by decide
  cells := by decide
  ins := by decide
  links := by decide
  inputs := by decide
  pulls := ⟨by decide, fun k hk => by cases hk⟩
section
variable {P : Pg} {d : Nat} {σ : Store} {Q : V → Store → Prop}
theorem fixed_leaf (F : Facts P.K) (h : ∀ σ', Ext σ σ' → Q (.bool true) σ') : LeafC P (d + 5) (.ref 318) [] σ (asV Q) := by
  refine fn_callC (exV := []) (ex := []) F.fixed.fn [] ?_ (fun h => VRs_nil.mpr rfl) (fun c hd => ?_) (by decide +kernel) (by kernel_rfl) (by kernel_rfl) (by kernel_rfl)
  · intro name kV doc pm an cdv ct us s hl _
    obtain rfl := len0 hl
    exact BindsTo.of_eq (by kernel_rfl)
  · show WB c _ emp σ _
    ((show WB _ _ _ _ _; refine b_cons ?_))
    refine x_assign ?_
    repeat (first | walk_at "e" | refine ⟨by simp, ?_⟩)
    intro so hso
    have e1 : Ext σ (upd σ so (.list (fixedC.sorts.map fun p => .tup [.str p.1, .int (p.2 : Nat)]))) := Ext.new hso
    have o1 : (upd σ so (.list (fixedC.sorts.map fun p => .tup [.str p.1, .int (p.2 : Nat)]))) so = some (.list (fixedC.sorts.map fun p => .tup [.str p.1, .int (p.2 : Nat)])) := upd_self _ _ _
    show WB c _ _ (upd σ so (.list (fixedC.sorts.map fun p => .tup [.str p.1, .int (p.2 : Nat)]))) _
    generalize upd σ so (.list (fixedC.sorts.map fun p => .tup [.str p.1, .int (p.2 : Nat)])) = σ1 at e1 o1 ⊢
    ((show WB _ _ _ _ _; refine b_cons ?_))
    refine x_assign ?_
    repeat (first | walk_at "e" | refine ⟨by simp, ?_⟩)
    intro ce hce
    have e2 : Ext σ1 (upd σ1 ce (.list (fixedC.cells.map fun p => .tup [.str p.1, .tup (p.2.map .int)]))) := Ext.new hce
    have o2 : (upd σ1 ce (.list (fixedC.cells.map fun p => .tup [.str p.1, .tup (p.2.map .int)]))) ce = some (.list (fixedC.cells.map fun p => .tup [.str p.1, .tup (p.2.map .int)])) := upd_self _ _ _
    show WB c _ _ (upd σ1 ce (.list (fixedC.cells.map fun p => .tup [.str p.1, .tup (p.2.map .int)]))) _
    generalize upd σ1 ce (.list (fixedC.cells.map fun p => .tup [.str p.1, .tup (p.2.map .int)])) = σ2 at e2 o2 ⊢
    ((show WB _ _ _ _ _; refine b_cons ?_))
    refine x_assign ?_
    repeat (first | walk_at "e" | refine ⟨by simp, ?_⟩)
    intro li hli
    have e3 : Ext σ2 (upd σ2 li (.list (fixedC.links.map fun p => .tup [.int (p.1 : Nat), .int (p.2.1 : Nat), .int p.2.2]))) := Ext.new hli
    have o3 : (upd σ2 li (.list (fixedC.links.map fun p => .tup [.int (p.1 : Nat), .int (p.2.1 : Nat), .int p.2.2]))) li = some (.list (fixedC.links.map fun p => .tup [.int (p.1 : Nat), .int (p.2.1 : Nat), .int p.2.2])) := upd_self _ _ _
    show WB c _ _ (upd σ2 li (.list (fixedC.links.map fun p => .tup [.int (p.1 : Nat), .int (p.2.1 : Nat), .int p.2.2]))) _
    generalize upd σ2 li (.list (fixedC.links.map fun p => .tup [.int (p.1 : Nat), .int (p.2.1 : Nat), .int p.2.2])) = σ3 at e3 o3 ⊢
    ((show WB _ _ _ _ _; refine b_cons ?_))
    refine x_return ?_
    refine e_call F.g_law_case F.case.keep ?_
    repeat (first | walk_at "e" | refine ⟨by simp, ?_⟩)
    intro inn hinn
    repeat (first | walk_at "e" | refine ⟨by simp, ?_⟩)
    intro pl hpl
    repeat (first | walk_at "e" | refine ⟨by simp, ?_⟩)
    rw [hd]
    have e4 := Ext.new (σ := σ3) (o := .list [.int 4]) hinn
    have e5 := Ext.new (o := .list []) hpl
    refine (case_leaf F fixed_good ⟨e5 _ _ (e4 _ _ (e3 _ _ (e2 _ _ o1))), e5 _ _ (upd_self _ _ _), upd_self _ _ _, e5 _ _ (e4 _ _ (e3 _ _ o2)), e5 _ _ (e4 _ _ o3)⟩ fun σ' e => ?_).leaf
    exact h σ' (e1.trans (e2.trans (e3.trans (e4.trans (e5.trans e)))))
end

-- part W29
-- the purse: a list of the coins and the count of what was drawn
noncomputable def Pz (σ : Store) (pu co : Addr) (b : Int) : Prop := ∃ (k : Int) (ns : List Int), σ pu = some (.list [.ref co, .int k]) ∧ -1 ≤ k ∧ k < b ∧ σ co = some (.list (ns.map .int)) ∧ ns.length ≤ 60
section
variable {P : Pg} {d : Nat} {σ : Store} {Q : V → Store → Prop}
theorem purse_leaf (F : Facts P.K) (hl : P.xs.length ≤ 1000)
    (h : ∀ pu co σ', Ext σ σ' → σ pu = none → Pz σ' pu co 0 → Q (.ref pu) σ') : LeafC P (d + 1) (.ref 292) [.ref P.sc] σ (asV Q) := by
  refine fn_callC (exV := []) (ex := []) F.purse.fn ["script"] ?_ (fun h => VRs_nil.mpr rfl) (fun c hd => ?_) (by decide +kernel) (by kernel_rfl) (by kernel_rfl) (by kernel_rfl)
  · intro name kV doc pm an cdv ct us s hl _
    obtain ⟨a, rfl⟩ := len1 hl
    exact BindsTo.of_eq (by kernel_rfl)
  · show WB c _ (setL emp "script" (.ref P.sc)) σ _
    ((show WB _ _ _ _ _; refine b_cons ?_))
    refine x_assign ?_
    (repeat walk_at "e")
    refine ⟨by simp, fun co hco => ?_⟩
    ((show WB _ _ _ _ _; refine b_cons ?_))
    refine x_for ?_
    refine e_upto ?_
    (refine e_callB bt_list callee_type (Facts.b_list (by assumption)) ?_)
    (repeat walk_at "e")
    refine lf_list_script (by omega) fun b hb => ?_
    refine ⟨b, _, rfl, upd_self _ _ _, by rw [List.length_map]; omega, fun b2 hb2 => ?_⟩
    have e0 : Ext (upd σ co (.list [])) (upd (upd (upd σ co (.list [])) b (.list (P.xs.map .int))) b2 (.list ((P.xs.map V.int).take 60))) := (Ext.new hb).trans (Ext.new hb2)
    have o0 : (upd (upd (upd σ co (.list [])) b (.list (P.xs.map .int))) b2 (.list ((P.xs.map V.int).take 60))) b2 = some (.list ((P.xs.map V.int).take 60)) := upd_self _ _ _
    have c0 := e0 _ _ (upd_self σ co (.list []))
    have eσ := (Ext.new hco).trans e0
    have hne : b2 ≠ co := fun w => by
      subst w
      have := (Ext.new (o := .list (P.xs.map .int)) hb) _ _ (upd_self σ b2 (.list []))
      rw [this] at hb2; cases hb2
    generalize upd (upd (upd σ co (.list [])) b (.list (P.xs.map .int))) b2 (.list ((P.xs.map V.int).take 60)) = σ1 at o0 c0 eσ ⊢
    clear e0
    let J : Nat → Loc → Store → Prop := fun i m' σ' => m' "coins" = some (.ref co) ∧ Ext σ σ' ∧ σ' b2 = some (.list ((P.xs.map V.int).take 60)) ∧ ∃ ns : List Int, σ' co = some (.list (ns.map .int)) ∧ ns.length ≤ 60
    refine ⟨_, _, iter_list o0, J, ?_, ?_, ?_, ?_⟩
    · exact ⟨by walk_at "lk", eσ, o0, [], c0, by simp⟩
    · rintro i m' σ' ⟨_, _, q, _⟩; exact q
    · rintro c' hd' i x m' σ' hx ⟨l1, e, q, ns, n1, n2⟩
      rw [← List.map_take, List.getElem?_map] at hx
      obtain ⟨k, hki, rfl⟩ := Option.map_eq_some_iff.mp hx
      refine a_name ?_
      ((show WB _ _ _ _ _; refine b_cons ?_))
      refine x_assign ?_
      refine WE.mono (Q := fun v σ1 => σ1 = σ' ∧ ∃ z : Int, v = .int z) ?_ fun v σ1 hv => ?_
      · refine e_ifexp ?_
        (repeat walk_at "e")
        (refine e_callB bt_int callee_type (Facts.b_int (by assumption)) ?_)
        (repeat walk_at "e")
        refine lf_int ?_
        (repeat walk_at "e")
        refine lf_gei (bIf (fun t => ?_) fun t => ?_)
        · (refine e_callB bt_int callee_type (Facts.b_int (by assumption)) ?_)
          (repeat walk_at "e")
          refine lf_int ?_
          exact ⟨rfl, _, rfl⟩
        · (repeat walk_at "e")
          (refine e_callB bt_int callee_type (Facts.b_int (by assumption)) ?_)
          (repeat walk_at "e")
          refine lf_int ?_
          refine lf_mul ?_ (.inl (by decide))
          refine lf_sub ?_
          exact ⟨rfl, _, rfl⟩
      · obtain ⟨rfl, money, rfl⟩ := hv
        ((show WB _ _ _ _ _; refine b_cons ?_))
        let J : Nat → Loc → Store → Prop := fun n m' σ' => ∃ (money : Int) (ns : List Int), n = 60 - ns.length ∧ m' "coins" = some (.ref co) ∧ m' "money" = some (.int money) ∧ Ext σ σ' ∧ σ' b2 = some (.list ((P.xs.map V.int).take 60)) ∧ σ' co = some (.list (ns.map .int)) ∧ ns.length ≤ 60
        refine x_while J (n := 60 - ns.length) ?_ ?_
        · exact ⟨money, ns, rfl, by walk_at "lk", by walk_at "lk", e, q, n1, n2⟩
        · rintro n m2 σ2 ⟨money, ns, rfl, l1, l2, e, q, n1, n2⟩
          (repeat walk_at "e")
          (refine e_callB bt_len callee_builtin (Facts.b_len (by assumption)) ?_)
          (repeat walk_at "e")
          refine lf_len_list n1 (by rw [List.length_map]; omega) ?_
          (repeat walk_at "e")
          refine lf_lti (bIf (fun t => ?_) fun t => ?_)
          · have t : ns.length < 60 := by rw [List.length_map] at t; have := of_decide_eq_true t; omega
            ((show WB _ _ _ _ _; refine b_cons ?_))
            refine x_expr ?_
            refine e_meth ?_
            (repeat walk_at "e")
            refine ⟨_, m_append n1, ?_⟩
            (repeat walk_at "e")
            (refine e_callB bt_int callee_type (Facts.b_int (by assumption)) ?_)
            (repeat walk_at "e")
            refine lf_int ?_
            (repeat walk_at "e")
            refine lf_mod ?_ (by decide)
            (repeat walk_at "e")
            refine lf_append n1 (by rw [List.length_map]; omega) ?_
            have e3 : Ext σ (upd σ2 co (.list (ns.map .int ++ [.int (money.fmod 120)]))) := fun x o hx => by
              have hne : x ≠ co := fun w => by subst w; rw [hco] at hx; cases hx
              rw [upd_ne _ _ hne]; exact e _ _ hx
            have q3 : (upd σ2 co (.list (ns.map .int ++ [.int (money.fmod 120)]))) b2 = some (.list ((P.xs.map V.int).take 60)) := by rw [upd_ne _ _ hne]; exact q
            have n3 : (upd σ2 co (.list (ns.map .int ++ [.int (money.fmod 120)]))) co = some (.list ((ns ++ [money.fmod 120]).map .int)) := by rw [upd_self, List.map_append]; rfl
            have n4 : (ns ++ [money.fmod 120]).length = ns.length + 1 := by simp
            generalize upd σ2 co (.list (ns.map .int ++ [.int (money.fmod 120)])) = σ3 at e3 q3 n3 ⊢
            ((show WB _ _ _ _ _; refine b_cons ?_))
            refine x_assign ?_
            (repeat walk_at "e")
            refine lf_fdiv ?_ (by decide) (by decide)
            ((show WB _ _ _ _ _; refine b_cons ?_))
            refine x_if ?_
            (repeat walk_at "e")
            refine lf_eqi (bIf (fun t2 => ?_) fun t2 => ?_)
            · ((show WB _ _ _ _ _; refine b_cons ?_))
              refine x_break ?_
              ((show WB _ [] _ _ _; refine b_nil ?_))
              exact ⟨by walk_at "lk", e3, q3, _, n3, by omega⟩
            · ((show WB _ [] _ _ _; refine b_nil ?_))
              ((show WB _ [] _ _ _; refine b_nil ?_))
              exact ⟨60 - (ns ++ [money.fmod 120]).length, by omega, _, _, rfl, by walk_at "lk", by walk_at "lk", e3, q3, n3, by omega⟩
          · ((show WB _ [] _ _ _; refine b_nil ?_))
            exact ⟨l1, e, q, ns, n1, n2⟩
    · rintro m' σ' ⟨l1, e, q, ns, n1, n2⟩
      ((show WB _ _ _ _ _; refine b_cons ?_))
      refine x_return ?_
      (repeat walk_at "e")
      refine lf_neg ?_
      (repeat walk_at "e")
      refine ⟨by simp, fun pu hpu => ?_⟩
      refine h pu co _ (e.trans (Ext.new hpu)) ?_ ⟨-1, ns, upd_self _ _ _, by omega, by omega, Ext.new hpu _ _ n1, n2⟩
      cases z : σ pu with
      | none => rfl
      | some o => have := e _ _ z; rw [hpu] at this; cases this
theorem coin_leaf (F : Facts P.K) {pu co : Addr} {b many : Int} (hp : Pz σ pu co b) (hb : b ≤ 1000000) (hm : 0 < many)
    (h : ∀ i σ', 0 ≤ i → i < many → But pu σ σ' → Pz σ' pu co (b + 1) → Q (.int i) σ') : LeafC P (d + 1) (.ref 299) [.ref pu, .int many] σ (asV Q) := by
  obtain ⟨k, ns, h1, h2, h3, h4, h5⟩ := hp
  have hmod : ∀ z : Int, 0 ≤ z.fmod many ∧ z.fmod many < many := fun z => ⟨Int.fmod_nonneg_of_pos z hm, Int.fmod_lt_of_pos z hm⟩
  have hpc : co ≠ pu := kinds_ne h4 h1 (by
    intro w
    have w := O.list.inj w
    cases ns with
    | nil => simp at w
    | cons a r => simp at w)
  refine fn_callC (exV := []) (ex := []) F.coin.fn ["purse", "many"] ?_ (fun h => VRs_nil.mpr rfl) (fun c hd => ?_) (by decide +kernel) (by kernel_rfl) (by kernel_rfl) (by kernel_rfl)
  · intro name kV doc pm an cdv ct us s hl _
    obtain ⟨a, b, rfl⟩ := len2 hl
    exact BindsTo.of_eq (by kernel_rfl)
  · show WB c _ (setL (setL emp "purse" (.ref pu)) "many" (.int many)) σ _
    ((show WB _ _ _ _ _; refine b_cons ?_))
    refine x_aug_sub ?_
    (repeat walk_at "e")
    refine lf_get_list h1 (by decide) (x := .int k) rfl (by decide) ?_
    (repeat walk_at "e")
    refine lf_iadd ?_
    refine lf_set_list h1 (by decide) (by show 1 < 2; decide) (by decide) ?_
    have B : But pu σ (upd σ pu (.list [.ref co, .int (k + 1)])) := fun x o hne hx => by rw [upd_ne _ _ hne]; exact hx
    have p1 : (upd σ pu (.list [.ref co, .int (k + 1)])) pu = some (.list [.ref co, .int (k + 1)]) := upd_self _ _ _
    have p2 := B _ _ hpc h4
    show WB c _ _ (upd σ pu (.list [.ref co, .int (k + 1)])) _
    generalize upd σ pu (.list [.ref co, .int (k + 1)]) = σ1 at B p1 p2 ⊢
    have PZ : Pz σ1 pu co (b + 1) := ⟨k + 1, ns, p1, by omega, by omega, p2, h5⟩
    ((show WB _ _ _ _ _; refine b_cons ?_))
    refine x_if ?_
    (repeat walk_at "e")
    refine lf_item_list p1 (by decide) (x := .int (k + 1)) rfl (by decide) ?_
    (refine e_callB bt_len callee_builtin (Facts.b_len (by assumption)) ?_)
    (repeat walk_at "e")
    refine lf_item_list p1 (by decide) (x := .ref co) rfl (by decide) ?_
    (repeat walk_at "e")
    refine lf_len_list p2 (by rw [List.length_map]; omega) ?_
    (repeat walk_at "e")
    refine lf_lti (bIf (fun t => ?_) fun t => ?_)
    · rw [List.length_map] at t
      have t := of_decide_eq_true t
      obtain ⟨y, hy⟩ : ∃ y, ns[(k + 1).toNat]? = some y := ⟨_, List.getElem?_eq_getElem (by omega)⟩
      ((show WB _ _ _ _ _; refine b_cons ?_))
      refine x_return ?_
      (repeat walk_at "e")
      (refine e_callB bt_int callee_type (Facts.b_int (by assumption)) ?_)
      (repeat walk_at "e")
      refine lf_item_list p1 (by decide) (x := .ref co) rfl (by decide) ?_
      (repeat walk_at "e")
      refine lf_item_list p1 (by decide) (x := .int (k + 1)) rfl (by decide) ?_
      refine lf_item_list p2 (by omega) (x := .int y) (by rw [List.getElem?_map, hy]; rfl) (by omega) ?_
      (repeat walk_at "e")
      refine lf_int ?_
      (repeat walk_at "e")
      refine lf_mod ?_ (by omega)
      exact h _ _ (hmod _).1 (hmod _).2 B PZ
    · ((show WB _ [] _ _ _; refine b_nil ?_))
      ((show WB _ _ _ _ _; refine b_cons ?_))
      refine x_return ?_
      (repeat walk_at "e")
      (refine e_callB bt_int callee_type (Facts.b_int (by assumption)) ?_)
      (repeat walk_at "e")
      refine lf_item_list p1 (by decide) (x := .int (k + 1)) rfl (by decide) ?_
      (repeat walk_at "e")
      refine lf_item_list p1 (by decide) (x := .int (k + 1)) rfl (by decide) ?_
      refine lf_mul ?_ (.inl (by omega))
      (repeat walk_at "e")
      refine lf_fdiv ?_ (by decide) (by decide)
      (repeat walk_at "e")
      refine lf_item_list p1 (by decide) (x := .int (k + 1)) rfl (by decide) ?_
      refine lf_add ?_
      (repeat walk_at "e")
      refine lf_int ?_
      (repeat walk_at "e")
      refine lf_mod ?_ (by omega)
      exact h _ _ (hmod _).1 (hmod _).2 B PZ
end

-- part W30
theorem Pz.ext {σ σ' : Store} {pu co : Addr} {b : Int} (h : Pz σ pu co b) (e : Ext σ σ') : Pz σ' pu co b := let ⟨k, ns, h1, h2, h3, h4, h5⟩ := h; ⟨k, ns, e _ _ h1, h2, h3, e _ _ h4, h5⟩
theorem Pz.mono {σ : Store} {pu co : Addr} {b b' : Int} (h : Pz σ pu co b) (e : b ≤ b') : Pz σ pu co b' := let ⟨k, ns, h1, h2, h3, h4, h5⟩ := h; ⟨k, ns, h1, h2, by omega, h4, h5⟩
-- a list without references is no purse
noncomputable def plainVs (vs : List V) : Prop := ∀ v ∈ vs, ∀ a, v ≠ .ref a
theorem Pz.ne {σ : Store} {pu co x : Addr} {b : Int} {vs : List V} (h : Pz σ pu co b) (hx : σ x = some (.list vs)) (hv : plainVs vs) : x ≠ pu := by
  obtain ⟨k, ns, h1, _⟩ := h
  refine kinds_ne hx h1 fun w => ?_
  have w := O.list.inj w
  subst w
  exact hv (.ref co) (.head _) co rfl
-- a list that is set is none of the purse's
theorem Pz.set {σ : Store} {pu co x : Addr} {b : Int} {o : O} (h : Pz σ pu co b) (h1 : x ≠ pu) (h2 : x ≠ co) : Pz (upd σ x o) pu co b := by
  obtain ⟨k, ns, q1, q2, q3, q4, q5⟩ := h
  exact ⟨k, ns, by rw [upd_ne _ _ (Ne.symm h1)]; exact q1, q2, q3, by rw [upd_ne _ _ (Ne.symm h2)]; exact q4, q5⟩
noncomputable def sortsV (S : List (PySem.Str × Nat)) : List V := S.map fun p => .tup [.str p.1, .int (p.2 : Nat)]
noncomputable def spotsV (S : List (List Int)) : List V := S.map keyT
theorem plain_sorts (S : List (PySem.Str × Nat)) : plainVs (sortsV S) := fun v hv a e => by
  obtain ⟨p, _, rfl⟩ := List.mem_map.mp hv; cases e
theorem plain_ints (S : List Int) : plainVs (S.map .int) := fun v hv a e => by
  obtain ⟨p, _, rfl⟩ := List.mem_map.mp hv; cases e
theorem plain_spots (S : List (List Int)) : plainVs (spotsV S) := fun v hv a e => by
  obtain ⟨p, _, rfl⟩ := List.mem_map.mp hv; cases e
noncomputable def sortNames : List PySem.Str := ["wire", "tri", "wand", "wor", "wire", "tri", "tri0", "reg"]
noncomputable def lawB : List Stmt := fnBody (top 20)
section
variable {P : Pg} {c : Cx P (fnScope (top 20))} {d : Nat} {Fin : Fl → Loc → Store → Prop}
theorem lawA (F : Facts P.K) (hd : c.d = d + 1) {m : Loc} {σ : Store} (hl : P.xs.length ≤ 1000) (l1 : m "script" = some (.ref P.sc))
    (h : ∀ m σ pu co so S, m "purse" = some (.ref pu) → m "sorts" = some (.ref so) → Pz σ pu co 20 → σ so = some (.list (sortsV S)) → S.length ≤ 4 → (∀ p ∈ S, p.2 ≤ 2) → WB c (lawB.drop 3) m σ Fin) : WB c lawB m σ Fin := by
  ((show WB _ _ _ _ _; refine b_cons ?_))
  refine x_assign ?_
  refine e_call F.g_law_purse F.purse.keep ?_
  (repeat walk_at "e")
  rw [hd]
  refine (purse_leaf F hl fun pu co σ1 e1 hpu PZ => ?_).leaf
  ((show WB _ _ _ _ _; refine b_cons ?_))
  refine x_assign ?_
  (repeat walk_at "e")
  refine ⟨by simp, fun so hso => ?_⟩
  have PZ := PZ.ext (Ext.new (o := .list []) hso)
  have hco : so ≠ co := fun w => by
    subst w
    obtain ⟨k, ns, q1, q2, q3, q4, q5⟩ := PZ
    obtain ⟨k', ns', z1, z2, z3, z4, z5⟩ : Pz σ1 pu so 0 := by assumption
    rw [z4] at hso; cases hso
  have o1 : (upd σ1 so (.list [])) so = some (.list (sortsV [])) := upd_self _ _ _
  generalize upd σ1 so (.list []) = σ2 at PZ o1 ⊢
  ((show WB _ _ _ _ _; refine b_cons ?_))
  refine x_for ?_
  (refine e_callB bt_range callee_type (Facts.b_range (by assumption)) ?_)
  (repeat walk_at "e")
  refine e_call F.g_law_coin F.coin.keep ?_
  (repeat walk_at "e")
  rw [hd]
  refine (coin_leaf F PZ (by decide) (by decide) fun n0 σ3 hn0 hn1 B3 PZ3 => ?_).leaf
  have o3 := B3 _ _ (PZ.ne o1 (plain_sorts _)) o1
  refine lf_add ?_
  (repeat walk_at "e")
  refine lf_range fun ra hra => ?_
  let J : Nat → Loc → Store → Prop := fun i m' σ' => i ≤ 4 ∧ m' "purse" = some (.ref pu) ∧ m' "sorts" = some (.ref so) ∧ Pz σ' pu co (1 + 2 * i) ∧ ∃ S, σ' so = some (.list (sortsV S)) ∧ S.length = i ∧ ∀ p ∈ S, p.2 ≤ 2
  refine ⟨_, _, iter_range (upd_self _ _ _) (by omega) (by omega), J, ?_, ?_, ?_, ?_⟩
  · exact ⟨by omega, by walk_at "lk", by walk_at "lk", (PZ3.ext (Ext.new hra)).mono (by omega), [], Ext.new hra _ _ o3, rfl, fun p hp => by cases hp⟩
  · rintro i m' σ' _; trivial
  · rintro c' hd' i x m' σ' hx ⟨hi, l1, l2, PZ, S, s1, s2, s3⟩
    obtain ⟨hlt, rfl⟩ := range_item hx
    refine a_name ?_
    ((show WB _ _ _ _ _; refine b_cons ?_))
    refine x_expr ?_
    refine e_meth ?_
    (repeat walk_at "e")
    refine ⟨_, m_append s1, ?_⟩
    repeat (first | walk_at "e" | refine ⟨by simp, ?_⟩)
    refine e_call F.g_law_coin F.coin.keep ?_
    (repeat walk_at "e")
    rw [hd']
    refine (coin_leaf F PZ (by omega) (by decide) fun k σ3 hk0 hk1 B3 PZ3 => ?_).leaf
    have s3' := B3 _ _ (PZ.ne s1 (plain_sorts _)) s1
    obtain ⟨nm, hnm⟩ : ∃ nm, sortNames[k.toNat]? = some nm := ⟨_, List.getElem?_eq_getElem (by show _ < 8; omega)⟩
    refine lf_item_tup (x := .str nm) hk0 (by show (sortNames.map V.str)[_]? = _; rw [List.getElem?_map, hnm]; rfl) (by omega) ?_
    repeat walk_at "e"
    refine e_call F.g_law_coin F.coin.keep ?_
    (repeat walk_at "e")
    rw [hd']
    refine (coin_leaf F PZ3 (by omega) (by decide) fun w σ4 hw0 hw1 B4 PZ4 => ?_).leaf
    have s4 := B4 _ _ (PZ3.ne s3' (plain_sorts _)) s3'
    refine lf_add ?_
    repeat (first | walk_at "e" | refine ⟨by simp, ?_⟩)
    have hlen : (sortsV S).length = i := by unfold sortsV; rw [List.length_map, s2]
    refine lf_append s4 (by omega) ?_
    ((show WB _ [] _ _ _; refine b_nil ?_))
    refine ⟨by omega, by walk_at "lk", by walk_at "lk", (PZ4.set (PZ4.ne s4 (plain_sorts _)) hco).mono (by omega), S ++ [(nm, (1 + w).toNat)], ?_, by simp [s2], fun p hp => ?_⟩
    · rw [upd_self]
      unfold sortsV
      rw [List.map_append]
      have : (1 : Int) + w = ((1 + w).toNat : Nat) := by omega
      rw [this]
      rfl
    · rcases List.mem_append.mp hp with q | q
      · exact s3 p q
      · simp at q; subst q; show (1 + w).toNat ≤ 2; omega
  · rintro m' σ' ⟨hi, l1, l2, PZ, S, s1, s2, s3⟩
    rw [List.length_map, List.length_range] at *
    exact h m' σ' pu co so S l1 l2 (PZ.mono (by omega)) s1 (by omega) s3
end

-- part W31
-- the spots of the first signals
noncomputable def spotsUp (C : Cd) : Nat → List (List Int)
  | 0 => []
  | i + 1 => spotsUp C i ++ (List.range (C.w i)).map fun b => [(i : Int), ((b : Nat) : Int)]
theorem spotsUp_len (C : Cd) : ∀ i, (spotsUp C i).length + 2 = C.off i
  | 0 => rfl
  | i + 1 => by
    have := spotsUp_len C i
    have e : C.off (i + 1) = C.off i + C.w i := rfl
    unfold spotsUp
    rw [List.length_append, List.length_map, List.length_range]
    omega
theorem spotsUp_mem {C : Cd} : ∀ {i : Nat} {k : List Int}, k ∈ spotsUp C i → ∃ r b : Nat, k = [(r : Int), (b : Int)] ∧ r < i ∧ b < C.w r
  | 0, k, h => by cases h
  | i + 1, k, h => by
    unfold spotsUp at h
    rcases List.mem_append.mp h with q | q
    · obtain ⟨r, b, h1, h2, h3⟩ := spotsUp_mem q
      exact ⟨r, b, h1, by omega, h3⟩
    · obtain ⟨b, hb, rfl⟩ := List.mem_map.mp q
      exact ⟨i, b, rfl, by omega, List.mem_range.mp hb⟩
noncomputable def cd0 (S : List (PySem.Str × Nat)) : Cd := ⟨S, [], [], [], []⟩
structure LS (m : Loc) (σ : Store) (pu co so : Addr) (S : List (PySem.Str × Nat)) (b : Int) : Prop where
  p : m "purse" = some (.ref pu)
  s : m "sorts" = some (.ref so)
  z : Pz σ pu co b
  o : σ so = some (.list (sortsV S))
  few : S.length ≤ 4
  thin : ∀ p ∈ S, p.2 ≤ 2
theorem range_len (n : Nat) : ((List.range ((n : Int).toNat)).map fun (k : Nat) => V.int (k : Int)).length = n := by simp
section
variable {P : Pg} {c : Cx P (fnScope (top 20))} {d : Nat} {Fin : Fl → Loc → Store → Prop}
theorem lawC (F : Facts P.K) (hd : c.d = d + 1) {m : Loc} {σ : Store} {pu co so : Addr} {S : List (PySem.Str × Nat)} (L : LS m σ pu co so S 20)
    (h : ∀ m σ (inn : Addr) (ins : List Int), LS m σ pu co so S 40 → m "inputs" = some (.ref inn) → σ inn = some (.list (ins.map .int)) → ins.length ≤ 4 → WB c (lawB.drop 4) m σ Fin) : WB c (lawB.drop 3) m σ Fin := by
  obtain ⟨l1, l2, PZ, o1, hf, ht⟩ := L
  have hlen : (sortsV S).length = S.length := by unfold sortsV; rw [List.length_map]
  ((show WB _ _ _ _ _; refine b_cons ?_))
  refine x_listcomp ?_
  (refine e_callB bt_range callee_type (Facts.b_range (by assumption)) ?_)
  refine es_cons ?_
  (refine e_callB bt_len callee_builtin (Facts.b_len (by assumption)) ?_)
  (repeat walk_at "e")
  refine lf_len_list o1 (by omega) ?_
  (repeat walk_at "e")
  refine lf_range fun ra hra => ?_
  rw [hlen]
  have PZ1 := PZ.ext (Ext.new (o := .range ((S.length : Nat) : Int)) hra)
  have o2 := Ext.new (o := .range ((S.length : Nat) : Int)) hra _ _ o1
  have r2 := upd_self σ ra (.range ((S.length : Nat) : Int))
  generalize upd σ ra (.range ((S.length : Nat) : Int)) = σ1 at PZ1 o2 r2 ⊢
  let J : Nat → List V → Store → Prop := fun i acc σ' => i ≤ S.length ∧ Pz σ' pu co (20 + i) ∧ σ' so = some (.list (sortsV S)) ∧ ∃ ins : List Int, acc = ins.map .int ∧ ins.length ≤ i
  refine ⟨_, _, iter_range r2 (by omega) (by omega), J, ?_, ?_, ?_, ?_⟩
  · exact ⟨by omega, PZ1.mono (by omega), o2, [], rfl, Nat.le_refl _⟩
  · rintro i acc σ' ⟨hi, z, o, ins, rfl, hli⟩
    exact ⟨trivial, by rw [List.length_map]; omega⟩
  · rintro i x acc σ' hx ⟨hi, z, o, ins, rfl, hli⟩ c' hd'
    obtain ⟨hlt, rfl⟩ := range_item hx
    show WT _ _ _ _ _
    (repeat walk_at "e")
    refine e_call F.g_law_coin F.coin.keep ?_
    (repeat walk_at "e")
    rw [hd', hd]
    refine (coin_leaf F z (by omega) (by decide) fun k σ3 hk0 hk1 B3 PZ3 => ?_).leaf
    have o3 := B3 _ _ (z.ne o (plain_sorts _)) o
    (repeat walk_at "e")
    refine lf_eqi (bIf (fun q => ?_) fun q => ?_)
    · intro c3 hd3
      (repeat walk_at "e")
      exact ⟨by omega, PZ3.mono (by omega), o3, ins ++ [(i : Int)], by simp, by simp; omega⟩
    · exact ⟨by omega, PZ3.mono (by omega), o3, ins, rfl, by omega⟩
  · rintro acc σ' ⟨hi, z, o, ins, rfl, hli⟩ inn hinn
    rw [range_len] at *
    exact h _ _ inn ins ⟨by walk_at "lk", by walk_at "lk", (z.ext (Ext.new hinn)).mono (by omega), Ext.new hinn _ _ o, hf, ht⟩ (by walk_at "lk") (upd_self _ _ _) (by omega)
theorem lawD (F : Facts P.K) (hd : c.d = d + 1) {m : Loc} {σ : Store} {pu co so inn : Addr} {S : List (PySem.Str × Nat)} {ins : List Int} (L : LS m σ pu co so S 40) (i1 : m "inputs" = some (.ref inn)) (i2 : σ inn = some (.list (ins.map .int)))
    (h : ∀ m σ sp, LS m σ pu co so S 40 → m "inputs" = some (.ref inn) → σ inn = some (.list (ins.map .int)) → m "spots" = some (.ref sp) → σ sp = some (.list (spotsV (spotsUp (cd0 S) S.length))) → WB c (lawB.drop 5) m σ Fin) : WB c (lawB.drop 4) m σ Fin := by
  obtain ⟨l1, l2, PZ, o1, hf, ht⟩ := L
  have hlen : (sortsV S).length = S.length := by unfold sortsV; rw [List.length_map]
  have hw : ∀ r, (cd0 S).w r ≤ 2 := fun r => by
    unfold Cd.w
    cases z : (cd0 S).sorts[r]? with
    | none => simp
    | some p => simp; exact ht p (List.mem_of_getElem? z)
  ((show WB _ _ _ _ _; refine b_cons ?_))
  refine x_listcomp2 ?_
  (refine e_callB bt_range callee_type (Facts.b_range (by assumption)) ?_)
  refine es_cons ?_
  (refine e_callB bt_len callee_builtin (Facts.b_len (by assumption)) ?_)
  (repeat walk_at "e")
  refine lf_len_list o1 (by omega) ?_
  (repeat walk_at "e")
  refine lf_range fun ra hra => ?_
  rw [hlen]
  have e1 := Ext.new (o := .range ((S.length : Nat) : Int)) hra
  have r2 := upd_self σ ra (.range ((S.length : Nat) : Int))
  generalize upd σ ra (.range ((S.length : Nat) : Int)) = σ1 at e1 r2 ⊢
  have hup : ∀ i, i ≤ S.length → (spotsUp (cd0 S) i).length ≤ 2 * i := fun i hi => by
    have h1 := spotsUp_len (cd0 S) i
    have h2 : ∀ r, (cd0 S).off r ≤ 2 + 2 * r := fun r => by
      induction r with
      | zero => exact Nat.le_refl _
      | succ r ih => have := hw r; show (cd0 S).off r + (cd0 S).w r ≤ _; omega
    have := h2 i
    omega
  let J : Nat → O → Store → Prop := fun i acc σ' => i ≤ S.length ∧ Ext σ σ' ∧ acc = .list (spotsV (spotsUp (cd0 S) i))
  refine ⟨_, _, iter_range r2 (by omega) (by omega), J, ?_, ?_, ?_, ?_⟩
  · exact ⟨by omega, e1, rfl⟩
  · rintro i acc σ' _; trivial
  · rintro i x acc σ' hx ⟨hi, e, rfl⟩ c' hd'
    obtain ⟨hlt, rfl⟩ := range_item hx
    have hlt : i < S.length := by omega
    obtain ⟨p, hp⟩ : ∃ p, S[i]? = some p := ⟨_, List.getElem?_eq_getElem hlt⟩
    have hwi : (cd0 S).w i = p.2 := by unfold Cd.w cd0; dsimp only; rw [hp]; rfl
    (refine e_callB bt_range callee_type (Facts.b_range (by assumption)) ?_)
    (repeat walk_at "e")
    refine lf_item_list (e _ _ o1) (by omega) (x := .tup [.str p.1, .int (p.2 : Nat)]) (by
      show (S.map _)[_]? = _
      rw [List.getElem?_map, show ((i : Nat) : Int).toNat = i from by omega, hp]; rfl) (by omega) ?_
    (repeat walk_at "e")
    refine lf_item_tup (x := .int (p.2 : Nat)) (by decide) rfl (by decide) ?_
    (repeat walk_at "e")
    refine lf_range fun rb hrb => ?_
    have e2 := e.trans (Ext.new (o := .range ((p.2 : Nat) : Int)) hrb)
    have hp2 := ht p (List.mem_of_getElem? hp)
    let J : Nat → List V → Store → Prop := fun j acc σ2 => j ≤ p.2 ∧ Ext σ σ2 ∧ acc = spotsV (spotsUp (cd0 S) i ++ (List.range j).map fun b => [(i : Int), ((b : Nat) : Int)])
    refine ⟨_, _, iter_range (upd_self _ _ _) (by omega) (by omega), J, ⟨_, rfl, ?_⟩, ?_, ?_, ?_⟩
    · exact ⟨by omega, e2, by simp⟩
    · rintro j acc σ2 ⟨hj, e, rfl⟩
      refine ⟨trivial, ?_⟩
      unfold spotsV
      have := hup i (by omega)
      rw [List.length_map, List.length_append, List.length_map, List.length_range]
      omega
    · rintro j w acc σ2 hw ⟨hj, e, rfl⟩ c3 hd3
      obtain ⟨hjt, rfl⟩ := range_item hw
      repeat (first | walk_at "e" | refine ⟨by simp, ?_⟩)
      refine ⟨by omega, e, ?_⟩
      rw [List.range_succ, List.map_append, ← List.append_assoc]
      show _ = spotsV (_ ++ [[(i : Int), ((j : Nat) : Int)]])
      unfold spotsV
      rw [List.map_append (l₁ := spotsUp (cd0 S) i ++ _)]
      rfl
    · rintro acc σ2 ⟨hj, e, rfl⟩
      rw [range_len]
      refine ⟨by omega, e, ?_⟩
      rw [← hwi]; rfl
  · rintro acc σ' ⟨hi, e, rfl⟩ sp hsp
    rw [range_len] at *
    have e2 := e.trans (Ext.new (o := .list (spotsV (spotsUp (cd0 S) S.length))) hsp)
    exact h _ _ sp ⟨by walk_at "lk", by walk_at "lk", PZ.ext e2, e2 _ _ o1, hf, ht⟩ (by walk_at "lk") (e2 _ _ i2) (by walk_at "lk") (upd_self _ _ _)
end

-- part W32
structure La where
  pu : Addr
  co : Addr
  so : Addr
  inn : Addr
  sp : Addr
  pl : Addr
  S : List (PySem.Str × Nat)
  ins : List Int
  ps : List (List Int)
structure BS (A : La) (σ : Store) (b : Int) : Prop where
  z : Pz σ A.pu A.co b
  so : σ A.so = some (.list (sortsV A.S))
  inn : σ A.inn = some (.list (A.ins.map .int))
  sp : σ A.sp = some (.list (spotsV (spotsUp (cd0 A.S) A.S.length)))
  pl : σ A.pl = some (.list (spotsV A.ps))
structure LL (A : La) (m : Loc) : Prop where
  p : m "purse" = some (.ref A.pu)
  s : m "sorts" = some (.ref A.so)
  i : m "inputs" = some (.ref A.inn)
  sp : m "spots" = some (.ref A.sp)
  pl : m "pulls" = some (.ref A.pl)
  c : m "count" = some (.int ((cd0 A.S).top : Nat))
structure LG (A : La) : Prop where
  few : A.S.length ≤ 4
  thin : ∀ p ∈ A.S, p.2 ≤ 2
  ins : A.ins.length ≤ 4
  ps : A.ps.length ≤ 8
  pp : ∀ k ∈ A.ps, ∃ r b : Int, k = [r, b]
noncomputable def Out (A : La) (x : Addr) : Prop := x ≠ A.pu ∧ x ≠ A.co ∧ x ≠ A.so ∧ x ≠ A.inn ∧ x ≠ A.sp ∧ x ≠ A.pl
section
variable {A : La} {σ σ' : Store} {b b' : Int} {x : Addr} {o : O}
theorem BS.ext (h : BS A σ b) (e : Ext σ σ') : BS A σ' b := ⟨h.z.ext e, e _ _ h.so, e _ _ h.inn, e _ _ h.sp, e _ _ h.pl⟩
theorem BS.mono (h : BS A σ b) (e : b ≤ b') : BS A σ b' := ⟨h.z.mono e, h.so, h.inn, h.sp, h.pl⟩
theorem BS.but (h : BS A σ b) (e : But A.pu σ σ') (z : Pz σ' A.pu A.co b') : BS A σ' b' :=
  ⟨z, e _ _ (h.z.ne h.so (plain_sorts _)) h.so, e _ _ (h.z.ne h.inn (plain_ints _)) h.inn, e _ _ (h.z.ne h.sp (plain_spots _)) h.sp, e _ _ (h.z.ne h.pl (plain_spots _)) h.pl⟩
theorem some_ne {y : Addr} (h : σ x = none) (k : σ y = some o) : x ≠ y := fun w => by subst w; rw [h] at k; cases k
theorem BS.new (h : BS A σ b) (e : σ x = none) : Out A x := by
  obtain ⟨k, ns, q1, q2, q3, q4, q5⟩ := h.z
  exact ⟨some_ne e q1, some_ne e q4, some_ne e h.so, some_ne e h.inn, some_ne e h.sp, some_ne e h.pl⟩
theorem BS.set (h : BS A σ b) (w : Out A x) : BS A (upd σ x o) b := by
  obtain ⟨w1, w2, w3, w4, w5, w6⟩ := w
  exact ⟨h.z.set w1 w2, by rw [upd_ne _ _ (Ne.symm w3)]; exact h.so, by rw [upd_ne _ _ (Ne.symm w4)]; exact h.inn, by rw [upd_ne _ _ (Ne.symm w5)]; exact h.sp, by rw [upd_ne _ _ (Ne.symm w6)]; exact h.pl⟩
end
theorem cd0_w {S : List (PySem.Str × Nat)} (ht : ∀ p ∈ S, p.2 ≤ 2) (r : Nat) : (cd0 S).w r ≤ 2 := by
  unfold Cd.w
  cases z : (cd0 S).sorts[r]? with
  | none => simp
  | some p => simp; exact ht p (List.mem_of_getElem? z)
theorem cd0_off {S : List (PySem.Str × Nat)} (ht : ∀ p ∈ S, p.2 ≤ 2) (r : Nat) : (cd0 S).off r ≤ 2 + 2 * r := by
  induction r with
  | zero => exact Nat.le_refl _
  | succ r ih => have := cd0_w ht r; show (cd0 S).off r + (cd0 S).w r ≤ _; omega
theorem LG.top {A : La} (G : LG A) : (cd0 A.S).top ≤ 10 ∧ (spotsUp (cd0 A.S) A.S.length).length + 2 = (cd0 A.S).top := by
  have h1 := cd0_off G.thin A.S.length
  have h2 := G.few
  have h3 := spotsUp_len (cd0 A.S) A.S.length
  have h4 : (cd0 A.S).top = (cd0 A.S).off A.S.length := rfl
  omega
section
variable {P : Pg} {c : Cx P (fnScope (top 20))} {d : Nat} {Fin : Fl → Loc → Store → Prop}
theorem lawE (F : Facts P.K) (hd : c.d = d + 1) {m : Loc} {σ : Store} {pu co so inn sp : Addr} {S : List (PySem.Str × Nat)} {ins : List Int} (L : LS m σ pu co so S 40) (hil : ins.length ≤ 4) (i1 : m "inputs" = some (.ref inn)) (i2 : σ inn = some (.list (ins.map .int))) (p1 : m "spots" = some (.ref sp)) (p2 : σ sp = some (.list (spotsV (spotsUp (cd0 S) S.length))))
    (h : ∀ A m σ, LL A m → BS A σ 60 → LG A → WB c (lawB.drop 7) m σ Fin) : WB c (lawB.drop 5) m σ Fin := by
  obtain ⟨l1, l2, PZ, o1, hf, ht⟩ := L
  have hlen : (spotsV (spotsUp (cd0 S) S.length)).length + 2 = (cd0 S).top := by unfold spotsV; rw [List.length_map]; exact spotsUp_len (cd0 S) S.length
  have htop : (cd0 S).top ≤ 10 := by
    have h1 := cd0_off ht S.length
    have h4 : (cd0 S).top = (cd0 S).off S.length := rfl
    omega
  have hmem : ∀ k ∈ spotsUp (cd0 S) S.length, ∃ r b : Int, k = [r, b] := fun k hk => by
    obtain ⟨r, b, h1, _⟩ := spotsUp_mem hk
    exact ⟨r, b, h1⟩
  generalize hsu : spotsUp (cd0 S) S.length = su at *
  ((show WB _ _ _ _ _; refine b_cons ?_))
  refine x_listcomp ?_
  (repeat walk_at "e")
  let J : Nat → List V → Store → Prop := fun i acc σ' => i ≤ su.length ∧ Pz σ' pu co (40 + i) ∧ σ' so = some (.list (sortsV S)) ∧ σ' inn = some (.list (ins.map .int)) ∧ σ' sp = some (.list (spotsV su)) ∧ ∃ ps, acc = spotsV ps ∧ ps.length ≤ i ∧ ∀ k ∈ ps, k ∈ su
  refine ⟨_, _, iter_list p2, J, ?_, ?_, ?_, ?_⟩
  · exact ⟨Nat.zero_le _, PZ.mono (by omega), o1, i2, p2, [], rfl, Nat.le_refl _, fun k hk => by cases hk⟩
  · rintro i acc σ' ⟨hi, z, o, i2, p2, ps, rfl, hli, hps⟩
    unfold spotsV at hlen
    rw [List.length_map] at hlen
    exact ⟨p2, by unfold spotsV; rw [List.length_map]; omega⟩
  · rintro i x acc σ' hx ⟨hi, z, o, i2, p2, ps, rfl, hli, hps⟩ c' hd'
    unfold spotsV at hx
    rw [List.getElem?_map] at hx
    obtain ⟨k, hk, rfl⟩ := Option.map_eq_some_iff.mp hx
    have hlt := (List.getElem?_eq_some_iff.mp hk).1
    unfold spotsV at hlen
    rw [List.length_map] at hlen
    show WT _ _ _ _ _
    (repeat walk_at "e")
    refine e_call F.g_law_coin F.coin.keep ?_
    (repeat walk_at "e")
    rw [hd', hd]
    refine (coin_leaf F z (by omega) (by decide) fun n σ3 hk0 hk1 B3 PZ3 => ?_).leaf
    have o3 := B3 _ _ (z.ne o (plain_sorts _)) o
    have i3 := B3 _ _ (z.ne i2 (plain_ints _)) i2
    have p3 := B3 _ _ (z.ne p2 (plain_spots _)) p2
    (repeat walk_at "e")
    refine lf_eqi (bIf (fun q => ?_) fun q => ?_)
    · intro c3 hd3
      (repeat walk_at "e")
      refine ⟨hlt, PZ3.mono (by omega), o3, i3, p3, ps ++ [k], by unfold spotsV; rw [List.map_append]; rfl, by simp; omega, fun y hy => ?_⟩
      rcases List.mem_append.mp hy with q | q
      · exact hps y q
      · simp at q; subst q; exact List.mem_of_getElem? hk
    · exact ⟨hlt, PZ3.mono (by omega), o3, i3, p3, ps, rfl, by omega, hps⟩
  · rintro acc σ' ⟨hi, z, o, i2, p2, ps, rfl, hli, hps⟩ pl hpl
    have e2 := Ext.new (σ := σ') (o := .list (spotsV ps)) hpl
    have q2 := upd_self σ' pl (.list (spotsV ps))
    have z2 := z.ext e2
    have o2 := e2 _ _ o
    have i2 := e2 _ _ i2
    have p2 := e2 _ _ p2
    generalize upd σ' pl (.list (spotsV ps)) = σ2 at *
    ((show WB _ _ _ _ _; refine b_cons ?_))
    refine x_assign ?_
    (repeat walk_at "e")
    (refine e_callB bt_len callee_builtin (Facts.b_len (by assumption)) ?_)
    (repeat walk_at "e")
    refine lf_len_list p2 (by omega) ?_
    refine lf_add ?_
    have hct : (2 : Int) + ((spotsV su).length : Nat) = (((cd0 S).top : Nat) : Int) := by omega
    rw [hct]
    refine h ⟨pu, co, so, inn, sp, pl, S, ins, ps⟩ _ _ ⟨by walk_at "lk", by walk_at "lk", by walk_at "lk", by walk_at "lk", by walk_at "lk", by walk_at "lk"⟩ ⟨z2.mono (by omega), o2, i2, by rw [hsu]; exact p2, q2⟩ ⟨hf, ht, hil, by show ps.length ≤ 8; omega, fun k hk => hmem k (hps k hk)⟩
end

-- part W33
noncomputable def kindNames : List PySem.Str := ["and", "xor", "or", "not", "mux", "flop", "latch"]
noncomputable def sizeL : List (PySem.Str × V) := [("not", .int 1), ("mux", .int 3), ("flop", .int 4), ("latch", .int 4)]
theorem size_of : ∀ {i : Nat} {nm : PySem.Str}, kindNames[i]? = some nm → ∃ s : Nat, (dget sizeL nm).getD (.int 2) = .int (s : Nat) ∧ s ≤ 4
  | 0, _, rfl => ⟨2, rfl, by decide⟩
  | 1, _, rfl => ⟨2, rfl, by decide⟩
  | 2, _, rfl => ⟨2, rfl, by decide⟩
  | 3, _, rfl => ⟨1, rfl, by decide⟩
  | 4, _, rfl => ⟨3, rfl, by decide⟩
  | 5, _, rfl => ⟨4, rfl, by decide⟩
  | 6, _, rfl => ⟨4, rfl, by decide⟩
  | n + 7, _, h => by simp [kindNames] at h
noncomputable def cellsV (cs : List (PySem.Str × List Int)) : List V := cs.map fun p => .tup [.str p.1, .tup (p.2.map .int)]
section
variable {P : Pg} {c : Cx P (fnScope (top 20))} {d : Nat} {Fin : Fl → Loc → Store → Prop}
theorem lawF (F : Facts P.K) (hd : c.d = d + 1) {A : La} {m : Loc} {σ : Store} (L : LL A m) (B : BS A σ 60) (G : LG A)
    (h : ∀ ce cs m σ, LL A m → BS A σ 200 → m "cells" = some (.ref ce) → Out A ce → σ ce = some (.list (cellsV cs)) → cs.length ≤ 4 → (∀ p ∈ cs, p.2.length ≤ 4 ∧ ∀ y ∈ p.2, 0 ≤ y ∧ y < ((cd0 A.S).top + cs.length : Nat)) → WB c (lawB.drop 9) m σ Fin) : WB c (lawB.drop 7) m σ Fin := by
  obtain ⟨l1, l2, l3, l4, l5, l6⟩ := L
  have htop := G.top
  ((show WB _ _ _ _ _; refine b_cons ?_))
  refine x_assign ?_
  (repeat walk_at "e")
  refine ⟨by simp, fun ce hce => ?_⟩
  have out := B.new hce
  have B1 := B.ext (Ext.new (o := .list []) hce)
  have c1 : (upd σ ce (.list [])) ce = some (.list (cellsV [])) := upd_self _ _ _
  generalize upd σ ce (.list []) = σ1 at B1 c1 ⊢
  ((show WB _ _ _ _ _; refine b_cons ?_))
  refine x_for ?_
  (refine e_callB bt_range callee_type (Facts.b_range (by assumption)) ?_)
  refine es_cons ?_
  refine e_call F.g_law_coin F.coin.keep ?_
  (repeat walk_at "e")
  rw [hd]
  refine (coin_leaf F B1.z (by decide) (by decide) fun n0 σ3 hn0 hn1 B3 PZ3 => ?_).leaf
  have c3 := B3 _ _ out.1 c1
  have B3 := B1.but B3 PZ3
  (repeat walk_at "e")
  refine lf_range fun ra hra => ?_
  have c4 := Ext.new (o := .range n0) hra _ _ c3
  have B4 := B3.ext (Ext.new (o := .range n0) hra)
  have r4 := upd_self σ3 ra (.range n0)
  generalize upd σ3 ra (.range n0) = σ4 at c4 B4 r4 ⊢
  let J : Nat → Loc → Store → Prop := fun i m' σ' => i ≤ 4 ∧ LL A m' ∧ BS A σ' (61 + 6 * i) ∧ m' "cells" = some (.ref ce) ∧ ∃ cs, σ' ce = some (.list (cellsV cs)) ∧ cs.length = i ∧ ∀ p ∈ cs, p.2.length ≤ 4 ∧ ∀ y ∈ p.2, 0 ≤ y ∧ y < ((cd0 A.S).top + i : Nat)
  refine ⟨_, _, iter_range r4 (by omega) (by omega), J, ?_, ?_, ?_, ?_⟩
  · exact ⟨by omega, ⟨by walk_at "lk", by walk_at "lk", by walk_at "lk", by walk_at "lk", by walk_at "lk", by walk_at "lk"⟩, B4.mono (by omega), by walk_at "lk", [], c4, rfl, fun p hp => by cases hp⟩
  · rintro i m' σ' _; trivial
  · clear B B1 B3 B4 c1 c3 c4 r4 PZ3 hce hra
    rintro c' hd' i x m' σ' hx ⟨hi, ⟨l1, l2, l3, l4, l5, l6⟩, B, l7, cs, s1, s2, s3⟩
    obtain ⟨hlt, rfl⟩ := range_item hx
    refine a_name ?_
    ((show WB _ _ _ _ _; refine b_cons ?_))
    refine x_assign ?_
    repeat (first | walk_at "e" | refine ⟨by simp, ?_⟩)
    refine e_call F.g_law_coin F.coin.keep ?_
    (repeat walk_at "e")
    rw [hd']
    refine (coin_leaf F B.z (by omega) (by decide) fun k σ3 hk0 hk1 B3 PZ3 => ?_).leaf
    have s4 := B3 _ _ out.1 s1
    have B4 := B.but B3 PZ3
    obtain ⟨nm, hnm⟩ : ∃ nm, kindNames[k.toNat]? = some nm := ⟨_, List.getElem?_eq_getElem (by show _ < 7; omega)⟩
    refine lf_item_tup (x := .str nm) hk0 (by show (kindNames.map V.str)[_]? = _; rw [List.getElem?_map, hnm]; rfl) (by omega) ?_
    obtain ⟨sz, hsz, hsz4⟩ := size_of hnm
    ((show WB _ _ _ _ _; refine b_cons ?_))
    refine x_assign ?_
    refine e_meth ?_
    refine e_dictS4 (by decide +kernel) fun dd hdd ep => ?_
    have e5 := Ext.new (o := .dict (mapS [("not", .int 1), ("mux", .int 3), ("flop", .int 4), ("latch", .int 4)]) ep) hdd
    have d5 := upd_self σ3 dd (.dict (mapS [("not", .int 1), ("mux", .int 3), ("flop", .int 4), ("latch", .int 4)]) ep)
    have s5 := e5 _ _ s4
    have B5 := B4.ext e5
    generalize upd σ3 dd (.dict (mapS [("not", .int 1), ("mux", .int 3), ("flop", .int 4), ("latch", .int 4)]) ep) = σ5 at d5 s5 B5 ⊢
    refine ⟨_, m_get d5, ?_⟩
    (repeat walk_at "e")
    refine lf_getS d5 ?_
    have hsz : (dget ([("not", .int 1), ("mux", .int 3), ("flop", .int 4), ("latch", .int 4)] : List (PySem.Str × V)) nm).getD (.int 2) = .int (sz : Nat) := hsz
    rw [hsz]
    ((show WB _ _ _ _ _; refine b_cons ?_))
    refine x_expr ?_
    refine e_meth ?_
    (repeat walk_at "e")
    refine ⟨_, m_append s5, ?_⟩
    repeat (first | walk_at "e" | refine ⟨by simp, ?_⟩)
    (refine e_callB bt_tuple callee_type (Facts.b_tuple (by assumption)) ?_)
    refine es_cons ?_
    refine e_listcomp ?_
    (refine e_callB bt_range callee_type (Facts.b_range (by assumption)) ?_)
    (repeat walk_at "e")
    refine lf_range fun rb hrb => ?_
    have e6 := Ext.new (o := .range ((sz : Nat) : Int)) hrb
    have s6 := e6 _ _ s5
    have B6 := B5.ext e6
    have r6 := upd_self σ5 rb (.range ((sz : Nat) : Int))
    generalize upd σ5 rb (.range ((sz : Nat) : Int)) = σ6 at s6 B6 r6 ⊢
    let J : Nat → List V → Store → Prop := fun j acc σ' => j ≤ sz ∧ BS A σ' (62 + 6 * i + j) ∧ σ' ce = some (.list (cellsV cs)) ∧ ∃ ys : List Int, acc = ys.map .int ∧ ys.length = j ∧ ∀ y ∈ ys, 0 ≤ y ∧ y < ((cd0 A.S).top + i : Nat)
    refine ⟨_, _, iter_range r6 (by omega) (by omega), J, ?_, ?_, ?_, ?_⟩
    · exact ⟨by omega, B6.mono (by omega), s6, [], rfl, rfl, fun y hy => by cases hy⟩
    · rintro j acc σ' ⟨hj, _, _, ys, rfl, hys, _⟩
      exact ⟨trivial, by rw [List.length_map]; omega⟩
    · rintro j w acc σ7 hw ⟨hj, B7, s7, ys, rfl, hys, hyb⟩ c2 hd2
      obtain ⟨hjt, rfl⟩ := range_item hw
      intro c3 hd3
      refine e_call F.g_law_coin F.coin.keep ?_
      (repeat walk_at "e")
      refine lf_add ?_
      (repeat walk_at "e")
      rw [hd3, hd']
      refine (coin_leaf F B7.z (by omega) (by omega) fun y σ8 hy0 hy1 B8 PZ8 => ?_).leaf
      have s8 := B8 _ _ out.1 s7
      have B8 := B7.but B8 PZ8
      refine ⟨by omega, B8.mono (by omega), s8, ys ++ [y], by simp, by simp [hys], fun z hz => ?_⟩
      rcases List.mem_append.mp hz with q | q
      · exact hyb z q
      · simp at q; subst q; omega
    · rintro acc σ7 ⟨hj, B7, s7, ys, rfl, hys, hyb⟩ yl hyl
      rw [range_len] at *
      have e8 := Ext.new (o := .list (ys.map .int)) hyl
      have s8 := e8 _ _ s7
      have B8 := B7.ext e8
      have y8 := upd_self σ7 yl (.list (ys.map .int))
      generalize upd σ7 yl (.list (ys.map .int)) = σ8 at s8 B8 y8 ⊢
      (repeat walk_at "e")
      refine lf_tuple_list y8 (by rw [List.length_map]; omega) ?_
      repeat (first | walk_at "e" | refine ⟨by simp, ?_⟩)
      have hlen : (cellsV cs).length = i := by unfold cellsV; rw [List.length_map, s2]
      refine lf_append s8 (by omega) ?_
      ((show WB _ [] _ _ _; refine b_nil ?_))
      refine ⟨by omega, ⟨by walk_at "lk", by walk_at "lk", by walk_at "lk", by walk_at "lk", by walk_at "lk", by walk_at "lk"⟩, (B8.set out).mono (by omega), by walk_at "lk", cs ++ [(nm, ys)], ?_, by simp [s2], fun p hp => ?_⟩
      · rw [upd_self]; unfold cellsV; rw [List.map_append]; rfl
      · rcases List.mem_append.mp hp with q | q
        · obtain ⟨q1, q2⟩ := s3 p q
          exact ⟨q1, fun y hy => by have := q2 y hy; omega⟩
        · simp at q; subst q
          exact ⟨by show ys.length ≤ 4; omega, fun y hy => by have := hyb y hy; omega⟩
  · rintro m' σ' ⟨hi, L, B, l7, cs, s1, s2, s3⟩
    exact h ce cs m' σ' L (B.mono (by omega)) l7 out s1 (by omega) (by rw [s2]; exact s3)
end

-- part W34
noncomputable def linksV (ls : List (Nat × Nat × Int)) : List V := ls.map fun p => .tup [.int (p.1 : Nat), .int (p.2.1 : Nat), .int p.2.2]
theorem off_cd0 {C : Cd} {S : List (PySem.Str × Nat)} (h : C.sorts = S) : ∀ r, C.w r = (cd0 S).w r ∧ C.off r = (cd0 S).off r
  | 0 => ⟨by unfold Cd.w cd0; rw [h], rfl⟩
  | r + 1 => by
    have ih := off_cd0 h r
    refine ⟨by unfold Cd.w cd0; rw [h], ?_⟩
    show C.off r + C.w r = (cd0 S).off r + (cd0 S).w r
    rw [ih.1, ih.2]
structure Lk (A : La) (cs : List (PySem.Str × List Int)) (ls : List (Nat × Nat × Int)) : Prop where
  ok : ∀ p ∈ ls, p.1 < A.S.length ∧ p.2.1 < (cd0 A.S).w p.1 ∧ 0 ≤ p.2.2 ∧ p.2.2 < ((cd0 A.S).top + cs.length : Nat)
section
variable {P : Pg} {c : Cx P (fnScope (top 20))} {d : Nat} {Fin : Fl → Loc → Store → Prop}
theorem lawG (F : Facts P.K) (hd : c.d = d + 1) {A : La} {m : Loc} {σ : Store} (L : LL A m) (B : BS A σ 200) (G : LG A) {ce : Addr} {cs : List (PySem.Str × List Int)} (m1 : m "cells" = some (.ref ce)) (out : Out A ce) (c1 : σ ce = some (.list (cellsV cs))) (hcs : cs.length ≤ 4)
    (h : ∀ li ls m σ, LL A m → BS A σ 300 → m "cells" = some (.ref ce) → σ ce = some (.list (cellsV cs)) → m "links" = some (.ref li) → σ li = some (.list (linksV ls)) → ls.length ≤ 16 → Lk A cs ls → WB c (lawB.drop 11) m σ Fin) : WB c (lawB.drop 9) m σ Fin := by
  obtain ⟨l1, l2, l3, l4, l5, l6⟩ := L
  have htop := G.top
  have hcl : (cellsV cs).length = cs.length := by unfold cellsV; rw [List.length_map]
  have hmem : ∀ {k : List Int}, k ∈ spotsUp (cd0 A.S) A.S.length → ∃ r b : Nat, k = [(r : Int), (b : Int)] ∧ r < A.S.length ∧ b < (cd0 A.S).w r := fun hk => spotsUp_mem hk
  have hsl : (spotsV (spotsUp (cd0 A.S) A.S.length)).length = (spotsUp (cd0 A.S) A.S.length).length := by unfold spotsV; rw [List.length_map]
  ((show WB _ _ _ _ _; refine b_cons ?_))
  refine x_assign ?_
  (repeat walk_at "e")
  refine ⟨by simp, fun li hli => ?_⟩
  have out2 := B.new hli
  have hcl2 : ce ≠ li := Ne.symm (some_ne hli c1)
  have e1 := Ext.new (o := .list []) hli
  have B1 := B.ext e1
  have c1 := e1 _ _ c1
  have k1 : (upd σ li (.list [])) li = some (.list (linksV [])) := upd_self _ _ _
  generalize upd σ li (.list []) = σ1 at B1 c1 k1 ⊢
  clear e1 B hli
  ((show WB _ _ _ _ _; refine b_cons ?_))
  refine x_for ?_
  (repeat walk_at "e")
  let J : Nat → Loc → Store → Prop := fun i m' σ' => i ≤ (spotsUp (cd0 A.S) A.S.length).length ∧ LL A m' ∧ BS A σ' (200 + 4 * i) ∧ m' "cells" = some (.ref ce) ∧ σ' ce = some (.list (cellsV cs)) ∧ m' "links" = some (.ref li) ∧ ∃ ls, σ' li = some (.list (linksV ls)) ∧ ls.length ≤ 2 * i ∧ Lk A cs ls
  refine ⟨_, _, iter_list B1.sp, J, ?_, ?_, ?_, ?_⟩
  · exact ⟨Nat.zero_le _, ⟨by walk_at "lk", by walk_at "lk", by walk_at "lk", by walk_at "lk", by walk_at "lk", by walk_at "lk"⟩, B1.mono (by omega), by walk_at "lk", c1, by walk_at "lk", [], k1, Nat.le_refl _, ⟨fun p hp => by cases hp⟩⟩
  · rintro i m' σ' ⟨_, _, B, _⟩; exact B.sp
  · clear B1 c1 k1
    rintro c' hd' i x m' σ' hx ⟨hi, ⟨l1, l2, l3, l4, l5, l6⟩, B, l7, c1, l8, ls, k1, k2, k3⟩
    unfold spotsV at hx
    rw [List.getElem?_map] at hx
    obtain ⟨k, hk, rfl⟩ := Option.map_eq_some_iff.mp hx
    have hlt := (List.getElem?_eq_some_iff.mp hk).1
    obtain ⟨r, b, rfl, hr, hb⟩ := hmem (List.mem_of_getElem? hk)
    refine a_tuple (xs := [.int r, .int b]) ?_
    refine a_name ?_
    refine a_name ?_
    ((show WB _ _ _ _ _; refine b_cons ?_))
    refine x_for ?_
    (refine e_callB bt_range callee_type (Facts.b_range (by assumption)) ?_)
    refine es_cons ?_
    refine e_call F.g_law_coin F.coin.keep ?_
    (repeat walk_at "e")
    rw [hd', hd]
    refine (coin_leaf F B.z (by omega) (by decide) fun n0 σ3 hn0 hn1 B3 PZ3 => ?_).leaf
    have c3 := B3 _ _ out.1 c1
    have k3' := B3 _ _ out2.1 k1
    have B3 := B.but B3 PZ3
    (repeat walk_at "e")
    refine lf_range fun ra hra => ?_
    have e4 := Ext.new (o := .range n0) hra
    have c4 := e4 _ _ c3
    have k4 := e4 _ _ k3'
    have B4 := B3.ext e4
    have r4 := upd_self σ3 ra (.range n0)
    generalize upd σ3 ra (.range n0) = σ4 at c4 k4 B4 r4 ⊢
    let J : Nat → Loc → Store → Prop := fun j m2 σ2 => j ≤ 2 ∧ LL A m2 ∧ m2 "ref" = some (.int r) ∧ m2 "bit" = some (.int b) ∧ BS A σ2 (201 + 4 * i + j) ∧ m2 "cells" = some (.ref ce) ∧ σ2 ce = some (.list (cellsV cs)) ∧ m2 "links" = some (.ref li) ∧ ∃ ls, σ2 li = some (.list (linksV ls)) ∧ ls.length ≤ 2 * i + j ∧ Lk A cs ls
    refine ⟨_, _, iter_range r4 (by omega) (by omega), J, ?_, ?_, ?_, ?_⟩
    · exact ⟨by omega, ⟨by walk_at "lk", by walk_at "lk", by walk_at "lk", by walk_at "lk", by walk_at "lk", by walk_at "lk"⟩, by walk_at "lk", by walk_at "lk", B4.mono (by omega), by walk_at "lk", c4, by walk_at "lk", ls, k4, by omega, k3⟩
    · rintro j m2 σ2 _; trivial
    · clear B B3 B4 c1 c3 c4 k1 k3' k4 r4 e4 hra PZ3 l1 l2 l3 l4 l5 l6 l7 l8 k3 k2 ls
      rintro c2 hd2 j w m2 σ2 hw ⟨hj, ⟨l1, l2, l3, l4, l5, l6⟩, l9, l10, B, l7, c1, l8, ls, k1, k2, k3⟩
      obtain ⟨hjt, rfl⟩ := range_item hw
      refine a_name ?_
      ((show WB _ _ _ _ _; refine b_cons ?_))
      refine x_expr ?_
      refine e_meth ?_
      (repeat walk_at "e")
      refine ⟨_, m_append k1, ?_⟩
      repeat walk_at "e"
      refine e_call F.g_law_coin F.coin.keep ?_
      repeat walk_at "e"
      (refine e_callB bt_len callee_builtin (Facts.b_len (by assumption)) ?_)
      (repeat walk_at "e")
      refine lf_len_list c1 (by omega) ?_
      refine lf_add ?_
      (repeat walk_at "e")
      rw [hd2]
      first | rw [hd'] | skip
      first | rw [hd] | skip
      refine (coin_leaf F B.z (by omega) (by omega) fun y σ5 hy0 hy1 B5 PZ5 => ?_).leaf
      have c5 := B5 _ _ out.1 c1
      have k5 := B5 _ _ out2.1 k1
      have B5 := B.but B5 PZ5
      repeat (first | walk_at "e" | refine ⟨by simp, ?_⟩)
      have hll : (linksV ls).length = ls.length := by unfold linksV; rw [List.length_map]
      refine lf_append k5 (by omega) ?_
      ((show WB _ [] _ _ _; refine b_nil ?_))
      refine ⟨by omega, ⟨by walk_at "lk", by walk_at "lk", by walk_at "lk", by walk_at "lk", by walk_at "lk", by walk_at "lk"⟩, by walk_at "lk", by walk_at "lk", (B5.set out2).mono (by omega), by walk_at "lk", ?_, by walk_at "lk", ls ++ [(r, b, y)], ?_, by simp; omega, ⟨fun p hp => ?_⟩⟩
      · rw [upd_ne _ _ hcl2]; exact c5
      · rw [upd_self]; unfold linksV; rw [List.map_append]; rfl
      · rcases List.mem_append.mp hp with q | q
        · exact k3.ok p q
        · simp at q; subst q
          exact ⟨hr, hb, hy0, by show y < _; omega⟩
    · rintro m2 σ2 ⟨hj, L, l9, l10, B, l7, c1, l8, ls, k1, k2, k3⟩
      ((show WB _ [] _ _ _; refine b_nil ?_))
      exact ⟨hlt, L, B.mono (by rw [List.length_map, List.length_range]; omega), l7, c1, l8, ls, k1, by omega, k3⟩
  · rintro m' σ' ⟨hi, L, B, l7, c1, l8, ls, k1, k2, k3⟩
    exact h li ls m' σ' L (B.mono (by omega)) l7 c1 l8 k1 (by omega) k3
theorem lawH (F : Facts P.K) (hd : c.d = d + 5) {A : La} {m : Loc} {σ : Store} (L : LL A m) (B : BS A σ 300) (G : LG A) {ce li : Addr} {cs : List (PySem.Str × List Int)} {ls : List (Nat × Nat × Int)} (m1 : m "cells" = some (.ref ce)) (c1 : σ ce = some (.list (cellsV cs))) (hcs : cs.length ≤ 4)
    (hcb : ∀ p ∈ cs, p.2.length ≤ 4 ∧ ∀ y ∈ p.2, 0 ≤ y ∧ y < ((cd0 A.S).top + cs.length : Nat)) (m2 : m "links" = some (.ref li)) (k1 : σ li = some (.list (linksV ls))) (hls : ls.length ≤ 16) (hlk : Lk A cs ls)
    (h : ∀ m σ, Fin (.ret (.bool true)) m σ) : WB c (lawB.drop 11) m σ Fin := by
  obtain ⟨l1, l2, l3, l4, l5, l6⟩ := L
  have htop : (⟨A.S, A.ins, A.ps, cs, ls⟩ : Cd).top = (cd0 A.S).top := (off_cd0 (C := ⟨A.S, A.ins, A.ps, cs, ls⟩) rfl A.S.length).2
  have hcount : (⟨A.S, A.ins, A.ps, cs, ls⟩ : Cd).count = (cd0 A.S).top + cs.length := by unfold Cd.count; rw [htop]
  have hw : ∀ r, (⟨A.S, A.ins, A.ps, cs, ls⟩ : Cd).w r = (cd0 A.S).w r := fun r => (off_cd0 (C := ⟨A.S, A.ins, A.ps, cs, ls⟩) rfl r).1
  have g1 := G.few
  have g3 := G.ins
  have g4 := G.ps
  have good : (⟨A.S, A.ins, A.ps, cs, ls⟩ : Cd).Good :=
    { few := by show A.S.length ≤ 8; omega
      thin := G.thin
      cells := by show cs.length ≤ 8; omega
      ins := fun p hp => by
        obtain ⟨q1, q2⟩ := hcb p hp
        exact ⟨by omega, fun y hy => by rw [hcount]; exact q2 y hy⟩
      links := ⟨by show ls.length ≤ 50; omega, fun p hp => by
        obtain ⟨q1, q2, q3, q4⟩ := hlk.ok p hp
        exact ⟨q1, by rw [hw]; exact q2, q3, by rw [hcount]; exact q4⟩⟩
      inputs := by show A.ins.length ≤ 50; omega
      pulls := ⟨by show A.ps.length ≤ 50; omega, G.pp⟩ }
  ((show WB _ _ _ _ _; refine b_cons ?_))
  refine x_return ?_
  refine e_and ?_
  refine e_call F.g_law_fixed F.fixed.keep ?_
  (repeat walk_at "e")
  rw [hd]
  refine (fixed_leaf F fun σ1 e1 => ?_).leaf
  refine ⟨true, rfl, ?_⟩
  rw [if_pos rfl]
  refine e_call F.g_law_case F.case.keep ?_
  (repeat walk_at "e")
  rw [hd]
  refine (case_leaf (d := d + 1) F good ⟨e1 _ _ B.so, e1 _ _ B.inn, e1 _ _ B.pl, e1 _ _ c1, e1 _ _ k1⟩ fun σ2 e2 => ?_).leaf
  exact h _ _
theorem law_body (F : Facts P.K) (hd : c.d = d + 5) {m : Loc} {σ : Store} (hl : P.xs.length ≤ 1000) (l1 : m "script" = some (.ref P.sc))
    (h : ∀ m σ, Fin (.ret (.bool true)) m σ) : WB c lawB m σ Fin := by
  have hd1 : c.d = (d + 4) + 1 := hd
  refine lawA F hd1 hl l1 fun m1 σ1 pu co so S a1 a2 a3 a4 a5 a6 => ?_
  refine lawC F hd1 ⟨a1, a2, a3, a4, a5, a6⟩ fun m2 σ2 inn ins L i1 i2 i3 => ?_
  refine lawD F hd1 L i1 i2 fun m3 σ3 sp L i1 i2 p1 p2 => ?_
  refine lawE F hd1 L i3 i1 i2 p1 p2 fun A m4 σ4 L B G => ?_
  refine lawF F hd1 L B G fun ce cs m5 σ5 L B m1 out c1 c2 c3 => ?_
  refine lawG F hd1 L B G m1 out c1 c2 fun li ls m6 σ6 L B m1 c1 m2 k1 k2 k3 => ?_
  exact lawH F hd L B G m1 c1 c2 c3 m2 k1 k2 k3 h
end

-- part W35
-- the join at the head
theorem law_join {prog : Program} {w : PySem.World} {K : Frag} {sc : Addr} {xs : List Int} {s₁ : Shared} {name : PySem.Str} {scope : Scope} {body : List Stmt} {fa : Addr} {cd : Value} {h₁ : Heap} {tk₁ : Nat} {mm cm : PySem.Str → Option Value}
    {p : Program} {loose : List PySem.Str} {mean : ExcName → Option Value} {mg mb : PySem.Str → Option Value} {vs : List Value} {Q : Flow → Shared → Prop} {E : Value → Shared → Prop}
    (F : Facts K) (T : Top p loose mean mg mb s₁.heap) (X : K.In s₁.heap) (hL : s₁.heap.IsList sc vs.toArray) (hI : IntsAre vs xs) (hlen : xs.length ≤ 1000)
    (hscope : scope = fnScope (top 20)) (hbody : body = lawB)
    (R : Fr s₁.heap s₁.heap.objs.size h₁ mm) (hmm : mm "script" = some (.ref sc))
    (hcl0 : Cl s₁.heap.objs.size (cellsFrom (s₁.heap.objs.size + 1) scope.names []) h₁ cm)
    (hQ : ∀ h' tk, (∀ b o, s₁.heap.get? b = some o → h'.get? b = some o) → Q (.ret (.bool true)) { s₁ with heap := h', toks := tk }) :
    wpAny (model prog w) (callerA.deeper (envOfC name scope s₁.heap.objs.size fa cd)) (execs body (envOfC name scope s₁.heap.objs.size fa cd)) Q E { s₁ with heap := h₁, toks := tk₁ } := by
  subst hscope
  subst hbody
  let P : Pg := ⟨prog, w, K, sc, xs⟩
  have base : Base P s₁.heap := ⟨X, ⟨mg, T.g⟩, ⟨mb, T.b, T.builtins⟩, T.nolimit, ⟨vs.toArray, hL, by simpa using hI⟩⟩
  have hcl : Cl s₁.heap.objs.size (cellsFrom (s₁.heap.objs.size + 1) (fnScope (top 20)).names []) h₁ cm := hcl0
  let c : Cx P (fnScope (top 20)) :=
    { A := callerA.deeper (envOfC name (fnScope (top 20)) s₁.heap.objs.size fa cd), hb := s₁.heap, d := 5, base := base, hh := by rfl, room := by show callerA.depth + 1 + 4 * 5 ≤ 900; decide +kernel
      units := by show callerA.units + 3 + 100 * 5 ≤ 9000; decide +kernel
      env := envOfC name (fnScope (top 20)) s₁.heap.objs.size fa cd
      kind := by kernel_rfl, glob := rfl, blt := rfl, look := fun x k e _ => e, cellsOk := fun x e => cellsFrom_some _ _ _ (.inl e) }
  have hk : c.env.kindOf "script" = some .local := by kernel_rfl
  have hsub : ∀ x v, (setL emp "script" (.ref sc)) x = some v → x = "script" ∧ v = .ref sc := fun x v e => by
    unfold setL at e
    by_cases q : x = "script"
    · rw [if_pos q] at e; cases e; exact ⟨q, rfl⟩
    · rw [if_neg q] at e; cases e
  have hnone : s₁.heap.get? s₁.heap.objs.size = none := Heap.get?_none_of_le (Nat.le_refl _)
  have S : St c (setL emp "script" (.ref sc)) (fun _ => none) h₁ := by
    refine ⟨⟨R.keep, fun a o e => (nomatch e), fun a e => absurd rfl e⟩, ⟨mm, R.ns, fun x v e _ => ?_⟩, fun x v e => ?_, fun x a e => ⟨_, hcl.cell x a e, fun v e1 e2 => ?_⟩, ⟨hnone, rfl⟩, fun x a e => ⟨Heap.get?_none_of_le (Nat.le_of_lt (hcl.above x a (mem_of_lookup e))), rfl⟩, fun x y a e1 e2 => name_of_addr hcl.apart (mem_of_lookup e1) (mem_of_lookup e2)⟩
    · obtain ⟨rfl, rfl⟩ := hsub x v e
      exact ⟨_, hmm, VR_ref.mpr rfl⟩
    · obtain ⟨rfl, rfl⟩ := hsub x v e
      exact .inl hk
    · obtain ⟨rfl, rfl⟩ := hsub x v e1
      exact absurd hk e2
  refine wpAny_mono (law_body (P := P) (c := c) (d := 0) (Fin := fun fl _ _ => fl = .ret (.bool true)) F rfl hlen (by walk_at "lk") (fun _ _ => rfl) { s₁ with heap := h₁, toks := tk₁ } S) (fun f s' q => ?_) fun _ _ z => z.elim
  obtain ⟨h', tk, σ', m', fl, rfl, S', T', r, rfl⟩ := q
  obtain ⟨u, rfl, hu⟩ := r
  have hu := VR_bool.mp hu
  subst hu
  exact hQ h' tk S'.sto.keep

-- part H1
set_option maxRecDepth 1000000
set_option maxHeartbeats 0
-- the top's run over a heap that is kept as a tree
noncomputable def runT (sp : SharedT → Thread → Option (SharedT × Thread)) (ok : Thread → Bool) : Nat → SharedT → Thread → Option SharedT
  | 0, _, _ => none
  | n + 1, s, t => match through t with
    | true => some s
    | false => match ok t with
      | false => none
      | true => match sp s t with
        | some (s', t') => runT sp ok n s' t'
        | none => none
theorem runT_of {tb : String → Option Builtin} {p : Program} {w : PySem.World} {n₀ : Nat} {ann : Option Value} {r : SharedT} (n : Nat) : ∀ (s : SharedT) (t : Thread), runT (stepT (denote tb) p w) (stepOk n₀ ann) n s t = some r → topRun tb p w n₀ ann n s.abs t = some r.abs := by
  induction n with
  | zero => intro s t h; cases h
  | succ n ih =>
    intro s t h
    unfold runT at h
    unfold topRun
    cases he : through t with
    | true => rw [he] at h; cases h; rfl
    | false =>
      rw [he] at h
      cases hk : stepOk n₀ ann t with
      | false => rw [hk] at h; cases h
      | true =>
        rw [hk] at h
        cases hs : stepT (denote tb) p w s t with
        | none => rw [hs] at h; cases h
        | some q => obtain ⟨s₂, t₂⟩ := q; rw [hs] at h; rw [stepT_spec hs]; exact ih _ _ h
noncomputable def growT : List Obj → Nat → BT → Option (BT × Nat)
  | [], n, t => some (t, n)
  | o :: r, n, t => match ((t.ins n o).get n).isSome with
    | true => growT r (n + 1) (t.ins n o)
    | false => none
theorem growT_abs {life : Life} {r : BT × Nat} (l : List Obj) : ∀ (n : Nat) (t : BT), growT l n t = some r → absHeap r.1 r.2 life = ⟨((absHeap t n life).objs.toList ++ l).toArray, life⟩ := by
  induction l with
  | nil =>
    intro n t h
    cases h
    rw [List.append_nil]
    show absHeap t n life = ⟨(t.list n).toArray.toList.toArray, life⟩
    rfl
  | cons o l ih =>
    intro n t h
    unfold growT at h
    cases hg : ((t.ins n o).get n).isSome with
    | false => rw [hg] at h; cases h
    | true =>
      rw [hg] at h
      rw [ih _ _ h, absHeap_ins hg]
      show (⟨(((absHeap t n life).objs.push o).toList ++ l).toArray, life⟩ : Heap) = _
      rw [Array.toList_push, List.append_assoc]
      rfl
noncomputable def startT (s : Shared) : Option SharedT := (growT s.heap.objs.toList 0 .nil).map fun r => ⟨r.1, r.2, s.heap.life, s.gens, s.drawn, s.toks, s.os⟩
theorem startT_abs {s : Shared} {T : SharedT} (h : startT s = some T) : T.abs = s := by
  obtain ⟨r, hr, rfl⟩ := Option.map_eq_some_iff.mp h
  have := growT_abs (life := s.heap.life) _ _ _ hr
  unfold SharedT.abs
  dsimp only
  rw [this]
  rfl
noncomputable def fromT (tb : String → Option Builtin) (p : Program) (w : PySem.World) (N : Nat) (s₀ : Shared) : Option Shared :=
  match s₀.heap.isNs mainGlobals && s₀.gens.size == 0 with
  | true => (((startT s₀).bind fun T => runT (stepT (denote tb) p w) (stepOk s₀.heap.objs.size (s₀.heap.nsMap mainGlobals "__annotations__")) N T (topStub p)).map SharedT.abs).bind fun s₁ => match staticsOk (importedModules p.main.body) s₀.heap s₁.heap && namesBound p s₁.heap && gensDone s₁ && laidKept s₀.heap s₁.heap with
    | true => some s₁
    | false => none
  | false => none
theorem fromT_of {tb : String → Option Builtin} {p : Program} {w : PySem.World} {N : Nat} {s₀ r : Shared} (h : fromT tb p w N s₀ = some r) : topFrom tb p w N s₀ = some r := by
  unfold fromT at h
  unfold topFrom
  cases hn : s₀.heap.isNs mainGlobals && s₀.gens.size == 0 with
  | false => rw [hn] at h; cases h
  | true =>
    rw [hn] at h
    obtain ⟨s₁, h1, h2⟩ := Option.bind_eq_some_iff.mp h
    obtain ⟨R, h3, rfl⟩ := Option.map_eq_some_iff.mp h1
    obtain ⟨T, h4, h5⟩ := Option.bind_eq_some_iff.mp h3
    have h6 := runT_of _ _ _ h5
    rw [startT_abs h4] at h6
    show (topRun tb p w s₀.heap.objs.size (s₀.heap.nsMap mainGlobals "__annotations__") N s₀ (topStub p)).bind _ = _
    rw [h6]
    exact h2
theorem ends_of {α : Type} {tb : String → Option Builtin} {p : Program} {w : PySem.World} {N : Nat} {f : Shared → α} {y : α} (h : ((fencedOpening tb p w N).bind (fromT tb p w N)).map f = some y) : (openEnds tb p w N).map f = some y := by
  obtain ⟨s, h1, rfl⟩ := Option.map_eq_some_iff.mp h
  obtain ⟨s₀, h2, h3⟩ := Option.bind_eq_some_iff.mp h1
  unfold openEnds
  rw [h2]
  show (topFrom tb p w N s₀).map f = _
  rw [fromT_of h3]
  rfl
noncomputable def lawRow : OpenRow := PySem.Challenge.rw_sj0045_01.row
noncomputable def qv : Program := view PySem.Challenge.pw_sj0045_01 [0, 2, 3, 5, 6, 8, 9, 11, 12, 13, 15, 16, 17, 18, 19, 20]
-- the addresses that the facts look at
noncomputable def asL : List Addr := [3, 85, 148, 232, 267, 84, 86, 87, 147, 149, 150, 231, 233, 234, 266, 268, 269, 292, 299, 306, 311, 318, 28, 33, 278, 285, 47, 103, 110, 173, 180, 185, 207, 215, 250, 257, 200, 208, 291, 298, 305, 310, 317, 27, 32, 277, 284, 46, 102, 109, 172, 179, 184, 206, 214, 249, 256, 293, 300, 307, 312, 319, 29, 279, 286, 48, 104, 111, 174, 181, 186, 216, 251, 258]
theorem left : LeftO lawRow.prog qv [] (fun s => xlAt qv [] s && recOk (RowW.records lawRow.toRowW) s) (fun s => obsK (frag asL s.heap)) (fun w => wantK) 4206 := by
  intro w
  refine ends_of ?_
  unfold fencedOpening fromT
  rw [Fast.te10156331382660048174, Fast.te11892475500146522536, Fast.te10274390034422433532, Fast.te4187177175401517315, Fast.te14364793385576792824]
  kernel_rfl
theorem looks_ok : looksOpen PySem.Challenge.rw_sj0045_01.row.prog = true := by
  rw [Fast.te12908688711261696721]
  kernel_rfl
theorem row_ok : PySem.Challenge.rw_sj0045_01.row.wellSaid = true := by
  unfold OpenRow.wellSaid OpenRow.partSaid
  rw [looks_ok]
  kernel_rfl
theorem law_said : PySem.Challenge.rw_sj0045_01.wellSaid = true := by
  unfold OpenLaw.wellSaid
  rw [row_ok]
  kernel_rfl
theorem law_bare : lawRow.prog.tablesWhole = true := by kernel_rfl

end Mine
open PySem PySem.W PyProof.Rows PySem.Calls
set_option maxRecDepth 1000000 in
set_option maxHeartbeats 0 in
theorem PySem.Challenge.cw_sj0045_01_holds : PySem.Challenge.rw_sj0045_01.Holds := by
  refine holds_law Mine.law_said fun said => ?_
  refine holds_open (q := Mine.qv) (loose := []) (Xt := fun s => xlAt Mine.qv [] s && recOk (RowW.records Mine.lawRow.toRowW) s) (XP := XL Mine.qv []) (Yf := fun s => Mine.obsK (Mine.frag Mine.asL s.heap)) (Ya := fun w => Mine.wantK) (YP := fun w h => ∃ K, Mine.Facts K ∧ K.In h) (N := 4206) (d := (⟨"law", Mine.fnPar (Mine.top 20), Mine.fnBody (Mine.top 20), Mine.fnScope (Mine.top 20), ⟨273, 0, 291, 73⟩⟩ : DefRec)) (kwd := [])
    Mine.left (fun w s e => ⟨_, Mine.facts_of e, Mine.frag_in _ _⟩) (fun w h h' ⟨K, a, b⟩ k => ⟨K, a, b.keeps k⟩) (fun s e => xl_of s (Bool.and_eq_true_iff.mp e).1) XL.keeps ?hdef ?hp ?hk (fun s e => recFacts_of (Bool.and_eq_true_iff.mp e).2) rfl said ?ok ?hb ?hw ?hc
  case hdef => kernel_rfl
  case hp => kernel_rfl
  case hk => kernel_rfl
  case ok => kernel_rfl
  case hb => exact ⟨rfl, rfl, rfl, rfl, rfl, Mine.law_bare⟩
  case hw => w_witness2
  case hc =>
    intro w s₀ s₁ mg mb G Y fa o pm cd doc dV kV ho hd hcd hD hmg hg args vals as hpre hlay hrd hwl hlo
    refine Ground.open G ?_
    intro T B D TE TW
    clear B D TE TW G
    obtain ⟨K, FK, KX⟩ := Y
    wrow_args hpre hlay hrd hwl hlo
    rename_i sc vs as' hL ra w1 r0 hI hr hcond htriv
    refine enter_call ?_
    refine codeAny_mono ?_ (fun _ _ g => GoodW.toG g)
    obtain rfl : dV = .none := hD.none (by kernel_rfl)
    obtain rfl : kV = .none := hD.noKw
    have hd2 : o.data = .func (docDef "law" (Mine.fnPar (Mine.top 20)) (Mine.fnBody (Mine.top 20)) (Mine.fnScope (Mine.top 20)) pm cd doc) := hd
    refine call_cells (binds := [("script", .ref sc)]) (by decide +kernel) ho hd2 T.nolimit hcd ?hbind ?hkind ?h (by kernel_rfl) (by kernel_rfl) (by kernel_rfl)
    case hbind => kernel_rfl
    case hkind => intro x hx; simp only [List.mem_singleton] at hx; subst hx; exact .inl (by kernel_rfl)
    case h =>
      intro h₁ tk R C
      refine Mine.law_join FK T KX hL hI ?hlen rfl rfl R (by kernel_rfl) C ?hQ
      case hlen => omega
      case hQ =>
        intro h' tk keep
        exact ⟨.inl ⟨_, _, [], rfl, fun _ => rfl, ReadsW.bool true, by first | rfl | wrow_post, fun _ => ⟨List.nodup_nil, fun _ hm => (nomatch hm)⟩⟩, keep, rfl, by assumption⟩
