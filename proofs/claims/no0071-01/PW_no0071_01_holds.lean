import PyProof.Rows.All
import Wide.All
import OpenK.AllK
import Wide.FinOn
import Lean
import PySem.Challenge.RW_no0071_01

set_option Elab.async false
set_option linter.unusedVariables false
set_option maxRecDepth 100000

namespace Mine
open PySem PySem.W PySem.Calls PyProof.Rows
/-- an abstract value: lists, dicts, instances by their address; tuples by what they hold -/
inductive AV where
  | none | bool (b : Bool) | int (i : Int) | str (s : Str) | bytes (b : Array UInt8) | obj (a : Addr) | stat (v : Value) | tup (xs : List AV)
/-- an abstract object -/
inductive AO where
  | list (xs : List AV) | dict (kvs : List (Int × AV)) | inst (C d : Addr) | ns (l : List (Str × AV)) | view (d : Addr) | tab | raw (o : Obj) | cell (x : AV) | dictx (kvs : List (Int × AV)) (o : Obj)

noncomputable def NotTup (o : Obj) : Prop := ∀ vs, o ≠ { cls := .type "tuple", data := .seq vs }
theorem NotTup.cls {o : Obj} (h : o.cls ≠ .type "tuple") : NotTup o := fun vs e => h (by rw [e])
theorem NotTup.fields {o : Obj} {ws : Array Value} (h : o.data = .fields ws) : NotTup o := fun vs e => by rw [e] at h; cases h
theorem NotTup.cell {o : Obj} {v : Option Value} (h : o.data = .cell v) : NotTup o := fun vs e => by rw [e] at h; cases h
mutual
noncomputable def VR (h : Heap) : AV → Value → Prop
  | .none, v => v = .none
  | .bool b, v => v = .bool b
  | .int i, v => ∃ t, v = .int i t
  | .str s, v => ∃ t, v = .str s t
  | .bytes b, v => ∃ t, v = .bytes b t
  | .obj a, v => v = .ref a
  | .stat u, v => v = u
  | .tup xs, v => ∃ a vs, v = .ref a ∧ h.get? a = some { cls := .type "tuple", data := .seq vs.toArray } ∧ VRs h xs vs
noncomputable def VRs (h : Heap) : List AV → List Value → Prop
  | [], vs => vs = []
  | x :: xs, vs => ∃ v r, vs = v :: r ∧ VR h x v ∧ VRs h xs r
end
noncomputable def KVR (h : Heap) : List (Int × AV) → List (Int × Value) → Prop
  | [], vs => vs = []
  | x :: xs, vs => ∃ v r, vs = (x.1, v) :: r ∧ VR h x.2 v ∧ KVR h xs r
noncomputable def NSR (h : Heap) : List (Str × AV) → List DictEntry → Prop
  | [], es => es = []
  | x :: xs, es => ∃ e r t, es = e :: r ∧ e.key = .str x.1 t ∧ VR h x.2 e.val ∧ NSR h xs r

section
variable (prog : Program) (w : World)
noncomputable def OR (h : Heap) : AO → Obj → Prop
  | .list xs, o => ∃ vs n, o = { cls := .type "list", data := .seq vs.toArray n } ∧ VRs h xs vs
  | .dict kvs, o => ∃ vs, o.IsDictOf (intKind prog w) vs ∧ KVR h kvs vs
  | .inst C d, o => ∃ sl, o = ⟨.ref C, some d, .plain, sl⟩
  | .ns l, o => ∃ es n, o = { cls := .type "dict", data := .dict es.toArray n } ∧ NSR h l es
  | .view d, o => o = { cls := .type "dict_values", data := .fields #[.ref d] }
  | .tab, o => ∃ vs, o = tabObj vs
  | .raw o', o => o = o' ∧ NotTup o ∧ o.isFreed = false
  | .dictx kvs o', o => o = o' ∧ ∃ vs, o.IsDictOf (intKind prog w) vs ∧ KVR h kvs vs
  | .cell x, o => ∃ v, o.data = .cell (some v) ∧ VR h x v
end

/-- tuples keep -/
noncomputable def TK (h h' : Heap) : Prop := ∀ a vs, h.get? a = some { cls := .type "tuple", data := .seq vs } → h'.get? a = some { cls := .type "tuple", data := .seq vs }
theorem TK.refl (h : Heap) : TK h h := fun _ _ e => e
theorem TK.trans {h₁ h₂ h₃ : Heap} (x : TK h₁ h₂) (y : TK h₂ h₃) : TK h₁ h₃ := fun a vs e => y a vs (x a vs e)
theorem TK.of_keeps {h h' : Heap} (k : ∀ b o, h.get? b = some o → h'.get? b = some o) : TK h h' := fun _ _ e => k _ _ e

mutual
theorem VR.mono {h h' : Heap} (k : TK h h') : ∀ {x : AV} {v : Value}, VR h x v → VR h' x v
  | .none, _, e => e
  | .bool _, _, e => e
  | .int _, _, e => e
  | .str _, _, e => e
  | .bytes _, _, e => e
  | .obj _, _, e => e
  | .stat _, _, e => e
  | .tup _, _, ⟨a, vs, e, g, r⟩ => ⟨a, vs, e, k _ _ g, VRs.mono k r⟩
theorem VRs.mono {h h' : Heap} (k : TK h h') : ∀ {xs : List AV} {vs : List Value}, VRs h xs vs → VRs h' xs vs
  | [], _, e => e
  | _ :: _, _, ⟨v, r, e, a, b⟩ => ⟨v, r, e, VR.mono k a, VRs.mono k b⟩
end
theorem KVR.mono {h h' : Heap} (k : TK h h') : ∀ {xs : List (Int × AV)} {vs}, KVR h xs vs → KVR h' xs vs
  | [], _, e => e
  | _ :: _, _, ⟨v, r, e, a, b⟩ => ⟨v, r, e, a.mono k, KVR.mono k b⟩
theorem NSR.mono {h h' : Heap} (k : TK h h') : ∀ {xs : List (Str × AV)} {es}, NSR h xs es → NSR h' xs es
  | [], _, e => e
  | _ :: _, _, ⟨v, r, t, e, q, a, b⟩ => ⟨v, r, t, e, q, a.mono k, NSR.mono k b⟩
theorem OR.mono {prog : Program} {w : World} {h h' : Heap} (k : TK h h') : ∀ {o : AO} {ob : Obj}, OR prog w h o ob → OR prog w h' o ob
  | .list _, _, ⟨vs, n, e, r⟩ => ⟨vs, n, e, r.mono k⟩
  | .dict _, _, ⟨vs, e, r⟩ => ⟨vs, e, r.mono k⟩
  | .inst _ _, _, e => e
  | .ns _, _, ⟨es, n, e, r⟩ => ⟨es, n, e, r.mono k⟩
  | .view _, _, e => e
  | .tab, _, e => e
  | .raw _, _, e => e
  | .cell _, _, ⟨v, e, r⟩ => ⟨v, e, r.mono k⟩
  | .dictx _ _, _, ⟨e, vs, r, n⟩ => ⟨e, vs, r, n.mono k⟩

theorem ty_list : (Value.type "list" ≠ Value.type "tuple") ∧ (Value.type "list" ≠ Value.type "frame") := by decide
theorem ty_dict : (Value.type "dict" ≠ Value.type "tuple") ∧ (Value.type "dict" ≠ Value.type "frame") := by decide
theorem ty_view : (Value.type "dict_values" ≠ Value.type "tuple") ∧ (Value.type "dict_values" ≠ Value.type "frame") := by decide
theorem OR.notTuple {prog : Program} {w : World} {h : Heap} {o : AO} {ob : Obj} (x : OR prog w h o ob) : NotTup ob ∧ ob.isFreed = false := by
  cases o with
  | list xs => obtain ⟨vs, n, rfl, _⟩ := x; exact ⟨.cls ty_list.1, rfl⟩
  | dict kvs => obtain ⟨vs, ⟨es, ep, ⟨hc, _⟩, hd, _⟩, _⟩ := x; exact ⟨.cls (by rw [hc]; exact ty_dict.1), Obj.isFreed_of_dict hd⟩
  | inst C d => obtain ⟨sl, rfl⟩ := x; exact ⟨.cls fun h => (nomatch h), rfl⟩
  | ns l => obtain ⟨es, n, rfl, _⟩ := x; exact ⟨.cls ty_dict.1, rfl⟩
  | view d => cases x; exact ⟨.cls ty_view.1, rfl⟩
  | tab => obtain ⟨vs, rfl⟩ := x; exact ⟨.cls fun h => (nomatch h), rfl⟩
  | raw o' => exact x.2
  | dictx kvs o' => obtain ⟨_, vs, ⟨es, ep, ⟨hc, _⟩, hd, _⟩, _⟩ := x; exact ⟨.cls (by rw [hc]; exact ty_dict.1), Obj.isFreed_of_dict hd⟩
  | cell y => obtain ⟨v, e, _⟩ := x; exact ⟨.cell e, by cases ob; simp only at e; subst e; rfl⟩

/-- the abstract heap -/
noncomputable abbrev Hp := Addr → Option AO
noncomputable def Hp.set (H : Hp) (a : Addr) (o : AO) : Hp := fun b => if b = a then some o else H b
structure St where
  vars : List (Str × AV)
  hp : Hp

theorem VRs.length {h : Heap} : ∀ {xs : List AV} {vs : List Value}, VRs h xs vs → vs.length = xs.length
  | [], _, e => by cases e; rfl
  | _ :: _, _, ⟨v, r, e, _, b⟩ => by subst e; simp [VRs.length b]
theorem VRs.get {h : Heap} : ∀ {xs : List AV} {vs : List Value}, VRs h xs vs → ∀ {i : Nat} {x : AV}, xs[i]? = some x → ∃ v, vs[i]? = some v ∧ VR h x v
  | [], _, _, i, x, e => by simp at e
  | y :: ys, _, ⟨v, r, e, a, b⟩, 0, x, q => by subst e; simp at q; subst q; exact ⟨v, rfl, a⟩
  | y :: ys, _, ⟨v, r, e, a, b⟩, i + 1, x, q => by subst e; simp at q; simpa using VRs.get b q
theorem VRs.append {h : Heap} : ∀ {xs ys : List AV} {vs us : List Value}, VRs h xs vs → VRs h ys us → VRs h (xs ++ ys) (vs ++ us)
  | [], _, _, _, e, q => by cases e; exact q
  | _ :: _, _, _, _, ⟨v, r, e, a, b⟩, q => by subst e; exact ⟨v, _, rfl, a, b.append q⟩
theorem VRs.one {h : Heap} {x : AV} {v : Value} (a : VR h x v) : VRs h [x] [v] := ⟨v, [], rfl, a, rfl⟩
theorem VRs.two {h : Heap} {x y : AV} {v u : Value} (a : VR h x v) (b : VR h y u) : VRs h [x, y] [v, u] := ⟨v, _, rfl, a, .one b⟩
theorem VRs.cons {h : Heap} {x : AV} {v : Value} {xs vs} (a : VR h x v) (b : VRs h xs vs) : VRs h (x :: xs) (v :: vs) := ⟨v, _, rfl, a, b⟩
end Mine

namespace Mine
open PySem PySem.W PySem.Calls PyProof.Rows
structure Wd where
  prog : Program
  w : World
  base : Heap
  s₀ : Shared
  K : Frag
  mg : Str → Option Value
  mb : Str → Option Value
structure Stat (D : Wd) : Prop where
  K : D.K.In D.base
  g : D.base.Ns mainGlobals D.mg
  b : D.base.Ns builtinsNs D.mb
  builtins : ∀ x : Str, x ≠ "__name__" → D.mb x = bootBuiltins x
  nolimit : D.base.NoLimit
  nodigits : ∃ mc, D.base.Ns cStatics mc ∧ mc "sys.int_max_str_digits" = none
structure Cx where
  A : Around
  env : Env
  frames : List Env
  pur : Bool
  room : Nat

noncomputable def fa (env : Env) : List Addr := env.locals :: env.cells.map (·.2)
/-- what the frame may store into -/
noncomputable def fw (env : Env) : List Addr := env.locals :: (env.cells.filter fun p => env.kindOf p.1 == some .cell).map (·.2)
theorem fw_fa {env : Env} {a : Addr} (h : a ∈ fw env) : a ∈ fa env := by
  rcases List.mem_cons.mp h with rfl | h
  · exact List.mem_cons_self ..
  · obtain ⟨p, hp, rfl⟩ := List.mem_map.mp h
    exact List.mem_cons_of_mem _ (List.mem_map.mpr ⟨p, (List.mem_filter.mp hp).1, rfl⟩)

structure CxOk (c : Cx) : Prop where
  kind : c.env.scope.kind = .function
  glob : c.env.globals = mainGlobals
  blt : c.env.builtins = builtinsNs
  frames : c.A.frames = some c.frames
  handled : c.A.handled = none
  depth : c.A.depth + c.room < recursionLimit
  units : c.A.units + 8 * c.room + 200 < cLine
  apart : (c.env.cells.map (·.2)).Pairwise (· ≠ ·)
  locals : c.env.locals ∉ c.env.cells.map (·.2)

structure FrRep (env : Env) (vars : List (Str × AV)) (h : Heap) : Prop where
  loc : ∃ m, h.Ns env.locals m ∧ ∀ x av, vars.lookup x = some av → env.kindOf x = some .local → ∃ v, m x = some v ∧ VR h av v
  cell : ∀ x av, vars.lookup x = some av → (env.kindOf x = some .cell ∨ env.kindOf x = some .free) → ∃ a v, env.cells.lookup x = some a ∧ h.IsCell a (some v) ∧ VR h av v
  cells : ∀ p ∈ env.cells, ∃ v₀, h.IsCell p.2 v₀

/-- every frame under way has its names in a dict of its own -/
noncomputable def FF (base h : Heap) (l : List Env) : Prop := ∀ env ∈ l, env.scope.kind ≠ .module ∧ ∃ L o es ep, env.frame = some L ∧ base.get? L = none ∧ h.get? L = some o ∧ o.data = .dict es ep
theorem FF.fun {base h : Heap} : ∀ {l : List Env}, FF base h l → h.FunFrames base l
  | [], _ => trivial
  | env :: l, x => by
    obtain ⟨k, L, o, es, ep, a, b, e, d⟩ := x env (List.mem_cons_self ..)
    exact ⟨k, ⟨L, o, a, b, e, fun vs q => by rw [d] at q; cases q⟩, FF.fun fun e' h' => x e' (List.mem_cons_of_mem _ h')⟩
theorem FF.keep {base h h' : Heap} {l : List Env} (x : FF base h l) (k : ∀ L ∈ l.filterMap (·.frame), ∀ o, h.get? L = some o → ∀ es ep, o.data = .dict es ep → ∃ o' es' ep', h'.get? L = some o' ∧ o'.data = .dict es' ep') : FF base h' l := fun env he => by
  obtain ⟨q, L, o, es, ep, a, b, e, d⟩ := x env he
  obtain ⟨o', es', ep', e', d'⟩ := k L (List.mem_filterMap.mpr ⟨env, he, a⟩) o e es ep d
  exact ⟨q, L, o', es', ep', a, b, e', d'⟩
theorem FF.mem {base h : Heap} {l : List Env} (x : FF base h l) {L : Addr} (hL : L ∈ l.filterMap (·.frame)) : base.get? L = none ∧ ∃ o es ep, h.get? L = some o ∧ o.data = .dict es ep := by
  obtain ⟨env, he, q⟩ := List.mem_filterMap.mp hL
  obtain ⟨_, L', o, es, ep, a, b, e, d⟩ := x env he
  rw [a] at q; cases q
  exact ⟨b, o, es, ep, e, d⟩
structure Rep (D : Wd) (c : Cx) (σ : St) (s : Shared) : Prop where
  st : Stat D
  ok : CxOk c
  hp : ∀ a o, σ.hp a = some o → ∃ ob, s.heap.get? a = some ob ∧ OR D.prog D.w s.heap o ob
  fresh : ∀ a o, σ.hp a = some o → D.base.get? a = none
  apart : ∀ a ∈ fa c.env, σ.hp a = none
  fr : FrRep c.env σ.vars s.heap
  base : D.base.StaysIn s.heap
  baseA : ∀ a ∈ fw c.env, D.base.get? a = none
  same : ∃ h tk, s = { D.s₀ with heap := h, toks := tk }
  ff : FF D.base s.heap c.frames
  fapart : ∀ L ∈ c.frames.filterMap (·.frame), σ.hp L = none
  nm : ∀ d kvs, σ.hp d = some (.dict kvs) → d ≠ sysModules

structure Ext (c : Cx) (σ : St) (s : Shared) (σ' : St) (s' : Shared) : Prop where
  keep : ∀ a o, s.heap.get? a = some o → σ.hp a = none → a ∉ fw c.env → ∃ sl, s'.heap.get? a = some { o with slots := sl }
  trk : ∀ a o, σ'.hp a = some o → (∃ o', σ.hp a = some o') ∨ s.heap.get? a = none
  ex : ∀ a o, s.heap.get? a = some o → ∃ o', s'.heap.get? a = some o'
  tk : TK s.heap s'.heap
  pur : c.pur = true → ∀ a o, s.heap.get? a = some o → s'.heap.get? a = some o


theorem Ext.refl (c : Cx) (σ : St) (s : Shared) : Ext c σ s σ s :=
  ⟨fun _ o e _ _ => ⟨o.slots, e⟩, fun _ _ e => .inl ⟨_, e⟩, fun _ o e => ⟨o, e⟩, TK.refl _, fun _ _ _ e => e⟩
theorem Ext.trans {c : Cx} {σ₁ σ₂ σ₃ : St} {s₁ s₂ s₃ : Shared} (x : Ext c σ₁ s₁ σ₂ s₂) (y : Ext c σ₂ s₂ σ₃ s₃) : Ext c σ₁ s₁ σ₃ s₃ := by
  refine ⟨fun a o e h n => ?_, fun a o e => ?_, fun a o e => ?_, x.tk.trans y.tk, fun p a o e => y.pur p a o (x.pur p a o e)⟩
  · obtain ⟨sl, e₁⟩ := x.keep a o e h n
    have h₂ : σ₂.hp a = none := by
      cases q : σ₂.hp a with
      | none => rfl
      | some o₂ =>
        rcases x.trk a o₂ q with ⟨o', z⟩ | z
        · rw [h] at z; cases z
        · rw [e] at z; cases z
    obtain ⟨sl₂, e₂⟩ := y.keep a _ e₁ h₂ n
    exact ⟨sl₂, e₂⟩
  · rcases y.trk a o e with ⟨o', z⟩ | z
    · exact x.trk a o' z
    · refine .inr ?_
      cases q : s₁.heap.get? a with
      | none => rfl
      | some o₁ => obtain ⟨o', e'⟩ := x.ex a o₁ q; rw [z] at e'; cases e'
  · obtain ⟨o₁, e₁⟩ := x.ex a o e; exact y.ex a o₁ e₁

/-- an exception of the text's own on its way; F says what stands in its traceback's head, if it has one -/
structure IsExc (base : Heap) (QE : Addr) (s : Shared) (ea : Addr) (code : Int) (h : Heap) (H : Hp) (F : Option Value → Prop) : Prop where
  new : s.heap.get? ea = none
  unt : H ea = none
  obj : ∃ oe vs dx es n t, h.get? ea = some oe ∧ oe.cls = .ref QE ∧ oe.data = .fields vs ∧ oe.dict = some dx ∧ s.heap.get? dx = none ∧ h.get? dx = some (dictOf es n) ∧ getL (Str.ofString "code") es = some (some (.int code t)) ∧
    ((vs[1]? = some .none ∧ F none) ∨ ∃ T oT ts v, vs[1]? = some (.ref T) ∧ (s.heap.get? T = none ∧ H T = none) ∧ T ≠ ea ∧ h.get? T = some oT ∧ oT.data = .fields ts ∧ ts[3]? = some v ∧ F (some v))
noncomputable def Fl (L : Addr) (o : Option Value) : Prop := o = none ∨ o = some .none ∨ o = some (rawInt L)
noncomputable def quicErr : Addr := 38
noncomputable def XP (D : Wd) (c : Cx) (σ : St) (s : Shared) (X : Int → St → Prop) (e : Value) (s' : Shared) : Prop :=
  ∃ σ' ea code, e = .ref ea ∧ Rep D c σ' s' ∧ Ext c σ s σ' s' ∧ IsExc D.base quicErr s ea code s'.heap σ'.hp (Fl c.env.locals) ∧ X code σ'

noncomputable def T (D : Wd) (c : Cx) {α β : Type} (R : Heap → β → α → Prop) (t : Sem α) (σ : St) (Q : β → St → Prop) (X : Int → St → Prop) : Prop :=
  ∀ s, Rep D c σ s → wpAny (model D.prog D.w) c.A t (fun r s' => ∃ b σ', Rep D c σ' s' ∧ Ext c σ s σ' s' ∧ R s'.heap b r ∧ Q b σ') (XP D c σ s X) s
noncomputable abbrev TE (D : Wd) (c : Cx) (t : Sem Value) (σ : St) (Q : AV → St → Prop) (X : Int → St → Prop) : Prop := T D c VR t σ Q X
noncomputable def EqR {α : Type} : Heap → α → α → Prop := fun _ b r => b = r
noncomputable abbrev TB (D : Wd) (c : Cx) (t : Sem Bool) (σ : St) (Q : Bool → St → Prop) (X : Int → St → Prop) : Prop := T D c EqR t σ Q X
noncomputable abbrev TU (D : Wd) (c : Cx) (t : Sem Unit) (σ : St) (Q : St → Prop) (X : Int → St → Prop) : Prop := T D c EqR t σ (fun _ => Q) X
/-- an operation on values -/
noncomputable def TO (D : Wd) (c : Cx) {α β : Type} (R : Heap → β → α → Prop) (avs : List AV) (t : List Value → Sem α) (σ : St) (Q : β → St → Prop) (X : Int → St → Prop) : Prop :=
  ∀ s vs, Rep D c σ s → VRs s.heap avs vs → wpAny (model D.prog D.w) c.A (t vs) (fun r s' => ∃ b σ', Rep D c σ' s' ∧ Ext c σ s σ' s' ∧ R s'.heap b r ∧ Q b σ') (XP D c σ s X) s

inductive AF where
  | next | brk | cont | ret (v : AV)
noncomputable def FR (h : Heap) : AF → Flow → Prop
  | .next, f => f = .next
  | .brk, f => f = .brk
  | .cont, f => f = .cont
  | .ret v, f => ∃ u, f = .ret u ∧ VR h v u
noncomputable abbrev TF (D : Wd) (c : Cx) (t : Sem Flow) (σ : St) (Q : AF → St → Prop) (X : Int → St → Prop) : Prop := T D c FR t σ Q X

theorem XP.lift {D : Wd} {c : Cx} {σ σ₁ : St} {s s₁ : Shared} {X : Int → St → Prop} {e : Value} {s' : Shared} (x : Ext c σ s σ₁ s₁) (y : XP D c σ₁ s₁ X e s') : XP D c σ s X e s' := by
  obtain ⟨σ', ea, code, rfl, r, ext, i, q⟩ := y
  have old : ∀ a, s₁.heap.get? a = none → s.heap.get? a = none := fun a z => by
    cases q : s.heap.get? a with
    | none => rfl
    | some o => obtain ⟨o', e'⟩ := x.ex a o q; rw [z] at e'; cases e'
  obtain ⟨i1, i2, oe, vs, dx, es, n, t, h1, h2, h3, h4, h5, h6, h7, h8⟩ := i
  refine ⟨σ', ea, code, rfl, r, x.trans ext, ⟨old _ i1, i2, oe, vs, dx, es, n, t, h1, h2, h3, h4, old _ h5, h6, h7, ?_⟩, q⟩
  rcases h8 with h8 | ⟨T, oT, ts, v, g1, g2, g⟩
  · exact .inl h8
  · exact .inr ⟨T, oT, ts, v, g1, ⟨old _ g2.1, g2.2⟩, g⟩

section
variable {D : Wd} {c : Cx} {α β : Type} {R : Heap → β → α → Prop} {t : Sem α} {σ : St} {Q Q' : β → St → Prop} {X X' : Int → St → Prop}

theorem T.mono (x : T D c R t σ Q X) (hQ : ∀ b σ', Q b σ' → Q' b σ') (hX : ∀ k σ', X k σ' → X' k σ') : T D c R t σ Q' X' := fun s r =>
  wpAny_mono (x s r) (fun _ _ ⟨b, σ', a1, a2, a3, q⟩ => ⟨b, σ', a1, a2, a3, hQ _ _ q⟩) fun _ _ ⟨σ', ea, k, a1, a2, a3, a4, q⟩ => ⟨σ', ea, k, a1, a2, a3, a4, hX _ _ q⟩

/-- how a tree is used within another -/
theorem T.use (x : T D c R t σ Q X) {σ₀ : St} {s₀ s : Shared} (r : Rep D c σ s) (e : Ext c σ₀ s₀ σ s) {P : α → Shared → Prop}
    (k : ∀ a s' b σ', Rep D c σ' s' → Ext c σ s σ' s' → Ext c σ₀ s₀ σ' s' → R s'.heap b a → Q b σ' → P a s') : wpAny (model D.prog D.w) c.A t P (XP D c σ₀ s₀ X) s :=
  wpAny_mono (x s r) (fun a s' ⟨b, σ', a1, a2, a3, q⟩ => k a s' b σ' a1 a2 (e.trans a2) a3 q) fun _ _ y => y.lift e
theorem TO.use {avs : List AV} {t : List Value → Sem α} (x : TO D c R avs t σ Q X) {σ₀ : St} {s₀ s : Shared} {vs : List Value} (r : Rep D c σ s) (v : VRs s.heap avs vs) (e : Ext c σ₀ s₀ σ s) {P : α → Shared → Prop}
    (k : ∀ a s' b σ', Rep D c σ' s' → Ext c σ s σ' s' → Ext c σ₀ s₀ σ' s' → R s'.heap b a → Q b σ' → P a s') : wpAny (model D.prog D.w) c.A (t vs) P (XP D c σ₀ s₀ X) s :=
  wpAny_mono (x s vs r v) (fun a s' ⟨b, σ', a1, a2, a3, q⟩ => k a s' b σ' a1 a2 (e.trans a2) a3 q) fun _ _ y => y.lift e
end

theorem nmSet {H : Hp} {a : Addr} {o : AO} (h : ∀ d kvs, H d = some (.dict kvs) → d ≠ sysModules) (n : ∀ kvs, o = .dict kvs → a ≠ sysModules) : ∀ d kvs, H.set a o d = some (.dict kvs) → d ≠ sysModules := fun d kvs e => by
  by_cases q : d = a
  · subst q
    have : o = .dict kvs := by simpa [Hp.set] using e
    exact n kvs this
  · exact h d kvs (by simpa [Hp.set, q] using e)
/-! steps of the heap -/
section
variable {D : Wd} {c : Cx} {σ : St} {s : Shared} {h' : Heap} {tk : Nat}
theorem FrRep.keeps {env : Env} {vars : List (Str × AV)} {h : Heap} (x : FrRep env vars h) (k : ∀ a ∈ fa env, ∀ o, h.get? a = some o → ∃ sl, h'.get? a = some { o with slots := sl }) (t : TK h h') : FrRep env vars h' := by
  obtain ⟨⟨m, ⟨o, es, ep, ho, hd, hr⟩, hl⟩, hc, hcs⟩ := x
  have ic : ∀ p ∈ env.cells, ∀ v, h.IsCell p.2 v → h'.IsCell p.2 v := fun p e v ⟨o, ho, hd⟩ => by
    obtain ⟨sl, q⟩ := k p.2 (List.mem_cons_of_mem _ (List.mem_map.mpr ⟨p, e, rfl⟩)) o ho
    exact ⟨_, q, hd⟩
  obtain ⟨sl, q⟩ := k env.locals (List.mem_cons_self ..) o ho
  refine ⟨⟨m, ⟨_, es, ep, q, hd, hr⟩, fun x av e1 e2 => ?_⟩, fun x av e1 e2 => ?_, fun p e => ?_⟩
  · obtain ⟨v, h1, h2⟩ := hl x av e1 e2; exact ⟨v, h1, h2.mono t⟩
  · obtain ⟨a, v, h1, h2, h3⟩ := hc x av e1 e2; exact ⟨a, v, h1, ic (x, a) (mem_of_lookup h1) _ h2, h3.mono t⟩
  · obtain ⟨v, h1⟩ := hcs p e; exact ⟨v, ic p e _ h1⟩

theorem Rep.grow (r : Rep D c σ s) (k : ∀ a o, s.heap.get? a = some o → h'.get? a = some o) : Rep D c σ { s with heap := h', toks := tk } ∧ Ext c σ s σ { s with heap := h', toks := tk } := by
  have t : TK s.heap h' := TK.of_keeps k
  refine ⟨⟨r.st, r.ok, fun a o e => ?_, r.fresh, r.apart, r.fr.keeps (fun a _ o e => ⟨o.slots, k a o e⟩) t, fun b o e => k b o (r.base b o e), r.baseA, ?_, r.ff.keep fun b _ o e es ep d => ⟨o, es, ep, k b o e, d⟩, r.fapart, r.nm⟩, ?_⟩
  · obtain ⟨ob, e1, e2⟩ := r.hp a o e; exact ⟨ob, k a ob e1, e2.mono t⟩
  · obtain ⟨h, t, e⟩ := r.same; exact ⟨h', tk, by rw [e]⟩
  · exact ⟨fun a o e _ _ => ⟨o.slots, k a o e⟩, fun _ _ e => .inl ⟨_, e⟩, fun a o e => ⟨o, k a o e⟩, t, fun _ => k⟩

theorem fresh_none (h : Heap) : h.get? h.objs.size = none := by
  cases q : h.get? h.objs.size with
  | none => rfl
  | some o => exact absurd (Heap.lt_size q) (Nat.lt_irrefl _)
theorem Rep.untracked (r : Rep D c σ s) {a : Addr} (e : s.heap.get? a = none) : σ.hp a = none := by
  cases q : σ.hp a with
  | none => rfl
  | some o => obtain ⟨ob, e1, _⟩ := r.hp a o q; rw [e] at e1; cases e1

/-- one object turned -/
theorem Rep.turn (r : Rep D c σ s) {a : Addr} {o o' : AO} {ob' : Obj} (ho : σ.hp a = some o) (hp : c.pur = false) (hs : Heap.SameBut a s.heap h') (hn : h'.get? a = some ob') (ok : OR D.prog D.w s.heap o' ob') (nm : ∀ kvs, o' = .dict kvs → a ≠ sysModules) :
    Rep D c { σ with hp := σ.hp.set a o' } { s with heap := h', toks := tk } ∧ Ext c σ s { σ with hp := σ.hp.set a o' } { s with heap := h', toks := tk } := by
  obtain ⟨ob, hob, okb⟩ := r.hp a o ho
  have nt := okb.notTuple
  have t : TK s.heap h' := fun b vs e => by
    by_cases q : b = a
    · subst q; rw [hob] at e; exact absurd (Option.some.inj e) (nt.1 vs)
    · exact (hs.2 b q).trans e
  have oth : ∀ b, b ≠ a → ∀ o, s.heap.get? b = some o → h'.get? b = some o := fun b q o e => (hs.2 b q).trans e
  have na : ∀ b ∈ fa c.env, b ≠ a := fun b hb q => by subst q; rw [r.apart _ hb] at ho; cases ho
  refine ⟨⟨r.st, r.ok, fun b p e => ?_, fun b p e => ?_, fun b hb => ?_, r.fr.keeps (fun b hb p e => ⟨p.slots, oth b (na b hb) p e⟩) t, fun b p e => oth b (fun q => ?_) p (r.base b p e), r.baseA, ?_, ?_, fun L hL => ?_, nmSet r.nm nm⟩, ?_⟩
  · by_cases q : b = a
    · subst q
      have : o' = p := by simpa [Hp.set] using e
      subst this
      exact ⟨ob', hn, ok.mono t⟩
    · have e' : σ.hp b = some p := by simpa [Hp.set, q] using e
      obtain ⟨x, e1, e2⟩ := r.hp b p e'
      exact ⟨x, oth b q x e1, e2.mono t⟩
  · by_cases q : b = a
    · subst q; exact r.fresh _ o ho
    · exact r.fresh b p (by simpa [Hp.set, q] using e)
  · have q := na b hb
    show (if b = a then some o' else σ.hp b) = none
    rw [if_neg q]; exact r.apart b hb
  · subst q; rw [r.fresh _ o ho] at e; cases e
  · obtain ⟨h, t, e⟩ := r.same; exact ⟨h', tk, by rw [e]⟩
  · exact r.ff.keep fun L hL p e es ep d => ⟨p, es, ep, oth L (fun q => by subst q; rw [r.fapart _ hL] at ho; cases ho) p e, d⟩
  · have q : L ≠ a := fun q => by subst q; rw [r.fapart _ hL] at ho; cases ho
    show (if L = a then some o' else σ.hp L) = none
    rw [if_neg q]; exact r.fapart L hL
  · refine ⟨fun b p e hb _ => ?_, fun b p e => ?_, fun b p e => ?_, t, fun q => by rw [hp] at q; cases q⟩
    · have q : b ≠ a := fun q => by subst q; rw [ho] at hb; cases hb
      exact ⟨p.slots, oth b q p e⟩
    · by_cases q : b = a
      · subst q; exact .inl ⟨o, ho⟩
      · exact .inl ⟨p, by simpa [Hp.set, q] using e⟩
    · by_cases q : b = a
      · subst q; exact ⟨_, hn⟩
      · exact ⟨p, oth b q p e⟩

theorem Rep.inFa (r : Rep D c σ s) {a : Addr} (h : a ∈ fa c.env) : ∃ o, s.heap.get? a = some o := by
  obtain ⟨⟨m, ⟨o, _, _, ho, _⟩, _⟩, _, hc⟩ := r.fr
  rcases List.mem_cons.mp h with rfl | h
  · exact ⟨o, ho⟩
  · obtain ⟨p, hp, rfl⟩ := List.mem_map.mp h
    obtain ⟨v, o, ho, _⟩ := hc p hp
    exact ⟨o, ho⟩
/-- a new object kept -/
theorem Rep.alloc (r : Rep D c σ s) {a : Addr} {o : AO} {ob : Obj} (k : ∀ a o, s.heap.get? a = some o → h'.get? a = some o) (hn : s.heap.get? a = none) (ho : h'.get? a = some ob) (ok : OR D.prog D.w h' o ob) (nm : ∀ kvs, o = .dict kvs → a ≠ sysModules) :
    Rep D c { σ with hp := σ.hp.set a o } { s with heap := h', toks := tk } ∧ Ext c σ s { σ with hp := σ.hp.set a o } { s with heap := h', toks := tk } := by
  obtain ⟨r', e'⟩ := r.grow (h' := h') (tk := tk) k
  have hu := r.untracked hn
  refine ⟨⟨r.st, r.ok, fun b p e => ?_, fun b p e => ?_, fun b hb => ?_, r'.fr, r'.base, r'.baseA, r'.same, r'.ff, fun L hL => ?_, nmSet r.nm nm⟩, ?_⟩
  · by_cases q : b = a
    · subst q
      have : o = p := by simpa [Hp.set] using e
      subst this
      exact ⟨ob, ho, ok⟩
    · exact r'.hp b p (by simpa [Hp.set, q] using e)
  · by_cases q : b = a
    · subst q
      cases z : D.base.get? b with
      | none => rfl
      | some y => rw [r.base b y z] at hn; cases hn
    · exact r.fresh b p (by simpa [Hp.set, q] using e)
  · have q : b ≠ a := fun q => by subst q; obtain ⟨y, hy⟩ := r.inFa hb; rw [hn] at hy; cases hy
    show (if b = a then some o else σ.hp b) = none
    rw [if_neg q]; exact r.apart b hb
  · have q : L ≠ a := fun q => by subst q; obtain ⟨_, y, _, _, hy, _⟩ := r.ff.mem hL; rw [hn] at hy; cases hy
    show (if L = a then some o else σ.hp L) = none
    rw [if_neg q]; exact r.fapart L hL
  · refine ⟨e'.keep, fun b p e => ?_, e'.ex, e'.tk, e'.pur⟩
    by_cases q : b = a
    · subst q; exact .inr hn
    · exact .inl ⟨p, by simpa [Hp.set, q] using e⟩
end
end Mine

namespace Mine
open PySem PySem.W PySem.Calls PyProof.Rows
section
variable {D : Wd} {c : Cx} {σ : St} {s : Shared} {α β : Type}

theorem post {R : Heap → β → α → Prop} {Q : β → St → Prop} {r : α} {b : β} {h' : Heap} {tk : Nat} (x : Rep D c σ s) (k : ∀ a o, s.heap.get? a = some o → h'.get? a = some o) (hr : R h' b r) (hq : Q b σ) :
    ∃ b σ', Rep D c σ' { s with heap := h', toks := tk } ∧ Ext c σ s σ' { s with heap := h', toks := tk } ∧ R h' b r ∧ Q b σ' :=
  ⟨b, σ, (x.grow k).1, (x.grow k).2, hr, hq⟩
theorem post0 {R : Heap → β → α → Prop} {Q : β → St → Prop} {r : α} {b : β} {tk : Nat} (x : Rep D c σ s) (hr : R s.heap b r) (hq : Q b σ) :
    ∃ b σ', Rep D c σ' { s with toks := tk } ∧ Ext c σ s σ' { s with toks := tk } ∧ R s.heap b r ∧ Q b σ' := post (h' := s.heap) x (fun _ _ e => e) hr hq
theorem post1 {R : Heap → β → α → Prop} {Q : β → St → Prop} {r : α} {b : β} (x : Rep D c σ s) (hr : R s.heap b r) (hq : Q b σ) :
    ∃ b σ', Rep D c σ' s ∧ Ext c σ s σ' s ∧ R s.heap b r ∧ Q b σ' := ⟨b, σ, x, Ext.refl .., hr, hq⟩
end

section
variable {D : Wd} {c : Cx} {σ : St} {s : Shared} {Q : AV → St → Prop}
theorem pI {i : Int} {t : Tok} {tk : Nat} (x : Rep D c σ s) (h : Q (.int i) σ) : ∃ b σ', Rep D c σ' { s with toks := tk } ∧ Ext c σ s σ' { s with toks := tk } ∧ VR s.heap b (.int i t) ∧ Q b σ' := post0 (b := AV.int i) (R := VR) x ⟨_, rfl⟩ h
theorem pS {i : Str} {t : Tok} {tk : Nat} (x : Rep D c σ s) (h : Q (.str i) σ) : ∃ b σ', Rep D c σ' { s with toks := tk } ∧ Ext c σ s σ' { s with toks := tk } ∧ VR s.heap b (.str i t) ∧ Q b σ' := post0 (b := AV.str i) (R := VR) x ⟨_, rfl⟩ h
theorem pY {i : Array UInt8} {t : Tok} {tk : Nat} (x : Rep D c σ s) (h : Q (.bytes i) σ) : ∃ b σ', Rep D c σ' { s with toks := tk } ∧ Ext c σ s σ' { s with toks := tk } ∧ VR s.heap b (.bytes i t) ∧ Q b σ' := post0 (b := AV.bytes i) (R := VR) x ⟨_, rfl⟩ h
theorem pB {i : Bool} (x : Rep D c σ s) (h : Q (.bool i) σ) : ∃ b σ', Rep D c σ' s ∧ Ext c σ s σ' s ∧ VR s.heap b (.bool i) ∧ Q b σ' := post1 (b := AV.bool i) (R := VR) x rfl h
theorem pBt {i : Bool} {tk : Nat} (x : Rep D c σ s) (h : Q (.bool i) σ) : ∃ b σ', Rep D c σ' { s with toks := tk } ∧ Ext c σ s σ' { s with toks := tk } ∧ VR s.heap b (.bool i) ∧ Q b σ' := post0 (b := AV.bool i) (R := VR) x rfl h
theorem pN (x : Rep D c σ s) (h : Q .none σ) : ∃ b σ', Rep D c σ' s ∧ Ext c σ s σ' s ∧ VR s.heap b .none ∧ Q b σ' := post1 (b := AV.none) (R := VR) x rfl h
theorem pF {v : Value} (x : Rep D c σ s) (h : Q (.stat v) σ) : ∃ b σ', Rep D c σ' s ∧ Ext c σ s σ' s ∧ VR s.heap b v ∧ Q b σ' := post1 (b := AV.stat v) (R := VR) x rfl h
end

/-! operations on one, two, three values -/
section
variable (D : Wd) (c : Cx) {α β : Type} (R : Heap → β → α → Prop)
noncomputable def TO1 (a : AV) (t : Value → Sem α) (σ : St) (Q : β → St → Prop) (X : Int → St → Prop) : Prop :=
  ∀ s u, Rep D c σ s → VR s.heap a u → wpAny (model D.prog D.w) c.A (t u) (fun r s' => ∃ b σ', Rep D c σ' s' ∧ Ext c σ s σ' s' ∧ R s'.heap b r ∧ Q b σ') (XP D c σ s X) s
noncomputable def TO2 (a b : AV) (t : Value → Value → Sem α) (σ : St) (Q : β → St → Prop) (X : Int → St → Prop) : Prop :=
  ∀ s u v, Rep D c σ s → VR s.heap a u → VR s.heap b v → wpAny (model D.prog D.w) c.A (t u v) (fun r s' => ∃ b σ', Rep D c σ' s' ∧ Ext c σ s σ' s' ∧ R s'.heap b r ∧ Q b σ') (XP D c σ s X) s
noncomputable def TO3 (a b e : AV) (t : Value → Value → Value → Sem α) (σ : St) (Q : β → St → Prop) (X : Int → St → Prop) : Prop :=
  ∀ s u v x, Rep D c σ s → VR s.heap a u → VR s.heap b v → VR s.heap e x → wpAny (model D.prog D.w) c.A (t u v x) (fun r s' => ∃ b σ', Rep D c σ' s' ∧ Ext c σ s σ' s' ∧ R s'.heap b r ∧ Q b σ') (XP D c σ s X) s
end

section
variable {D : Wd} {c : Cx} {σ : St} {Q : AV → St → Prop} {X : Int → St → Prop} {k : Nat} {pos : Pos}

theorem TE_none (h : Q .none σ) : TE D c (eval (.Constant .none k pos) c.env) σ Q X := fun _ r => wpAny_Constant_none (pN r h)
theorem TE_bool {b : Bool} (h : Q (.bool b) σ) : TE D c (eval (.Constant (.bool b) k pos) c.env) σ Q X := fun _ r => wpAny_Constant_bool (pB r h)
theorem TE_int {i : Int} (h : Q (.int i) σ) : TE D c (eval (.Constant (.int i) k pos) c.env) σ Q X := fun _ r => wpAny_Constant_int (pI r h)
theorem TE_str {x : Str} (h : Q (.str x) σ) : TE D c (eval (.Constant (.str x) k pos) c.env) σ Q X := fun _ r => wpAny_Constant_str (pS r h)
theorem TE_bytes {b : List UInt8} (h : Q (.bytes b.toArray) σ) : TE D c (eval (.Constant (.bytes b) k pos) c.env) σ Q X := fun s r => by
  show wpAny _ _ (mkTextBytes b.toArray) _ _ s
  exact wpAny_mkTextBytes (pY r h)

theorem TE_name {x : Str} {av : AV} (hv : σ.vars.lookup x = some av) (hk : c.env.kindOf x = some .local ∨ c.env.kindOf x = some .cell ∨ c.env.kindOf x = some .free) (h : Q av σ)
    (hd : (x == ("__debug__" : Str)) = false := by decide) (hn : (x == ("__classdict__" : Str)) = false := by decide) : TE D c (eval (.Name x pos) c.env) σ Q X := fun s r => by
  refine wpAny_Name ?_ hd
  rcases hk with hk | hk
  · obtain ⟨m, n, hl⟩ := r.fr.loc
    obtain ⟨v, hm, hv⟩ := hl x av hv hk
    exact wpAny_loadName_local r.ok.kind hk n hm (post1 r hv h)
  · obtain ⟨a, v, h1, h2, h3⟩ := r.fr.cell x av hv hk
    rcases hk with hk | hk
    · exact wpAny_loadName_cell r.ok.kind hk h1 h2 (post1 r h3 h)
    · exact wpAny_loadName_free r.ok.kind hk h1 h2 (post1 r h3 h) hn

theorem mg_of' {D : Wd} (st : Stat D) {n : Str} {v : Value} (e : nsIn D.K mainGlobals n = some (some v)) : D.mg n = some v := mg_of st.K st.g e
theorem TE_glob {x : Str} {v : Value} {av : AV} (hk : c.env.kindOf x = some .globalImplicit) (e : nsIn D.K mainGlobals x = some (some v)) (hv : ∀ h, VR h av v) (h : Q av σ)
    (hd : (x == ("__debug__" : Str)) = false := by decide) : TE D c (eval (.Name x pos) c.env) σ Q X := fun s r =>
  Name_function_global r.ok.kind hk (loadGlobal_global (mg := D.mg) (by rw [r.ok.glob]; exact r.st.g.keeps r.base) (mg_of' r.st e) (post1 r (hv _) h)) hd
theorem TE_boot {x : Str} {v : Value} (hk : c.env.kindOf x = some .globalImplicit) (e : nsIn D.K mainGlobals x = some none) (hv : bootBuiltins x = some v) (hn : x ≠ "__name__") (h : Q (.stat v) σ)
    (hd : (x == ("__debug__" : Str)) = false := by decide) : TE D c (eval (.Name x pos) c.env) σ Q X := fun s r =>
  Name_function_global r.ok.kind hk (loadGlobal_builtin (mg := D.mg) (mb := D.mb) (by rw [r.ok.glob]; exact r.st.g.keeps r.base) (mg_none_of r.st.K r.st.g e) (by rw [r.ok.blt]; exact r.st.b.keeps r.base)
    ((r.st.builtins x hn).trans hv) (pF r h)) hd

theorem TE_binop {l r : Expr} {op : Operator} (h : TE D c (eval l c.env) σ (fun a σ₁ => TE D c (eval r c.env) σ₁ (fun b σ₂ => TO2 D c VR a b (binaryOp op) σ₂ Q X) X) X) :
    TE D c (eval (.BinOp l op r pos) c.env) σ Q X := fun s x =>
  wpAny_BinOp (h.use x (Ext.refl ..) fun u s₁ a σ₁ r₁ _ e₁ v₁ q₁ => q₁.use r₁ e₁ fun v s₂ b σ₂ r₂ e₂ e₂' v₂ q₂ =>
    wpAny_mono (q₂ s₂ u v r₂ (v₁.mono e₂.tk) v₂) (fun y s₃ ⟨b, σ', z1, z2, z3, z4⟩ => ⟨b, σ', z1, e₂'.trans z2, z3, z4⟩) fun _ _ y => y.lift e₂')
theorem TE_cmp {l r : Expr} {op : CmpOp} (hm : behindInMarks op r = false) (h : TE D c (eval l c.env) σ (fun a σ₁ => TE D c (eval r c.env) σ₁ (fun b σ₂ => TO2 D c VR a b (compareOp op) σ₂ Q X) X) X) :
    TE D c (eval (.Compare l [op] [r] pos) c.env) σ Q X := fun s x =>
  wpAny_Compare1 (h.use x (Ext.refl ..) fun u s₁ a σ₁ r₁ _ e₁ v₁ q₁ => q₁.use r₁ e₁ fun v s₂ b σ₂ r₂ e₂ e₂' v₂ q₂ =>
    wpAny_mono (q₂ s₂ u v r₂ (v₁.mono e₂.tk) v₂) (fun y s₃ ⟨b, σ', z1, z2, z3, z4⟩ => ⟨b, σ', z1, e₂'.trans z2, z3, z4⟩) fun _ _ y => y.lift e₂') hm
theorem TE_not {e : Expr} (h : TE D c (eval e c.env) σ (fun a σ₁ => ∃ b, a = .bool b ∧ Q (.bool (!b)) σ₁) X) : TE D c (eval (.UnaryOp .Not e pos) c.env) σ Q X := fun s x =>
  wpAny_UnaryOp (h.use x (Ext.refl ..) fun u s₁ a σ₁ r₁ _ e₁ v₁ q₁ => by
    obtain ⟨b, rfl, q⟩ := q₁
    have : u = .bool b := v₁
    subst this
    exact not_of (wpAny_truthy_bool ⟨.bool (!b), _, r₁, e₁, rfl, q⟩))
theorem TE_and {x y : Expr} (h : TE D c (eval x c.env) σ (fun a σ₁ => ∃ b, a = .bool b ∧ (b = true → TE D c (eval y c.env) σ₁ Q X) ∧ (b = false → Q (.bool false) σ₁)) X) : TE D c (eval (.BoolOp .And [x, y] pos) c.env) σ Q X := fun s z =>
  wpAny_And2 (h.use z (Ext.refl ..) fun u s₁ a σ₁ r₁ _ e₁ v₁ q₁ => by
    obtain ⟨b, rfl, q, q'⟩ := q₁
    have : u = .bool b := v₁
    subst this
    refine wpAny_truthy_bool ?_
    cases b with
    | true => exact (q rfl).use r₁ e₁ fun v s₂ b σ₂ r₂ e₂ e₂' v₂ q₂ => ⟨_, _, r₂, e₂', v₂, q₂⟩
    | false => exact ⟨.bool false, _, r₁, e₁, rfl, q' rfl⟩)
theorem TE_ifexp {t b o : Expr} (h : TB D c (isTrue t c.env (eval t c.env)) σ (fun v σ₁ => (v = true → TE D c (eval b c.env) σ₁ Q X) ∧ (v = false → TE D c (eval o c.env) σ₁ Q X)) X) : TE D c (eval (.IfExp t b o pos) c.env) σ Q X := fun s z =>
  wpAny_IfExp (h.use z (Ext.refl ..) fun u s₁ a σ₁ r₁ _ e₁ v₁ q₁ => by
    have : a = u := v₁
    subst this
    cases a with
    | true => exact (q₁.1 rfl).use r₁ e₁ fun v s₂ b σ₂ r₂ e₂ e₂' v₂ q₂ => ⟨_, _, r₂, e₂', v₂, q₂⟩
    | false => exact (q₁.2 rfl).use r₁ e₁ fun v s₂ b σ₂ r₂ e₂ e₂' v₂ q₂ => ⟨_, _, r₂, e₂', v₂, q₂⟩)
end

/-! tests -/
section
variable {D : Wd} {c : Cx} {σ : St} {Q : Bool → St → Prop} {X : Int → St → Prop} {pos : Pos} {whole : Sem Value}
theorem TB_not {e : Expr} (h : TB D c (isTrue e c.env (eval e c.env)) σ (fun b σ₁ => Q (!b) σ₁) X) : TB D c (isTrue (.UnaryOp .Not e pos) c.env whole) σ Q X := fun s x =>
  wpAny_isTrue_Not (h.use x (Ext.refl ..) fun u s₁ a σ₁ r₁ _ e₁ v₁ q₁ => by
    have : a = u := v₁
    subst this
    exact ⟨_, _, r₁, e₁, rfl, q₁⟩)
theorem TB_cmp {l r : Expr} {op : CmpOp} (hm : behindInMarks op r = false) (h : TE D c (eval l c.env) σ (fun a σ₁ => TE D c (eval r c.env) σ₁ (fun b σ₂ => TO2 D c VR a b (compareOp op) σ₂ (fun v σ₃ => ∃ b, v = .bool b ∧ Q b σ₃) X) X) X) :
    TB D c (isTrue (.Compare l [op] [r] pos) c.env whole) σ Q X := fun s x =>
  wpAny_isTrue_Compare1 (h.use x (Ext.refl ..) fun u s₁ a σ₁ r₁ _ e₁ v₁ q₁ => q₁.use r₁ e₁ fun v s₂ b σ₂ r₂ e₂ e₂' v₂ q₂ =>
    wpAny_mono (q₂ s₂ u v r₂ (v₁.mono e₂.tk) v₂) (fun y s₃ ⟨b, σ', z1, z2, z3, z4⟩ => by
      obtain ⟨b', rfl, q⟩ := z4
      have : y = .bool b' := z3
      subst this
      exact wpAny_truthy_bool ⟨b', σ', z1, e₂'.trans z2, rfl, q⟩) fun _ _ y => y.lift e₂') hm
theorem TB_bool {op : BoolOp} {l : List Expr} (h : TB D c (allTrue op l c.env) σ Q X) : TB D c (isTrue (.BoolOp op l pos) c.env whole) σ Q X := fun s x => wpAny_isTrue_BoolOp (h s x)
theorem TB_and_nil (h : Q true σ) : TB D c (allTrue .And [] c.env) σ Q X := fun s x => wpAny_allTrue_And_nil (post1 x rfl h)
theorem TB_or_nil (h : Q false σ) : TB D c (allTrue .Or [] c.env) σ Q X := fun s x => wpAny_allTrue_Or_nil (post1 x rfl h)
theorem TB_and {e : Expr} {l : List Expr} (h : TB D c (isTrue e c.env (eval e c.env)) σ (fun b σ₁ => (b = true → TB D c (allTrue .And l c.env) σ₁ Q X) ∧ (b = false → Q false σ₁)) X) : TB D c (allTrue .And (e :: l) c.env) σ Q X := fun s x =>
  wpAny_allTrue_And_cons (h.use x (Ext.refl ..) fun u s₁ a σ₁ r₁ _ e₁ v₁ q₁ => by
    have : a = u := v₁
    subst this
    cases a with
    | true => exact (q₁.1 rfl).use r₁ e₁ fun v s₂ b σ₂ r₂ e₂ e₂' v₂ q₂ => ⟨_, _, r₂, e₂', v₂, q₂⟩
    | false => exact ⟨_, _, r₁, e₁, rfl, q₁.2 rfl⟩)
theorem TB_or {e : Expr} {l : List Expr} (h : TB D c (isTrue e c.env (eval e c.env)) σ (fun b σ₁ => (b = true → Q true σ₁) ∧ (b = false → TB D c (allTrue .Or l c.env) σ₁ Q X)) X) : TB D c (allTrue .Or (e :: l) c.env) σ Q X := fun s x =>
  wpAny_allTrue_Or_cons (h.use x (Ext.refl ..) fun u s₁ a σ₁ r₁ _ e₁ v₁ q₁ => by
    have : a = u := v₁
    subst this
    cases a with
    | false => exact (q₁.2 rfl).use r₁ e₁ fun v s₂ b σ₂ r₂ e₂ e₂' v₂ q₂ => ⟨_, _, r₂, e₂', v₂, q₂⟩
    | true => exact ⟨_, _, r₁, e₁, rfl, q₁.1 rfl⟩)
/-- any other expression -/
theorem TB_val {e : Expr} (he : ∀ env w, isTrue e env w = (do let v ← w; standAt e.pos; holding [v] (truthy v))) {whole : Sem Value} (h : TE D c whole σ (fun a σ₁ => ∃ b, a = .bool b ∧ Q b σ₁) X) : TB D c (isTrue e c.env whole) σ Q X := fun s x =>
  wpAny_isTrue_value (h.use x (Ext.refl ..) fun u s₁ a σ₁ r₁ _ e₁ v₁ q₁ => by
    obtain ⟨b, rfl, q⟩ := q₁
    have : u = .bool b := v₁
    subst this
    exact wpAny_truthy_bool ⟨_, _, r₁, e₁, rfl, q⟩) (he _ _)
end

/-! ints -/
section
variable {D : Wd} {c : Cx} {σ : St} {Q : AV → St → Prop} {X : Int → St → Prop} {a b : Int}
theorem O_add (h : Q (.int (a + b)) σ) : TO2 D c VR (.int a) (.int b) (binaryOp .Add) σ Q X := fun s u v r ⟨_, e⟩ ⟨_, e'⟩ => by subst e e'; exact add_int (pI r h)
theorem O_sub (h : Q (.int (a - b)) σ) : TO2 D c VR (.int a) (.int b) (binaryOp .Sub) σ Q X := fun s u v r ⟨_, e⟩ ⟨_, e'⟩ => by subst e e'; exact sub_int (pI r h)
theorem O_mod (hb : b ≠ 0) (h : Q (.int (a.fmod b)) σ) : TO2 D c VR (.int a) (.int b) (binaryOp .Mod) σ Q X := fun s u v r ⟨_, e⟩ ⟨_, e'⟩ => by subst e e'; exact mod_int' hb (pI r h)
theorem O_div (hb : b ≠ 0) (hp : Builtin.divisionGoesByPylong a b = false) (h : Q (.int (a.fdiv b)) σ) : TO2 D c VR (.int a) (.int b) (binaryOp .FloorDiv) σ Q X := fun s u v r ⟨_, e⟩ ⟨_, e'⟩ => by
  subst e e'; exact floordiv_int hb (pI r h) (.inl hp)
theorem O_eq (h : Q (.bool (a == b)) σ) : TO2 D c VR (.int a) (.int b) (compareOp .Eq) σ Q X := fun s u v r ⟨_, e⟩ ⟨_, e'⟩ => by subst e e'; exact eq_int (pB r h)
theorem O_ne (h : Q (.bool (a != b)) σ) : TO2 D c VR (.int a) (.int b) (compareOp .NotEq) σ Q X := fun s u v r ⟨_, e⟩ ⟨_, e'⟩ => by subst e e'; exact ne_int (pB r h)
theorem O_lt (h : Q (.bool (decide (a < b))) σ) : TO2 D c VR (.int a) (.int b) (compareOp .Lt) σ Q X := fun s u v r ⟨_, e⟩ ⟨_, e'⟩ => by subst e e'; exact lt_int (pB r h)
theorem O_le (h : Q (.bool (decide (a ≤ b))) σ) : TO2 D c VR (.int a) (.int b) (compareOp .LtE) σ Q X := fun s u v r ⟨_, e⟩ ⟨_, e'⟩ => by subst e e'; exact le_int (pB r h)
theorem O_ge (h : Q (.bool (decide (b ≤ a))) σ) : TO2 D c VR (.int a) (.int b) (compareOp .GtE) σ Q X := fun s u v r ⟨_, e⟩ ⟨_, e'⟩ => by subst e e'; exact ge_int (pB r h)
theorem O_gt (h : Q (.bool (decide (b < a))) σ) : TO2 D c VR (.int a) (.int b) (compareOp .Gt) σ Q X := fun s u v r ⟨_, e⟩ ⟨_, e'⟩ => by subst e e'; exact gt_int (pB r h)
end
end Mine

namespace Mine
open PySem PySem.W PySem.Calls PyProof.Rows
theorem ns_unique {h : Heap} {a : Addr} {m m' : Str → Option Value} (x : h.Ns a m) (y : h.Ns a m') : m = m' := by
  obtain ⟨o, es, ep, e1, e2, _, e3⟩ := x
  obtain ⟨o', es', ep', f1, f2, _, f3⟩ := y
  rw [e1] at f1; cases f1
  rw [e2] at f2; cases f2
  funext z; rw [← e3, ← f3]

section
variable {D : Wd} {c : Cx} {σ : St} {s : Shared} {h' : Heap} {tk : Nat} {m : Str → Option Value}

/-- the frame's own names are known as names alone; one object may turn or be new -/
theorem Rep.step (r : Rep D c σ s) (hp : c.pur = false) (n : s.heap.Ns c.env.locals m) (n' : h'.Ns c.env.locals m) {a : Addr} {o' : AO} {ob' : Obj}
    (k : ∀ b o, b ≠ a → b ≠ c.env.locals → s.heap.get? b = some o → h'.get? b = some o) (ha : h'.get? a = some ob') (ok : OR D.prog D.w s.heap o' ob') (old : (∃ o, σ.hp a = some o) ∨ s.heap.get? a = none) (nm : ∀ kvs, o' = .dict kvs → a ≠ sysModules) :
    Rep D c { σ with hp := σ.hp.set a o' } { s with heap := h', toks := tk } ∧ Ext c σ s { σ with hp := σ.hp.set a o' } { s with heap := h', toks := tk } := by
  have La : c.env.locals ≠ a := fun q => by
    rcases old with ⟨o, ho⟩ | hn
    · rw [← q, r.apart _ (List.mem_cons_self ..)] at ho; cases ho
    · obtain ⟨y, hy⟩ := r.inFa (List.mem_cons_self ..); rw [q, hn] at hy; cases hy
  have na : ∀ b ∈ fa c.env, b ≠ a := fun b hb q => by
    subst q
    rcases old with ⟨o, ho⟩ | hn
    · rw [r.apart _ hb] at ho; cases ho
    · obtain ⟨y, hy⟩ := r.inFa hb; rw [hn] at hy; cases hy
  have nfr : ∀ L ∈ c.frames.filterMap (·.frame), L ≠ a := fun L hL q => by
    subst q
    rcases old with ⟨o, ho⟩ | hn
    · rw [r.fapart _ hL] at ho; cases ho
    · obtain ⟨_, y, _, _, hy, _⟩ := r.ff.mem hL; rw [hn] at hy; cases hy
  have nb : D.base.get? a = none := by
    rcases old with ⟨o, ho⟩ | hn
    · exact r.fresh _ _ ho
    · cases z : D.base.get? a with
      | none => rfl
      | some y => rw [r.base a y z] at hn; cases hn
  have nbL : D.base.get? c.env.locals = none := r.baseA _ (List.mem_cons_self ..)
  have nt : ∀ vs, s.heap.get? a ≠ some { cls := .type "tuple", data := .seq vs } := fun vs e => by
    rcases old with ⟨o, ho⟩ | hn
    · obtain ⟨ob, hob, okb⟩ := r.hp a o ho
      rw [hob] at e; exact okb.notTuple.1 vs (Option.some.inj e)
    · rw [hn] at e; cases e
  obtain ⟨oL, esL, epL, hL, hLd, hLr⟩ := n
  obtain ⟨oL', esL', epL', hL', hLd', hLr'⟩ := n'
  have t : TK s.heap h' := fun b vs e => by
    by_cases q : b = a
    · subst q; exact absurd e (nt vs)
    · by_cases q' : b = c.env.locals
      · subst q'; rw [hL] at e; cases e; cases hLd
      · exact k b _ q q' e
  have exi : ∀ b o, s.heap.get? b = some o → ∃ o', h'.get? b = some o' := fun b o e => by
    by_cases q : b = a
    · subst q; exact ⟨_, ha⟩
    · by_cases q' : b = c.env.locals
      · subst q'; exact ⟨_, hL'⟩
      · exact ⟨_, k b o q q' e⟩
  have cl : ∀ p ∈ c.env.cells, ∀ v, s.heap.IsCell p.2 v → h'.IsCell p.2 v := fun p hp v ⟨o, e, d⟩ =>
    ⟨o, k _ o (na _ (List.mem_cons_of_mem _ (List.mem_map.mpr ⟨p, hp, rfl⟩))) (fun q => r.ok.locals (q ▸ List.mem_map.mpr ⟨p, hp, rfl⟩)) e, d⟩
  refine ⟨⟨r.st, r.ok, fun b p e => ?_, fun b p e => ?_, fun b hb => ?_, ⟨?_, ?_, ?_⟩, fun b p e => ?_, r.baseA, ?_, ?_, fun L hL => ?_, nmSet r.nm nm⟩, ?_⟩
  · by_cases q : b = a
    · subst q
      have : o' = p := by simpa [Hp.set] using e
      subst this
      exact ⟨ob', ha, ok.mono t⟩
    · have e' : σ.hp b = some p := by simpa [Hp.set, q] using e
      obtain ⟨x, e1, e2⟩ := r.hp b p e'
      exact ⟨x, k b x q (fun z => by subst z; rw [r.apart _ (List.mem_cons_self ..)] at e'; cases e') e1, e2.mono t⟩
  · by_cases q : b = a
    · subst q; exact nb
    · exact r.fresh b p (by simpa [Hp.set, q] using e)
  · have q := na b hb
    show (if b = a then some o' else σ.hp b) = none
    rw [if_neg q]; exact r.apart b hb
  · obtain ⟨m', n2, hl⟩ := r.fr.loc
    obtain rfl := ns_unique n2 ⟨oL, esL, epL, hL, hLd, hLr⟩
    exact ⟨m', ⟨oL', esL', epL', hL', hLd', hLr'⟩, fun x av e1 e2 => let ⟨v, h1, h2⟩ := hl x av e1 e2; ⟨v, h1, h2.mono t⟩⟩
  · intro x av e1 e2
    obtain ⟨b, v, h1, h2, h3⟩ := r.fr.cell x av e1 e2
    exact ⟨b, v, h1, cl (x, b) (mem_of_lookup h1) _ h2, h3.mono t⟩
  · intro p hp
    obtain ⟨v, hv⟩ := r.fr.cells p hp
    exact ⟨v, cl p hp v hv⟩
  · exact k b p (fun q => by subst q; rw [nb] at e; cases e) (fun q => by subst q; rw [nbL] at e; cases e) (r.base b p e)
  · obtain ⟨h, t, e⟩ := r.same; exact ⟨h', tk, by rw [e]⟩
  · refine r.ff.keep fun L hL o e es ep d => ?_
    by_cases z : L = c.env.locals
    · subst z; exact ⟨oL', esL', epL', hL', hLd'⟩
    · exact ⟨o, es, ep, k L o (nfr L hL) z e, d⟩
  · have q := nfr L hL
    show (if L = a then some o' else σ.hp L) = none
    rw [if_neg q]; exact r.fapart L hL
  · refine ⟨fun b p e hb nfa => ?_, fun b p e => ?_, exi, t, fun q => by rw [hp] at q; cases q⟩
    · by_cases q : b = a
      · subst q
        rcases old with ⟨o, ho⟩ | hn
        · rw [ho] at hb; cases hb
        · rw [hn] at e; cases e
      · exact ⟨p.slots, k b p q (fun z => nfa (z ▸ List.mem_cons_self ..)) e⟩
    · by_cases q : b = a
      · subst q
        exact old
      · exact .inl ⟨p, by simpa [Hp.set, q] using e⟩

/-- the same, nothing turned -/
theorem Rep.stepG (r : Rep D c σ s) (hp : c.pur = false) (n : s.heap.Ns c.env.locals m) (n' : h'.Ns c.env.locals m)
    (k : ∀ b o, b ≠ c.env.locals → s.heap.get? b = some o → h'.get? b = some o) :
    Rep D c σ { s with heap := h', toks := tk } ∧ Ext c σ s σ { s with heap := h', toks := tk } := by
  have nbL : D.base.get? c.env.locals = none := r.baseA _ (List.mem_cons_self ..)
  obtain ⟨oL, esL, epL, hL, hLd, hLr⟩ := n
  obtain ⟨oL', esL', epL', hL', hLd', hLr'⟩ := n'
  have t : TK s.heap h' := fun b vs e => by
    by_cases q' : b = c.env.locals
    · subst q'; rw [hL] at e; cases e; cases hLd
    · exact k b _ q' e
  have exi : ∀ b o, s.heap.get? b = some o → ∃ o', h'.get? b = some o' := fun b o e => by
    by_cases q' : b = c.env.locals
    · subst q'; exact ⟨_, hL'⟩
    · exact ⟨_, k b o q' e⟩
  have cl : ∀ p ∈ c.env.cells, ∀ v, s.heap.IsCell p.2 v → h'.IsCell p.2 v := fun p hp v ⟨o, e, d⟩ =>
    ⟨o, k _ o (fun q => r.ok.locals (q ▸ List.mem_map.mpr ⟨p, hp, rfl⟩)) e, d⟩
  refine ⟨⟨r.st, r.ok, fun b p e => ?_, r.fresh, r.apart, ⟨?_, ?_, ?_⟩, fun b p e => ?_, r.baseA, ?_, ?_, r.fapart, r.nm⟩, ?_⟩
  · obtain ⟨x, e1, e2⟩ := r.hp b p e
    exact ⟨x, k b x (fun z => by subst z; rw [r.apart _ (List.mem_cons_self ..)] at e; cases e) e1, e2.mono t⟩
  · obtain ⟨m', n2, hl⟩ := r.fr.loc
    obtain rfl := ns_unique n2 ⟨oL, esL, epL, hL, hLd, hLr⟩
    exact ⟨m', ⟨oL', esL', epL', hL', hLd', hLr'⟩, fun x av e1 e2 => let ⟨v, h1, h2⟩ := hl x av e1 e2; ⟨v, h1, h2.mono t⟩⟩
  · intro x av e1 e2
    obtain ⟨b, v, h1, h2, h3⟩ := r.fr.cell x av e1 e2
    exact ⟨b, v, h1, cl (x, b) (mem_of_lookup h1) _ h2, h3.mono t⟩
  · intro p hp
    obtain ⟨v, hv⟩ := r.fr.cells p hp
    exact ⟨v, cl p hp v hv⟩
  · exact k b p (fun q => by subst q; rw [nbL] at e; cases e) (r.base b p e)
  · obtain ⟨h, t, e⟩ := r.same; exact ⟨h', tk, by rw [e]⟩
  · refine r.ff.keep fun L hL o e es ep d => ?_
    by_cases z : L = c.env.locals
    · subst z; exact ⟨oL', esL', epL', hL', hLd'⟩
    · exact ⟨o, es, ep, k L o z e, d⟩
  · exact ⟨fun b p e hb nfa => ⟨p.slots, k b p (fun z => nfa (z ▸ List.mem_cons_self ..)) e⟩, fun b p e => .inl ⟨p, e⟩, exi, t, fun q => by rw [hp] at q; cases q⟩

/-! the library's rules that speak of a frame and a ledger: a frame upon an empty base, a ledger of all that stands -/
noncomputable def nil : Heap := { objs := #[] }
theorem nil_get (a : Addr) : nil.get? a = none := by simp [nil, Heap.get?]
noncomputable def allBut (h : Heap) (p : Addr → Bool) : List (Addr × Obj) := (List.range h.objs.size).filterMap fun a => if p a then none else (h.get? a).map fun o => (a, o)
theorem mem_allBut {h : Heap} {p : Addr → Bool} {a : Addr} {o : Obj} (e : h.get? a = some o) (n : p a = false) : (a, o) ∈ allBut h p :=
  List.mem_filterMap.mpr ⟨a, List.mem_range.mpr (Heap.lt_size e), by rw [n, e]; rfl⟩
theorem of_allBut {h : Heap} {p : Addr → Bool} {x : Addr × Obj} (e : x ∈ allBut h p) : h.get? x.1 = some x.2 ∧ p x.1 = false := by
  obtain ⟨a, _, q⟩ := List.mem_filterMap.mp e
  cases z : p a with
  | true => rw [z] at q; cases q
  | false =>
    rw [z] at q
    cases y : h.get? a with
    | none => rw [y] at q; cases q
    | some o => rw [y] at q; cases q; exact ⟨y, z⟩
theorem frAll {h : Heap} {L : Addr} {m : Str → Option Value} (n : h.Ns L m) : Fr nil L h m := ⟨n, fun b o e => (by rw [nil_get] at e; cases e), Nat.zero_le _⟩
theorem newsAll {h : Heap} {L : Addr} : News nil L h (allBut h fun a => a == L) := fun x hx => by
  obtain ⟨a, b⟩ := of_allBut hx
  exact ⟨a, by simpa using b, nil_get _⟩
theorem newsAt {h : Heap} {L a : Addr} {o : Obj} (ha : h.get? a = some o) (n : a ≠ L) : News nil L h ((a, o) :: allBut h fun b => b == L || b == a) := fun x hx => by
  rcases List.mem_cons.mp hx with rfl | hx
  · exact ⟨ha, n, nil_get _⟩
  · obtain ⟨a, b⟩ := of_allBut hx
    simp only [Bool.or_eq_false_iff, beq_eq_false_iff_ne] at b
    exact ⟨a, b.1, nil_get _⟩
theorem newsAt_ne {h : Heap} {L a : Addr} : ∀ p ∈ allBut h (fun b => b == L || b == a), p.1 ≠ a := fun p hp => by
  have := (of_allBut hp).2
  simp only [Bool.or_eq_false_iff, beq_eq_false_iff_ne] at this
  exact this.2
theorem kept_of {h h' : Heap} {L a : Addr} {o : Obj} (N : News nil L h' ((a, o) :: allBut h fun b => b == L || b == a)) : ∀ b x, b ≠ a → b ≠ L → h.get? b = some x → h'.get? b = some x := fun b x n1 n2 e =>
  (N (b, x) (List.mem_cons_of_mem _ (mem_allBut e (by simp [n1, n2])))).1
theorem kept_ofAll {h h' : Heap} {L : Addr} {l : List (Addr × Obj)} (N : News nil L h' l) (hl : ∀ p ∈ allBut h (fun b => b == L), p ∈ l) : ∀ b x, b ≠ L → h.get? b = some x → h'.get? b = some x := fun b x n2 e =>
  (N (b, x) (hl _ (mem_allBut e (by simp [n2])))).1
end
end Mine

namespace Mine
open PySem PySem.W PySem.Calls PyProof.Rows
/-! attributes -/
noncomputable def nsPut (x : Str) (v : AV) : List (Str × AV) → List (Str × AV)
  | [] => [(x, v)]
  | p :: r => if p.1 = x then (x, v) :: r else p :: nsPut x v r
theorem NSR.length {h : Heap} : ∀ {l : List (Str × AV)} {es : List DictEntry}, NSR h l es → es.length = l.length
  | [], _, e => by cases e; rfl
  | _ :: _, _, ⟨v, r, t, e, q, a, b⟩ => by subst e; simp [NSR.length b]
theorem NSR.find {h : Heap} {x : Str} {av : AV} : ∀ {l : List (Str × AV)} {es : List DictEntry}, NSR h l es → l.lookup x = some av → ∃ e, es.find? (·.key.isStr x) = some e ∧ VR h av e.val
  | [], _, e, q => by cases q
  | p :: l, _, ⟨e, r, t, e0, k, a, b⟩, q => by
    subst e0
    rw [List.lookup_cons] at q
    rw [List.find?_cons]
    have ki : e.key.isStr x = (x == p.1) := by rw [k]; show (p.1 == x) = (x == p.1); exact BEq.comm
    rw [ki]
    cases z : x == p.1 with
    | true => rw [z] at q; cases q; exact ⟨e, rfl, a⟩
    | false => rw [z] at q; exact b.find q
theorem NSR.miss {h : Heap} {x : Str} : ∀ {l : List (Str × AV)} {es : List DictEntry}, NSR h l es → l.lookup x = none → es.find? (·.key.isStr x) = none
  | [], _, e, q => by cases e; rfl
  | p :: l, _, ⟨e, r, t, e0, k, a, b⟩, q => by
    subst e0
    rw [List.lookup_cons] at q
    rw [List.find?_cons]
    have ki : e.key.isStr x = (x == p.1) := by rw [k]; show (p.1 == x) = (x == p.1); exact BEq.comm
    rw [ki]
    cases z : x == p.1 with
    | true => rw [z] at q; cases q
    | false => rw [z] at q; exact b.miss q
theorem NSR.noRef {h : Heap} : ∀ {l : List (Str × AV)} {es : List DictEntry}, NSR h l es → es.any (·.refKey) = false
  | [], _, e => by cases e; rfl
  | p :: l, _, ⟨e, r, t, e0, k, a, b⟩ => by
    subst e0
    rw [List.any_cons, b.noRef, Bool.or_false]
    unfold DictEntry.refKey; rw [k]
theorem NSR.gets {h : Heap} {x : Str} {av : AV} {l : List (Str × AV)} {es : List DictEntry} (n : NSR h l es) (q : l.lookup x = some av) : ∃ v, getL x es = some (some v) ∧ VR h av v := by
  obtain ⟨e, e1, e2⟩ := n.find q
  exact ⟨e.val, by unfold PySem.W.getL; rw [e1], e2⟩
theorem NSR.gets_none {h : Heap} {x : Str} {l : List (Str × AV)} {es : List DictEntry} (n : NSR h l es) (q : l.lookup x = none) : getL x es = some none := by
  unfold PySem.W.getL; rw [n.miss q, n.noRef]; rfl
theorem NSR.put {h : Heap} {x : Str} {av : AV} {v : Value} {hsh : Int} {t : Tok} (a : VR h av v) : ∀ {l : List (Str × AV)} {es : List DictEntry}, NSR h l es → NSR h (nsPut x av l) (putL x hsh (.str x t) v es)
  | [], _, e => by cases e; exact ⟨_, [], t, rfl, rfl, a, rfl⟩
  | p :: l, _, ⟨e, r, t', e0, k, a', b⟩ => by
    subst e0
    unfold nsPut putL
    have ki : e.key.isStr x = (p.1 == x) := by rw [k]; rfl
    by_cases z : p.1 = x
    · rw [if_pos z, if_pos (by rw [ki]; exact beq_iff_eq.mpr z)]
      exact ⟨_, r, t', rfl, by rw [← z]; exact k, a, b⟩
    · rw [if_neg z, if_neg (by rw [ki]; exact fun y => z (beq_iff_eq.mp y))]
      exact ⟨e, _, t', rfl, k, a', b.put a⟩
theorem nsPut_length (x : Str) (v : AV) : ∀ l, (nsPut x v l).length ≤ l.length + 1
  | [] => Nat.le_refl _
  | p :: l => by
    unfold nsPut
    split
    · simp
    · simp only [List.length_cons]; have := nsPut_length x v l; omega

/-- the class says nothing of the name -/
structure SA (D : Wd) (C : Addr) (name : Str) : Prop where
  get : plainGet D.K C name = true
  dict : hasDictIn D.K C = true
  none : findIn D.K (.ref C) name = some none
structure SS (D : Wd) (C : Addr) (name : Str) : Prop where
  set : findIn D.K (.ref C) "__setattr__" = some (some (.builtin "object.__setattr__"))
  over : plainOver D.K C = true
  taker : takerIn D.K C name = some none
  dict : hasDictIn D.K C = true
noncomputable def AV.plain : AV → Bool
  | .stat _ => false
  | _ => true
theorem VR.handed {h : Heap} {av : AV} {v : Value} (x : VR h av v) (p : av.plain = true) : handedIn v = true := by
  cases av with
  | none => cases x; rfl
  | bool => cases x; rfl
  | int => obtain ⟨t, rfl⟩ := x; rfl
  | str => obtain ⟨t, rfl⟩ := x; rfl
  | bytes => obtain ⟨t, rfl⟩ := x; rfl
  | obj => cases x; rfl
  | stat => cases p
  | tup => obtain ⟨a, vs, rfl, _⟩ := x; rfl

section
variable {D : Wd} {c : Cx} {σ : St} {s : Shared} {x d C : Addr} {l : List (Str × AV)}
theorem Rep.inst (r : Rep D c σ s) (hx : σ.hp x = some (.inst C d)) (hd : σ.hp d = some (.ns l)) :
    ∃ ox es n, ox.dict = some d ∧ InstAt s.heap x ox C (some (dictOf es n)) ∧ s.heap.get? d = some (dictOf es n) ∧ NSR s.heap l es := by
  obtain ⟨ox, e1, sl, rfl⟩ := r.hp x _ hx
  obtain ⟨od, e2, es, n, rfl, ns⟩ := r.hp d _ hd
  exact ⟨_, es, n, rfl, ⟨e1, rfl, rfl, e2⟩, e2, ns⟩
theorem Rep.K (r : Rep D c σ s) : D.K.In s.heap := r.st.K.keeps r.base

variable {Q : AV → St → Prop} {X : Int → St → Prop} {pos : Pos} {name : Str}
theorem TE_attr {e : Expr} (hb : attributeBase e name c.env (eval e c.env) = eval e c.env) (h : TE D c (eval e c.env) σ (fun a σ₁ => TO1 D c VR a (fun u => getAttr u name true) σ₁ Q X) X) : TE D c (eval (.Attribute e name pos) c.env) σ Q X := fun s z => by
  rw [arm_eval_Attribute, hb]
  refine wpAny_bind (h.use z (Ext.refl ..) fun u s₁ a σ₁ r₁ _ e₁ v₁ q₁ => wpAny_bind (wpAny_standAt (wpAny_bind (wpAny_holding (wpAny_mono (q₁ s₁ u r₁ v₁) (fun y s₂ p => wpAny_bind (wpAny_letTemporaryGo (wpAny_pure ?_))) fun _ _ y => y.lift e₁)))))
  obtain ⟨b, σ', z1, z2, z3, z4⟩ := p
  exact ⟨b, σ', z1, e₁.trans z2, z3, z4⟩
theorem O_attr {av : AV} (hx : σ.hp x = some (.inst C d)) (hd : σ.hp d = some (.ns l)) (hl : l.lookup name = some av) (sa : SA D C name) (hp : av.plain = true) (h : Q av σ) : TO1 D c VR (.obj x) (fun u => getAttr u name true) σ Q X := fun s u r e => by
  have e' : u = .ref x := e
  subst e'
  obtain ⟨ox, es, n, o1, o2, o3, o4⟩ := r.inst hx hd
  obtain ⟨v, g, hv⟩ := o4.gets hl
  exact get_value r.K o2 (plainGet_of sa.get).1 (findObj_own sa.dict sa.none rfl g) (hv.handed hp) (post0 r hv h)
theorem O_setattr {Q : Unit → St → Prop} {av : AV} (hpu : c.pur = false) (hx : σ.hp x = some (.inst C d)) (hd : σ.hp d = some (.ns l)) (ss : SS D C name) (hz : l.length ≤ 900) (h : Q () { σ with hp := σ.hp.set d (.ns (nsPut name av l)) }) :
    TO2 D c EqR (.obj x) av (fun u v => setAttr u name v) σ Q X := fun s u v r e hv => by
  have e' : u = .ref x := e
  subst e'
  obtain ⟨ox, es, n, o1, o2, o3, o4⟩ := r.inst hx hd
  obtain ⟨m, hm, _⟩ := r.fr.loc
  have nL : d ≠ c.env.locals := fun q => by subst q; rw [r.apart _ (List.mem_cons_self ..)] at hd; cases hd
  have gl : (getL name es).isSome = true := by
    cases q : l.lookup name with
    | none => rw [o4.gets_none q]; rfl
    | some a => obtain ⟨v, g, _⟩ := o4.gets q; rw [g]; rfl
  have o5 : NSR s.heap (nsPut name av l) (putL name (PyData.keyHash D.w.params name) (.str name (s.toks + 1)) v es) := o4.put hv
  have hlen := o5.length
  have hz' : (putL name (PyData.keyHash D.w.params name) (.str name (s.toks + 1)) v es).length ≤ 1000 := by
    have := nsPut_length name av l
    omega
  refine set_plain r.K o2 ss.set (osa_dict (s := { s with toks := s.toks + 1 }) (L := c.env.locals) (m := m) (pre := []) (post := allBut s.heap fun b => b == c.env.locals || b == d) (frAll hm) (newsAt o3 nL) r.K o2 o1 ss.over ss.taker ss.dict gl
    (fun p hp => (nomatch hp)) newsAt_ne (by rw [putName_dict]) rfl hz' fun h' F' N' => ?_)
  have N'' : News nil c.env.locals h' ((d, dictOf (putL name (PyData.keyHash D.w.params name) (.str name (s.toks + 1)) v es) (putN name es n)) :: allBut s.heap fun b => b == c.env.locals || b == d) := N'
  obtain ⟨a1, a2⟩ := r.step (tk := s.toks + 2) hpu hm F'.ns (kept_of N'') (N'' _ (List.mem_cons_self ..)).1 (o' := .ns (nsPut name av l)) ⟨_, _, rfl, o5⟩ (.inl ⟨_, hd⟩) (fun _ h => (nomatch h))
  exact ⟨(), _, a1, a2, rfl, h⟩
end
end Mine

namespace Mine
open PySem PySem.W PySem.Calls PyProof.Rows
/-! names stored -/
section
variable {D : Wd} {c : Cx} {σ : St} {s : Shared} {x : Str} {av : AV}
noncomputable def St.put (σ : St) (x : Str) (av : AV) : St := { σ with vars := (x, av) :: σ.vars }

theorem storeFr {D : Wd} {c : Cx} {σ : St} {s : Shared} {h' : Heap} {tk : Nat} {a : Addr} (r : Rep D c σ s) (hpu : c.pur = false) (ha' : a ∈ fw c.env) (hs : Heap.SameBut a s.heap h')
    (old : ∀ o, s.heap.get? a = some o → (∃ es ep, o.data = .dict es ep) ∨ ∃ v, o.data = .cell v) (new : ∃ o, h'.get? a = some o ∧ ((∃ es ep, o.data = .dict es ep) ∨ ∃ v, o.data = .cell v)) (nd : (∃ o es ep, s.heap.get? a = some o ∧ o.data = .dict es ep) → ∃ o es ep, h'.get? a = some o ∧ o.data = .dict es ep) (fr : TK s.heap h' → FrRep c.env σ.vars h') {vars : List (Str × AV)} (fr' : TK s.heap h' → FrRep c.env vars h') :
    Rep D c { σ with vars := vars } { s with heap := h', toks := tk } ∧ Ext c σ s { σ with vars := vars } { s with heap := h', toks := tk } := by
  have ha := fw_fa ha'
  have oth : ∀ b, b ≠ a → ∀ o, s.heap.get? b = some o → h'.get? b = some o := fun b q o e => (hs.2 b q).trans e
  have t : TK s.heap h' := fun b vs e => by
    by_cases q : b = a
    · subst q
      rcases old _ e with ⟨es, ep, z⟩ | ⟨v, z⟩ <;> cases z
    · exact oth b q _ e
  obtain ⟨on, hon, dn⟩ := new
  have hfa : σ.hp a = none := r.apart a ha
  refine ⟨⟨r.st, r.ok, fun b p e => ?_, r.fresh, r.apart, fr' t, fun b p e => ?_, r.baseA, ?_, ?_, r.fapart, r.nm⟩, ?_⟩
  · obtain ⟨y, e1, e2⟩ := r.hp b p e
    exact ⟨y, oth b (fun q => by subst q; rw [hfa] at e; cases e) y e1, e2.mono t⟩
  · exact oth b (fun q => by subst q; rw [r.baseA _ ha'] at e; cases e) p (r.base b p e)
  · obtain ⟨h, t, e⟩ := r.same; exact ⟨h', tk, by rw [e]⟩
  · refine r.ff.keep fun L hL o e es ep d => ?_
    by_cases z : L = a
    · subst z
      rcases dn with ⟨es', ep', q⟩ | ⟨v', q⟩
      · exact ⟨on, es', ep', hon, q⟩
      · rcases old o e with ⟨es'', ep'', q'⟩ | ⟨v'', q'⟩
        · exact absurd (nd ⟨o, es, ep, e, d⟩) (fun y => by obtain ⟨on', es3, ep3, y1, y2⟩ := y; rw [hon] at y1; cases y1; rw [q] at y2; cases y2)
        · rw [d] at q'; cases q'
    · exact ⟨o, es, ep, oth L z o e, d⟩
  · exact ⟨fun b p e hb nfa => ⟨p.slots, oth b (fun z => nfa (z ▸ ha')) p e⟩, fun b p e => .inl ⟨p, e⟩, fun b p e => by
      by_cases q : b = a
      · subst q; exact ⟨_, hon⟩
      · exact ⟨p, oth b q p e⟩, t, fun q => by rw [hpu] at q; cases q⟩

theorem lookup_put {l : List (Str × AV)} {y : Str} : List.lookup y ((x, av) :: l) = if y = x then some av else l.lookup y := by
  rw [List.lookup_cons]
  by_cases q : y = x
  · subst q; simp
  · rw [if_neg q, beq_eq_false_iff_ne.mpr q]

theorem cellAddr {l : List (Str × Addr)} (p : (l.map (·.2)).Pairwise (· ≠ ·)) {x y : Str} {a : Addr} (hx : l.lookup x = some a) (hy : l.lookup y = some a) : x = y :=
  name_of_addr (cs := l) (by rw [List.pairwise_map] at p; exact p) (mem_of_lookup hx) (mem_of_lookup hy)

theorem TU_store (hpu : c.pur = false) (hk : c.env.kindOf x = some .local ∨ (c.env.kindOf x = some .cell ∧ (c.env.cells.lookup x).isSome = true)) {Q : Unit → St → Prop} {X : Int → St → Prop} (h : Q () (σ.put x av)) : TO1 D c EqR av (fun v => storeName c.env x v) σ Q X := fun s v r hv => by
  rcases hk with hk | ⟨hk, hc⟩
  · obtain ⟨m, n, hl⟩ := r.fr.loc
    refine wpAny_storeName_local hk n (fun h' n' hs => ?_) (by rw [r.ok.kind]; rfl)
    have nn := n
    obtain ⟨oL, esL, epL, hL, hLd, _⟩ := nn
    have nn' := n'
    obtain ⟨oL', esL', epL', hL', hLd', _⟩ := nn'
    have cl : ∀ p ∈ c.env.cells, ∀ v, s.heap.IsCell p.2 v → h'.IsCell p.2 v := fun p hp v ⟨o, e, d⟩ =>
      ⟨o, (hs.2 _ (fun q => r.ok.locals (q ▸ List.mem_map.mpr ⟨p, hp, rfl⟩))).trans e, d⟩
    have fr : TK s.heap h' → FrRep c.env ((x, av) :: σ.vars) h' := fun t => ⟨⟨_, n', fun y b e1 e2 => by
        rw [lookup_put] at e1
        by_cases q : y = x
        · rw [if_pos q] at e1; cases e1
          exact ⟨v, by simp [q], hv.mono t⟩
        · rw [if_neg q] at e1
          obtain ⟨v', h1, h2⟩ := hl y b e1 e2
          exact ⟨v', by simp [q, h1], h2.mono t⟩⟩, fun y b e1 e2 => by
        rw [lookup_put] at e1
        by_cases q : y = x
        · subst q; rw [hk] at e2; rcases e2 with e2 | e2 <;> cases e2
        · rw [if_neg q] at e1
          obtain ⟨a, v', h1, h2, h3⟩ := r.fr.cell y b e1 e2
          exact ⟨a, v', h1, cl (y, a) (mem_of_lookup h1) _ h2, h3.mono t⟩, fun p hp => let ⟨v, hv⟩ := r.fr.cells p hp; ⟨v, cl p hp v hv⟩⟩
    have fr0 : TK s.heap h' → FrRep c.env [] h' := fun t => ⟨⟨_, n', fun _ _ e => (by cases e)⟩, fun _ _ e => (by cases e), (fr t).cells⟩
    obtain ⟨a1, a2⟩ := storeFr (σ := { σ with vars := [] }) (tk := s.toks + 1) (vars := (x, av) :: σ.vars) { r with fr := ⟨⟨_, n, fun _ _ e => (by cases e)⟩, fun _ _ e => (by cases e), r.fr.cells⟩ } hpu (List.mem_cons_self ..) hs
      (fun o e => by rw [hL] at e; cases e; exact .inl ⟨_, _, hLd⟩) ⟨oL', hL', .inl ⟨_, _, hLd'⟩⟩ (fun _ => ⟨_, _, _, hL', hLd'⟩) fr0 fr
    exact ⟨(), σ.put x av, a1, ⟨a2.keep, a2.trk, a2.ex, a2.tk, a2.pur⟩, rfl, h⟩
  · obtain ⟨a, ha⟩ := Option.isSome_iff_exists.mp hc
    obtain ⟨v₀, hv₀⟩ := r.fr.cells _ (mem_of_lookup ha)
    refine wpAny_storeName_cell r.ok.kind hk ha hv₀ fun h' hc' hs => ?_
    obtain ⟨m, n, hl⟩ := r.fr.loc
    have hLa : c.env.locals ≠ a := fun q => r.ok.locals (q ▸ List.mem_map.mpr ⟨(x, a), mem_of_lookup ha, rfl⟩)
    have n' : h'.Ns c.env.locals m := n.sameBut hs hLa
    have cl : ∀ y b, y ≠ x → c.env.cells.lookup y = some b → ∀ v, s.heap.IsCell b v → h'.IsCell b v := fun y b q e v hb =>
      hb.sameBut hs fun z => q (cellAddr r.ok.apart e (z ▸ ha))
    have cls : ∀ p ∈ c.env.cells, ∃ v, h'.IsCell p.2 v := fun p hp => by
      by_cases q : p.2 = a
      · rw [q]; exact ⟨_, hc'⟩
      · obtain ⟨v, hv⟩ := r.fr.cells p hp; exact ⟨v, hv.sameBut hs q⟩
    have fr : TK s.heap h' → FrRep c.env ((x, av) :: σ.vars) h' := fun t => ⟨⟨_, n', fun y b e1 e2 => by
        rw [lookup_put] at e1
        by_cases q : y = x
        · subst q; rw [hk] at e2; cases e2
        · rw [if_neg q] at e1
          obtain ⟨v', h1, h2⟩ := hl y b e1 e2
          exact ⟨v', h1, h2.mono t⟩⟩, fun y b e1 e2 => by
        rw [lookup_put] at e1
        by_cases q : y = x
        · rw [if_pos q] at e1; cases e1; subst q
          exact ⟨a, v, ha, hc', hv.mono t⟩
        · rw [if_neg q] at e1
          obtain ⟨b', v', h1, h2, h3⟩ := r.fr.cell y b e1 e2
          exact ⟨b', v', h1, cl y b' q h1 _ h2, h3.mono t⟩, cls⟩
    have fr0 : TK s.heap h' → FrRep c.env [] h' := fun t => ⟨⟨_, n', fun _ _ e => (by cases e)⟩, fun _ _ e => (by cases e), cls⟩
    obtain ⟨oc, hoc, hdc⟩ := hv₀
    obtain ⟨oc', hoc', hdc'⟩ := hc'
    obtain ⟨a1, a2⟩ := storeFr (σ := { σ with vars := [] }) (tk := s.toks) (vars := (x, av) :: σ.vars) { r with fr := ⟨⟨_, n, fun _ _ e => (by cases e)⟩, fun _ _ e => (by cases e), r.fr.cells⟩ } hpu
      (List.mem_cons_of_mem _ (List.mem_map.mpr ⟨(x, a), List.mem_filter.mpr ⟨mem_of_lookup ha, by rw [hk]; rfl⟩, rfl⟩)) hs
      (fun o e => by rw [show s.heap.get? a = some oc from hoc] at e; cases e; exact .inr ⟨_, hdc⟩) ⟨oc', hoc', .inr ⟨_, hdc'⟩⟩ (fun ⟨o, es, ep, e1, e2⟩ => by rw [show s.heap.get? a = some oc from hoc] at e1; cases e1; rw [hdc] at e2; cases e2) fr0 fr
    exact ⟨(), σ.put x av, a1, ⟨a2.keep, a2.trk, a2.ex, a2.tk, a2.pur⟩, rfl, h⟩

theorem TA_name {pos : Pos} (hpu : c.pur = false) (hk : c.env.kindOf x = some .local ∨ (c.env.kindOf x = some .cell ∧ (c.env.cells.lookup x).isSome = true)) {Q : Unit → St → Prop} {X : Int → St → Prop} (h : Q () (σ.put x av)) :
    TO1 D c EqR av (fun v => assign (.Name x pos) c.env v) σ Q X := fun s v r hv => wpAny_assign_Name (TU_store hpu hk h s v r hv)
theorem TA_attr {o : Expr} {name : Str} {pos : Pos} {Q : Unit → St → Prop} {X : Int → St → Prop} (h : TE D c (eval o c.env) σ (fun a σ₁ => TO2 D c EqR a av (fun u v => setAttr u name v) σ₁ Q X) X) : TO1 D c EqR av (fun v => assign (.Attribute o name pos) c.env v) σ Q X := fun s v r hv => by
  show wpAny _ _ (assign (.Attribute o name pos) c.env v) _ _ s
  rw [arm_assign_Attribute]
  refine wpAny_bind (wpAny_holding (h.use r (Ext.refl ..) fun u s₁ a σ₁ r₁ e₁ _ v₁ q₁ => wpAny_bind (wpAny_standAt (wpAny_bind (wpAny_holding (wpAny_mono (q₁ s₁ u v r₁ v₁ (hv.mono e₁.tk)) (fun y s₂ p => ?_) fun _ _ y => y.lift e₁))))))
  obtain ⟨b, σ', z1, z2, z3, z4⟩ := p
  exact wpAny_release ⟨b, σ', z1, e₁.trans z2, rfl, z4⟩
theorem TA_item {o i : Expr} {pos : Pos} (hi : ∀ l u p, i ≠ .Slice l u none p) {Q : Unit → St → Prop} {X : Int → St → Prop} (h : TE D c (eval o c.env) σ (fun a σ₁ => TE D c (eval i c.env) σ₁ (fun b σ₂ => TO3 D c EqR a b av (fun u i v => setItem u i v) σ₂ Q X) X) X) : TO1 D c EqR av (fun v => assign (.Subscript o i pos) c.env v) σ Q X := fun s v r hv => by
  show wpAny _ _ (assign (.Subscript o i pos) c.env v) _ _ s
  rw [arm_assign_Subscript]
  refine wpAny_bind (wpAny_holding (h.use r (Ext.refl ..) fun u s₁ a σ₁ r₁ e₁ e₁' v₁ q₁ => wpAny_bind (wpAny_holding (q₁.use r₁ e₁' fun y s₂ b σ₂ r₂ e₂ e₂' v₂ q₂ => wpAny_bind (wpAny_standAt (wpAny_bind (wpAny_holding (wpAny_mono (q₂ s₂ u y v r₂ (v₁.mono e₂.tk) v₂ (hv.mono (e₁.tk.trans e₂.tk))) (fun y s₂ p => ?_) fun _ _ y => y.lift e₂'))))))))
  obtain ⟨b, σ', z1, z2, z3, z4⟩ := p
  exact wpAny_release ⟨b, σ', z1, e₂'.trans z2, rfl, z4⟩
end

/-! tuples taken apart -/
section
variable (D : Wd) (c : Cx)
noncomputable def TAs : List (Value → Sem Unit) → List AV → St → (St → Prop) → (Int → St → Prop) → Prop
  | [], [], σ, Q, _ => Q σ
  | t :: ts, a :: as, σ, Q, X => TO1 D c EqR a t σ (fun _ σ' => TAs ts as σ' Q X) X
  | _, _, _, _, _ => False
variable {D c}
theorem TAs.run : ∀ {ts : List (Value → Sem Unit)} {as : List AV} {σ : St} {Q : St → Prop} {X : Int → St → Prop}, TAs D c ts as σ Q X → ∀ {s : Shared} {vs : List Value} {σ₀ : St} {s₀ : Shared}, Rep D c σ s → VRs s.heap as vs → Ext c σ₀ s₀ σ s →
    wpAny (model D.prog D.w) c.A (assignInOrder ts vs) (fun _ s' => ∃ b σ', Rep D c σ' s' ∧ Ext c σ₀ s₀ σ' s' ∧ EqR s'.heap b () ∧ Q σ') (XP D c σ₀ s₀ X) s
  | [], [], _, _, _, h, s, vs, _, _, r, v, e => by
    have v' : vs = [] := v
    subst v'
    exact wpAny_assignInOrder_none ⟨(), _, r, e, rfl, h⟩
  | t :: ts, a :: as, _, _, _, h, s, _, _, _, r, ⟨v, us, rfl, hv, hr⟩, e =>
    wpAny_assignInOrder_more (wpAny_mono (h s v r hv) (fun _ s₁ ⟨_, σ₁, z1, z2, _, z4⟩ => TAs.run z4 z1 (hr.mono z2.tk) (e.trans z2)) fun _ _ y => y.lift e)
  | [], _ :: _, _, _, _, h, _, _, _, _, _, _, _ => h.elim
  | _ :: _, [], _, _, _, h, _, _, _, _, _, _, _ => h.elim

variable {σ : St} {X : Int → St → Prop}
theorem TA_tuple {elts : List Expr} {k : Nat} {pos : Pos} {as : List AV} {Q : Unit → St → Prop} (hn : (assignEach elts c.env).length = as.length) (hstar : (assignEach elts c.env).findIdx? (·.1) = none)
    (h : TAs D c ((assignEach elts c.env).map (·.2)) as σ (Q ()) X) : TO1 D c EqR (.tup as) (fun v => assign (.Tuple elts k pos) c.env v) σ Q X := fun s v r ⟨t, vs, e, ht, hv⟩ => by
  subst e
  refine wpAny_assign_Tuple r.ok.handled (items := vs.toArray) ⟨_, ht, rfl, 0, rfl⟩ (by rw [hn, List.size_toArray, hv.length]) hstar fun h' he => ?_
  have kp : ∀ a o, s.heap.get? a = some o → h'.get? a = some o := fun a o e => he a o (Nat.ne_of_lt (Heap.lt_size e)) e
  obtain ⟨r', e'⟩ := r.grow (h' := h') (tk := s.toks) kp
  exact TAs.run h r' (hv.mono (TK.of_keeps kp)) e'
end

/-! statements -/
section
variable {D : Wd} {c : Cx} {σ : St} {Q : AF → St → Prop} {X : Int → St → Prop} {pos : Pos}
theorem TF_nil (h : Q .next σ) : TF D c (execs [] c.env) σ Q X := fun s r => wpAny_execs_nil ⟨.next, σ, r, Ext.refl .., rfl, h⟩
noncomputable def thenDo (D : Wd) (c : Cx) (rest : List Stmt) (Q : AF → St → Prop) (X : Int → St → Prop) : AF → St → Prop
  | .next, σ => TF D c (execs rest c.env) σ Q X
  | f, σ => Q f σ
theorem TF_cons {st : Stmt} {rest : List Stmt} (h : TF D c (exec st c.env) σ (thenDo D c rest Q X) X) : TF D c (execs (st :: rest) c.env) σ Q X := fun s r =>
  wpAny_execs_cons (h.use r (Ext.refl ..) fun f s₁ a σ₁ r₁ _ e₁ v₁ q₁ => by
    cases a with
    | next =>
      have : f = .next := v₁
      subst this
      exact T.use q₁ r₁ e₁ fun g s₂ b σ₂ r₂ _ e₂ v₂ q₂ => ⟨b, σ₂, r₂, e₂, v₂, q₂⟩
    | brk =>
      have : f = .brk := v₁
      subst this
      exact ⟨.brk, σ₁, r₁, e₁, rfl, q₁⟩
    | cont =>
      have : f = .cont := v₁
      subst this
      exact ⟨.cont, σ₁, r₁, e₁, rfl, q₁⟩
    | ret v =>
      obtain ⟨u, rfl, hu⟩ := v₁
      exact ⟨.ret v, σ₁, r₁, e₁, ⟨u, rfl, hu⟩, q₁⟩)
theorem TF_if {t : Expr} {b o : List Stmt} (h : TB D c (isTrue t c.env (eval t c.env)) σ (fun v σ₁ => (v = true → TF D c (execs b c.env) σ₁ Q X) ∧ (v = false → TF D c (execs o c.env) σ₁ Q X)) X) : TF D c (exec (.If t b o pos) c.env) σ Q X := fun s r =>
  wpAny_If (h.use r (Ext.refl ..) fun u s₁ a σ₁ r₁ _ e₁ v₁ q₁ => by
    have : a = u := v₁
    subst this
    cases a with
    | true => exact T.use (q₁.1 rfl) r₁ e₁ fun g s₂ b σ₂ r₂ _ e₂ v₂ q₂ => ⟨b, σ₂, r₂, e₂, v₂, q₂⟩
    | false => exact T.use (q₁.2 rfl) r₁ e₁ fun g s₂ b σ₂ r₂ _ e₂ v₂ q₂ => ⟨b, σ₂, r₂, e₂, v₂, q₂⟩)
theorem TF_return {e : Expr} (h : TE D c (eval e c.env) σ (fun a σ₁ => Q (.ret a) σ₁) X) : TF D c (exec (.Return (some e) pos) c.env) σ Q X := fun s r =>
  wpAny_Return_some (h.use r (Ext.refl ..) fun u s₁ a σ₁ r₁ _ e₁ v₁ q₁ => ⟨.ret a, σ₁, r₁, e₁, ⟨u, rfl, v₁⟩, q₁⟩)
theorem TF_return0 (h : Q (.ret .none) σ) : TF D c (exec (.Return none pos) c.env) σ Q X := fun s r => wpAny_Return_none ⟨.ret .none, σ, r, Ext.refl .., ⟨.none, rfl, rfl⟩, h⟩
theorem TF_expr {e : Expr} (hs : swapsWith e none pos.line c.env = pure false) (h : TE D c (eval e c.env) σ (fun a σ₁ => Q .next σ₁) X) : TF D c (exec (.Expr e pos) c.env) σ Q X := fun s r =>
  wpAny_Expr_any (h.use r (Ext.refl ..) fun u s₁ a σ₁ r₁ _ e₁ v₁ q₁ => ⟨.next, σ₁, r₁, e₁, rfl, q₁⟩) (by unfold interactive; rw [r.ok.kind]; rfl) hs
theorem TF_assign {t value : Expr} (hs : swapsWithSole [t] value pos.line c.env = pure false) (hw : swappedStores [t] value c.env = pure none) (ht : (assignEach [t] c.env).map (·.2) = [fun v => assign t c.env v])
    (h : TE D c (eval value c.env) σ (fun a σ₁ => TO1 D c EqR a (fun v => assign t c.env v) σ₁ (fun _ σ₂ => Q .next σ₂) X) X) : TF D c (exec (.Assign [t] value pos) c.env) σ Q X := fun s r =>
  wpAny_Assign_stores (h.use r (Ext.refl ..) fun u s₁ a σ₁ r₁ _ e₁ v₁ q₁ => by
    rw [ht]
    show wpAny _ _ (assign t c.env u) _ _ _
    refine wpAny_mono (q₁ s₁ u r₁ v₁) (fun _ s₂ p => ?_) fun _ _ y => y.lift e₁
    obtain ⟨b, σ', z1, z2, z3, z4⟩ := p
    exact ⟨.next, σ', z1, e₁.trans z2, rfl, z4⟩) hs hw
theorem TF_assignSwap {elts : List Expr} {k : Nat} {tpos : Pos} {value : Expr} {names : List Str} (hs : swapsWithSole [.Tuple elts k tpos] value pos.line c.env = pure false) (hw : swappedStores [.Tuple elts k tpos] value c.env = pure (some names))
    (h : TE D c (eval value c.env) σ (fun a σ₁ => ∃ as, a = .tup as ∧ as.length = names.length ∧ TAs D c (names.reverse.map fun n => bindName c.env n) as.reverse σ₁ (fun σ₂ => Q .next σ₂) X) X) : TF D c (exec (.Assign [.Tuple elts k tpos] value pos) c.env) σ Q X := fun s r =>
  Assign_Tuple_swapped (h.use r (Ext.refl ..) fun u s₁ a σ₁ r₁ _ e₁ v₁ q₁ => by
    obtain ⟨as, rfl, hn, q⟩ := q₁
    obtain ⟨t, vs, rfl, ht, hv⟩ := v₁
    have hz : names.length = vs.toArray.size := by rw [List.size_toArray, hv.length, hn]
    rw [hz]
    refine wpAny_unpackItems_tuple r.ok.handled (items := vs.toArray) ⟨_, ht, rfl, 0, rfl⟩ fun h' he => ?_
    have kp : ∀ a o, s₁.heap.get? a = some o → h'.get? a = some o := fun a o e => he a o (Nat.ne_of_lt (Heap.lt_size e)) e
    obtain ⟨r', e'⟩ := r₁.grow (h' := h') (tk := s₁.toks) kp
    have hv' : VRs h' as.reverse vs.reverse := by
      have : ∀ (as : List AV) (vs : List Value), VRs h' as vs → VRs h' as.reverse vs.reverse := by
        intro as
        induction as with
        | nil => intro vs e; cases e; rfl
        | cons x xs ih =>
          rintro _ ⟨v, us, rfl, hv, hr⟩
          rw [List.reverse_cons, List.reverse_cons]
          exact (ih us hr).append (.one hv)
      exact this as vs (hv.mono (TK.of_keeps kp))
    exact wpAny_mono (TAs.run q r' hv' (e₁.trans e')) (fun _ s₂ ⟨_, σ', z1, z2, _, z4⟩ => ⟨.next, σ', z1, z2, rfl, z4⟩) fun _ _ y => y) hs hw
theorem TF_augAttr {o value : Expr} {attr : Str} {tpos : Pos} {op : Operator} (h : TE D c (eval o c.env) σ (fun a σ₁ => TO1 D c VR a (fun u => getAttr u attr true) σ₁ (fun old σ₂ => TE D c (eval value c.env) σ₂ (fun v σ₃ =>
    TO2 D c VR old v (inplaceOp op) σ₃ (fun new σ₄ => TO2 D c EqR a new (fun u v => setAttr u attr v) σ₄ (fun _ σ₅ => Q .next σ₅) X) X) X) X) X) : TF D c (exec (.AugAssign (.Attribute o attr tpos) op value pos) c.env) σ Q X := fun s r =>
  wpAny_AugAssign_AttributeAny (h.use r (Ext.refl ..) fun u s₁ a σ₁ r₁ _ e₁ v₁ q₁ => wpAny_mono (q₁ s₁ u r₁ v₁) (fun y s₂ ⟨b, σ₂, r₂, e₂, v₂, q₂⟩ => q₂.use r₂ (e₁.trans e₂) fun z s₃ d σ₃ r₃ e₃ e₃' v₃ q₃ =>
    wpAny_mono (q₃ s₃ y z r₃ (v₂.mono e₃.tk) v₃) (fun n s₄ ⟨f, σ₄, r₄, e₄, v₄, q₄⟩ => wpAny_mono (q₄ s₄ u n r₄ (v₁.mono (e₂.tk.trans (e₃.tk.trans e₄.tk))) v₄)
      (fun _ s₅ ⟨_, σ₅, r₅, e₅, _, q₅⟩ => ⟨.next, σ₅, r₅, (e₃'.trans e₄).trans e₅, rfl, q₅⟩) fun _ _ y => y.lift (e₃'.trans e₄)) fun _ _ y => y.lift e₃') fun _ _ y => y.lift e₁)
theorem O_iadd {a b : Int} {Q : AV → St → Prop} (h : Q (.int (a + b)) σ) : TO2 D c VR (.int a) (.int b) (inplaceOp .Add) σ Q X := fun s u v r ⟨_, e⟩ ⟨_, e'⟩ => by subst e e'; exact iadd_int (pI r h)
end
end Mine

namespace Mine
open PySem PySem.W PySem.Calls PyProof.Rows
/-! displays -/
section
variable (D : Wd) (c : Cx)
noncomputable def TEs : List Expr → St → (List AV → St → Prop) → (Int → St → Prop) → Prop
  | [], σ, Q, _ => Q [] σ
  | e :: es, σ, Q, X => TE D c (eval e c.env) σ (fun a σ' => TEs es σ' (fun as σ'' => Q (a :: as) σ'') X) X
end
noncomputable def Plain (env : Env) : List Expr → Prop
  | [] => True
  | e :: r => starEach (e :: r) env = (false, eval e env) :: starEach r env ∧ Plain env r
section
variable {D : Wd} {c : Cx} {σ : St} {s : Shared} {X : Int → St → Prop}
theorem TEs.run {pos : Pos} : ∀ {es : List Expr} {σ : St} {Q : List AV → St → Prop} {X : Int → St → Prop}, TEs D c es σ Q X → Plain c.env es → ∀ {s : Shared} {σ₀ : St} {s₀ : Shared}, Rep D c σ s → Ext c σ₀ s₀ σ s → ∀ {P : List Value → Shared → Prop},
    (∀ vs s' as σ', Rep D c σ' s' → Ext c σ s σ' s' → Ext c σ₀ s₀ σ' s' → VRs s'.heap as vs → as.length = es.length → Q as σ' → P vs s') →
    wpAny (model D.prog D.w) c.A (spliced (backTo pos (starEach es c.env))) P (XP D c σ₀ s₀ X) s
  | [], _, _, _, h, _, s, _, _, r, e, _, k => spliced_none (k [] s [] _ r (Ext.refl ..) e rfl rfl h)
  | e :: es, _, _, _, h, p, s, _, _, r, e0, _, k =>
    spliced_more (T.use h r e0 fun v s₁ a σ₁ r₁ e₁ e₁' v₁ q₁ => TEs.run q₁ p.2 r₁ e₁' fun vs s₂ as σ₂ r₂ e₂ e₂' v₂ l₂ q₂ => k (v :: vs) s₂ (a :: as) σ₂ r₂ (e₁.trans e₂) e₂' ⟨v, vs, rfl, v₁.mono e₂.tk, v₂⟩ (by rw [List.length_cons, List.length_cons, l₂]) q₂) p.1

theorem push_keeps {h : Heap} {o : Obj} : ∀ a ob, h.get? a = some ob → (h.push o).get? a = some ob := fun _ _ e => Heap.get?_push_of_some o e
theorem TE_tuple {Q : AV → St → Prop} {elts : List Expr} {k : Nat} {pos : Pos} (hp : Plain c.env elts) (hl : elts.length ≤ 100) (h : TEs D c elts σ (fun as σ' => Q (.tup as) σ') X) : TE D c (eval (.Tuple elts k pos) c.env) σ Q X := fun s r =>
  wpAny_Tuple (h.run hp r (Ext.refl ..) fun vs s' as σ' r' _ e' v' l' q' => ⟨by rw [v'.length, l']; exact Nat.le_trans hl (by decide), by
    have g := Heap.get?_push_size s'.heap (o := { cls := .type "tuple", data := .seq vs.toArray }) rfl
    have kp := push_keeps (h := s'.heap) (o := { cls := .type "tuple", data := .seq vs.toArray })
    obtain ⟨a1, a2⟩ := r'.grow (tk := s'.toks) kp
    exact ⟨.tup as, σ', a1, e'.trans a2, ⟨_, vs, rfl, g, v'.mono (TK.of_keeps kp)⟩, q'⟩⟩)
theorem TE_list {Q : AV → St → Prop} {elts : List Expr} {pos : Pos} (hp : Plain c.env elts) (hl : elts.length ≤ 100) (h : TEs D c elts σ (fun as σ' => ∀ a, σ'.hp a = none → Q (.obj a) { σ' with hp := σ'.hp.set a (.list as) }) X) : TE D c (eval (.List elts pos) c.env) σ Q X := fun s r =>
  wpAny_List (h.run hp r (Ext.refl ..) fun vs s' as σ' r' _ e' v' l' q' => ⟨by rw [v'.length, l']; exact Nat.le_trans hl (by decide), by
    have g := Heap.get?_push_size s'.heap (o := { cls := .type "list", data := .seq vs.toArray }) rfl
    have kp := push_keeps (h := s'.heap) (o := { cls := .type "list", data := .seq vs.toArray })
    obtain ⟨a1, a2⟩ := r'.alloc (tk := s'.toks) (o := .list as) kp (fresh_none _) g ⟨vs, 0, rfl, v'.mono (TK.of_keeps kp)⟩ (fun _ e => nomatch e)
    exact ⟨.obj _, _, a1, e'.trans a2, rfl, q' _ (r'.untracked (fresh_none _))⟩⟩)

theorem Rep.big (r : Rep D c σ s) : s.heap.objs.size ≠ sysModules := fun q => by
  obtain ⟨mc, ⟨o, _, _, e, _⟩, _⟩ := r.st.nodigits
  have l := Heap.lt_size (r.base _ _ e)
  have l2 : (2 : Nat) < s.heap.objs.size := l
  rw [q] at l2
  exact absurd l2 (by decide)

theorem KVR.keys {h : Heap} : ∀ {kvs : List (Int × AV)} {vs : List (Int × Value)}, KVR h kvs vs → vs.map (·.1) = kvs.map (·.1)
  | [], _, e => by cases e; rfl
  | _ :: _, _, ⟨v, r, e, a, b⟩ => by subst e; simp [KVR.keys b]
theorem KVR.length {h : Heap} {kvs : List (Int × AV)} {vs : List (Int × Value)} (k : KVR h kvs vs) : vs.length = kvs.length := by
  have := congrArg List.length k.keys; simpa using this
theorem KVR.get {h : Heap} {x : Int} {av : AV} : ∀ {kvs : List (Int × AV)} {vs : List (Int × Value)}, KVR h kvs vs → kvs.lookup x = some av → ∃ v, valueAt vs x = some v ∧ VR h av v
  | [], _, _, q => by cases q
  | p :: l, _, ⟨v, r, e, a, b⟩, q => by
    subst e
    rw [List.lookup_cons] at q
    unfold valueAt
    rw [List.find?_cons]
    by_cases z : x = p.1
    · subst z
      rw [beq_self_eq_true] at q; cases q
      exact ⟨v, by simp, a⟩
    · rw [beq_eq_false_iff_ne.mpr z] at q
      have z' : ¬ p.1 = x := fun y => z y.symm
      simp only [z', decide_false]
      exact b.get q
theorem KVR.miss {h : Heap} {x : Int} : ∀ {kvs : List (Int × AV)} {vs : List (Int × Value)}, KVR h kvs vs → kvs.lookup x = none → valueAt vs x = none
  | [], _, e, q => by cases e; rfl
  | p :: l, _, ⟨v, r, e, a, b⟩, q => by
    subst e
    rw [List.lookup_cons] at q
    unfold valueAt
    rw [List.find?_cons]
    by_cases z : x = p.1
    · subst z
      rw [beq_self_eq_true] at q; cases q
    · rw [beq_eq_false_iff_ne.mpr z] at q
      have z' : ¬ p.1 = x := fun y => z y.symm
      simp only [z', decide_false]
      exact b.miss q
theorem KVR.isSome {h : Heap} {x : Int} {kvs : List (Int × AV)} {vs : List (Int × Value)} (k : KVR h kvs vs) : (valueAt vs x).isSome = (kvs.lookup x).isSome := by
  cases q : kvs.lookup x with
  | none => rw [k.miss q]; rfl
  | some a => obtain ⟨v, e, _⟩ := k.get q; rw [e]; rfl
noncomputable def dPut (kvs : List (Int × AV)) (k : Int) (v : AV) : List (Int × AV) := if kvs.any (fun kv => kv.1 = k) then kvs.map (fun kv => if kv.1 = k then (kv.1, v) else kv) else kvs ++ [(k, v)]
noncomputable def dDel (kvs : List (Int × AV)) (k : Int) : List (Int × AV) := kvs.filter fun kv => decide (kv.1 ≠ k)
theorem KVR.append {h : Heap} : ∀ {xs ys : List (Int × AV)} {vs us}, KVR h xs vs → KVR h ys us → KVR h (xs ++ ys) (vs ++ us)
  | [], _, _, _, e, q => by cases e; exact q
  | _ :: _, _, _, _, ⟨v, r, e, a, b⟩, q => by subst e; exact ⟨v, _, rfl, a, b.append q⟩
theorem KVR.any {h : Heap} {k : Int} : ∀ {xs : List (Int × AV)} {vs}, KVR h xs vs → vs.any (fun kv => kv.1 = k) = xs.any (fun kv => kv.1 = k)
  | [], _, e => by cases e; rfl
  | _ :: _, _, ⟨v, r, e, a, b⟩ => by subst e; simp [b.any]
theorem KVR.mapPut {h : Heap} {k : Int} {av : AV} {u : Value} (hu : VR h av u) : ∀ {xs : List (Int × AV)} {vs}, KVR h xs vs → KVR h (xs.map (fun kv => if kv.1 = k then (kv.1, av) else kv)) (vs.map (fun kv => if kv.1 = k then (kv.1, u) else kv))
  | [], _, e => by cases e; rfl
  | x :: _, _, ⟨v, r, e, a, b⟩ => by
    subst e
    rw [List.map_cons, List.map_cons]
    by_cases z : x.1 = k
    · simp only [if_pos z]; exact ⟨u, _, rfl, hu, b.mapPut hu⟩
    · simp only [if_neg z]; exact ⟨v, _, rfl, a, b.mapPut hu⟩
theorem KVR.put {h : Heap} {k : Int} {av : AV} {u : Value} (hu : VR h av u) {xs : List (Int × AV)} {vs} (x : KVR h xs vs) : KVR h (dPut xs k av) (stored vs k u) := by
  unfold dPut stored
  rw [x.any]
  split
  · exact x.mapPut hu
  · exact x.append ⟨u, [], rfl, hu, rfl⟩
theorem KVR.del {h : Heap} {k : Int} : ∀ {xs : List (Int × AV)} {vs}, KVR h xs vs → KVR h (dDel xs k) (without vs k)
  | [], _, e => by cases e; rfl
  | x :: _, _, ⟨v, r, e, a, b⟩ => by
    subst e
    unfold dDel without
    rw [List.filter_cons, List.filter_cons]
    by_cases z : x.1 = k
    · rw [if_neg (by simp [z]), if_neg (by simp [z])]; exact b.del
    · rw [if_pos (by simp [z]), if_pos (by simp [z])]; exact ⟨v, _, rfl, a, b.del⟩

theorem Rep.dict {d : Addr} {kvs : List (Int × AV)} (r : Rep D c σ s) (h : σ.hp d = some (.dict kvs)) : ∃ vs, s.heap.DictOf (intKind D.prog D.w) d vs ∧ KVR s.heap kvs vs ∧ (d == sysModules) = false := by
  obtain ⟨ob, e, vs, h1, h2⟩ := r.hp d _ h
  exact ⟨vs, Heap.dictOf_iff.mpr ⟨ob, e, h1⟩, h2, beq_eq_false_iff_ne.mpr (r.nm _ _ h)⟩
theorem Rep.list {d : Addr} {xs : List AV} (r : Rep D c σ s) (h : σ.hp d = some (.list xs)) : ∃ vs, s.heap.PlainList d vs.toArray ∧ VRs s.heap xs vs := by
  obtain ⟨ob, e, vs, n, rfl, h2⟩ := r.hp d _ h
  exact ⟨vs, ⟨n, e⟩, h2⟩

theorem key_is {prog : Program} {w : World} {k : Int} {t : Tok} : (intKind prog w).is k (.int k t) = true := by
  show Value.isInt k (.int k t) = true
  simp [Value.isInt]
theorem TE_dict1 {Q : AV → St → Prop} {k : Int} {kk : Nat} {kp pos : Pos} {e : Expr} (h : ∀ a, σ.hp a = none → TE D c (eval e c.env) { σ with hp := σ.hp.set a (.dict []) } (fun b σ' => σ'.hp a = some (.dict []) ∧ Q (.obj a) { σ' with hp := σ'.hp.set a (.dict [(k, b)]) }) X)
    (hpu : c.pur = false) : TE D c (eval (.Dict [some (.Constant (.int k) kk kp)] [e] pos) c.env) σ Q X := fun s r =>
  wpAny_Dict_pairs (knd := intKind D.prog D.w) (pairs := [(eval (.Constant (.int k) kk kp) c.env, do let x ← eval e c.env; standAt pos; pure x)]) rfl (by simp) (by simp) (by
    have g := Heap.get?_push_size s.heap (o := { cls := .type "dict", data := .dict #[] }) rfl
    have kp := push_keeps (h := s.heap) (o := { cls := .type "dict", data := .dict #[] })
    have dn := Heap.DictOf.new (knd := intKind D.prog D.w) s.heap
    obtain ⟨on, hon, hdn⟩ := Heap.dictOf_iff.mp dn
    obtain ⟨a1, a2⟩ := r.alloc (tk := s.toks) (o := .dict []) kp (fresh_none _) hon ⟨[], hdn, rfl⟩ (fun _ _ => r.big)
    obtain ⟨b1, b2⟩ := a1.grow (h' := s.heap.push { cls := .type "dict", data := .dict #[] }) (tk := s.toks + 1) (fun _ _ e => e)
    refine evalPairs_cons (wpAny_Constant_int (wpAny_bind ((h _ (r.untracked (fresh_none _))).use b1 (a2.trans b2) fun v s₁ b σ₁ r₁ e₁ e₁' v₁ q₁ => wpAny_bind (wpAny_standAt (wpAny_pure ?_)))))
    refine wpAny_pure ?_
    obtain ⟨vs, h1, h2, h3⟩ := r₁.dict q₁.1
    cases h2
    refine ⟨[(k, v)], ⟨key_is, rfl, trivial⟩, h1, fun h' hm hs => ?_⟩
    obtain ⟨ob, ho, hd⟩ := Heap.dictOf_iff.mp hm
    obtain ⟨z1, z2⟩ := r₁.turn (tk := s₁.toks + 1) (o' := .dict [(k, b)]) q₁.1 hpu hs ho ⟨[(k, v)], hd, v, [], rfl, v₁, rfl⟩ (fun _ _ => r.big)
    exact ⟨.obj _, _, z1, e₁'.trans z2, rfl, q₁.2⟩)
end
end Mine

namespace Mine
open PySem PySem.W PySem.Calls PyProof.Rows
theorem ints_of {h : Heap} : ∀ {ns : List Int} {vs : List Value}, VRs h (ns.map .int) vs → IntsAre vs ns
  | [], _, e => by cases e; exact .nil
  | n :: ns, _, ⟨v, r, e, ⟨t, a⟩, b⟩ => by subst e a; exact .cons n t (ints_of b)
theorem of_ints {h : Heap} {vs : List Value} {ns : List Int} (x : IntsAre vs ns) : VRs h (ns.map .int) vs := by
  induction x with
  | nil => rfl
  | cons n t _ ih => exact ⟨_, _, rfl, ⟨t, rfl⟩, ih⟩
section
variable {D : Wd} {c : Cx} {σ : St} {s : Shared} {X : Int → St → Prop}

theorem CxOk.u64 {c : Cx} (k : CxOk c) : c.A.units + 64 < cLine := by have := k.units; omega
theorem CxOk.u1 {c : Cx} (k : CxOk c) : c.A.units < cLine := by have := k.units; omega
theorem CxOk.u2 {c : Cx} (k : CxOk c) : c.A.in1.units < cLine := by have := k.units; show c.A.units + 1 < cLine; omega

/-! items -/
theorem TE_sub {value slice : Expr} {pos : Pos} {Q : AV → St → Prop} (h : TE D c (eval value c.env) σ (fun o σ₁ => TE D c (eval slice c.env) σ₁ (fun i σ₂ => TO2 D c VR o i (fun u w => subscriptTail value slice u w) σ₂ Q X) X) X) :
    TE D c (eval (.Subscript value slice pos) c.env) σ Q X := fun s r =>
  Subscript_ (h.use r (Ext.refl ..) fun u s₁ a σ₁ r₁ _ e₁ v₁ q₁ => q₁.use r₁ e₁ fun v s₂ b σ₂ r₂ e₂ e₂' v₂ q₂ =>
    wpAny_mono (q₂ s₂ u v r₂ (v₁.mono e₂.tk) v₂) (fun y s₃ ⟨b, σ', z1, z2, z3, z4⟩ => ⟨b, σ', z1, e₂'.trans z2, z3, z4⟩) fun _ _ y => y.lift e₂')
/-- how a slice that is one value is taken -/
noncomputable def OneSlice (slice : Expr) : Prop := ∀ o i, subscripted slice false o i = operate [o, i] (getItem o i)
theorem O_item_list {value slice : Expr} {Q : AV → St → Prop} {a : Addr} {xs : List AV} {k : Int} {x : AV} (hs : OneSlice slice) (ha : σ.hp a = some (.list xs)) (h0 : 0 ≤ k) (h1 : k < 2 ^ 63) (hx : xs[k.toNat]? = some x) (h : Q x σ) :
    TO2 D c VR (.obj a) (.int k) (fun u w => subscriptTail value slice u w) σ Q X := fun s u v r e ⟨t, e'⟩ => by
  have e0 : u = .ref a := e
  subst e0 e'
  obtain ⟨vs, p, hv⟩ := r.list ha
  obtain ⟨y, hy, hyx⟩ := hv.get hx
  exact tail_any p.isList.typeIs slot_list_getitem.lookup (wpAny_getItem_list p.isList h0 h1 (by simpa using hy) (post1 r hyx h)) (hs _ _)
theorem O_item_tup {value slice : Expr} {Q : AV → St → Prop} {xs : List AV} {k : Int} {x : AV} (hs : OneSlice slice) (h0 : 0 ≤ k) (h1 : k < 2 ^ 63) (hx : xs[k.toNat]? = some x) (h : Q x σ) :
    TO2 D c VR (.tup xs) (.int k) (fun u w => subscriptTail value slice u w) σ Q X := fun s u v r e ⟨t, e'⟩ => by
  obtain ⟨a, vs, e0, ha, hv⟩ := e
  subst e0 e'
  obtain ⟨y, hy, hyx⟩ := hv.get hx
  have it : IsTup s.heap a vs.toArray := ⟨_, ha, rfl, 0, rfl⟩
  have hlt : k.toNat < vs.length := by
    have := List.getElem?_eq_some_iff.mp hy
    exact this.1
  refine tail_any it.typeIs slot_tuple_getitem.lookup (getItem_tuple it (by omega) h1 (j := k.toNat) ?_ (by simpa using hy) (post1 r hyx h)) (hs _ _)
  have hn : ¬ k < 0 := by omega
  have hl : k < vs.length := by omega
  simp [seqIndex?, hn, h0, hl]
theorem O_item_dict {value slice : Expr} {Q : AV → St → Prop} {a : Addr} {kvs : List (Int × AV)} {k : Int} {x : AV} (hs : OneSlice slice) (ha : σ.hp a = some (.dict kvs)) (hx : kvs.lookup k = some x) (h : Q x σ) :
    TO2 D c VR (.obj a) (.int k) (fun u w => subscriptTail value slice u w) σ Q X := fun s u v r e ⟨t, e'⟩ => by
  have e0 : u = .ref a := e
  subst e0 e'
  obtain ⟨vs, p, hv, _⟩ := r.dict ha
  obtain ⟨y, hy, hyx⟩ := hv.get hx
  exact tail_any p.typeIs slot_dict_getitem.lookup (wpAny_getItem_of (knd := intKind D.prog D.w) key_is p.mapOf hy (post0 r hyx h)) (hs _ _)
theorem O_in_dict {Q : AV → St → Prop} {a : Addr} {kvs : List (Int × AV)} {k : Int} (ha : σ.hp a = some (.dict kvs)) (h : Q (.bool (kvs.lookup k).isSome) σ) : TO2 D c VR (.int k) (.obj a) (compareOp .In) σ Q X := fun s v u r ⟨t, e'⟩ e => by
  have e0 : u = .ref a := e
  subst e0 e'
  obtain ⟨vs, p, hv, n⟩ := r.dict ha
  exact wpAny_in_of (knd := intKind D.prog D.w) key_is n p.mapOf (by rw [hv.isSome]; exact pBt r h)
theorem O_notin_dict {Q : AV → St → Prop} {a : Addr} {kvs : List (Int × AV)} {k : Int} (ha : σ.hp a = some (.dict kvs)) (h : Q (.bool !(kvs.lookup k).isSome) σ) : TO2 D c VR (.int k) (.obj a) (compareOp .NotIn) σ Q X := fun s v u r ⟨t, e'⟩ e => by
  have e0 : u = .ref a := e
  subst e0 e'
  obtain ⟨vs, p, hv, n⟩ := r.dict ha
  exact wpAny_notIn_of (knd := intKind D.prog D.w) key_is n p.mapOf (by rw [hv.isSome]; exact pBt r h)
theorem any_contains (k : Int) : ∀ ns : List Int, (ns.any fun x => x == k) = ns.contains k
  | [] => rfl
  | n :: ns => by
    rw [List.any_cons, List.contains_cons, any_contains k ns]
    congr 1
    exact BEq.comm
theorem O_in_ints {Q : AV → St → Prop} {a : Addr} {ns : List Int} {k : Int} (ha : σ.hp a = some (.list (ns.map .int))) (h : Q (.bool (ns.contains k)) σ) : TO2 D c VR (.int k) (.obj a) (compareOp .In) σ Q X := fun s v u r ⟨t, e'⟩ e => by
  have e0 : u = .ref a := e
  subst e0 e'
  obtain ⟨vs, p, hv⟩ := r.list ha
  exact in_list_ints p.isList (ints_of hv) (by rw [any_contains]; exact pB r h)
theorem O_notin_ints {Q : AV → St → Prop} {a : Addr} {ns : List Int} {k : Int} (ha : σ.hp a = some (.list (ns.map .int))) (h : Q (.bool !(ns.contains k)) σ) : TO2 D c VR (.int k) (.obj a) (compareOp .NotIn) σ Q X := fun s v u r ⟨t, e'⟩ e => by
  have e0 : u = .ref a := e
  subst e0 e'
  obtain ⟨vs, p, hv⟩ := r.list ha
  exact notin_list_ints p.isList (ints_of hv) (by rw [any_contains]; exact pB r h)

/-! one thing or not, equal or not -/
theorem VR.ne_none {h : Heap} {x : AV} {v : Value} (e : VR h x v) (n : x ≠ .none) (n' : x.plain = true) : v ≠ .none := by
  cases x with
  | none => exact absurd rfl n
  | bool => cases e; exact fun z => nomatch z
  | int => obtain ⟨t, rfl⟩ := e; exact fun z => nomatch z
  | str => obtain ⟨t, rfl⟩ := e; exact fun z => nomatch z
  | bytes => obtain ⟨t, rfl⟩ := e; exact fun z => nomatch z
  | obj => cases e; exact fun z => nomatch z
  | stat => cases n'
  | tup => obtain ⟨a, vs, rfl, _⟩ := e; exact fun z => nomatch z
noncomputable def AV.isNone : AV → Bool
  | .none => true
  | _ => false
theorem O_is_none {Q : AV → St → Prop} {x : AV} (hp : x.plain = true) (h : Q (.bool x.isNone) σ) : TO2 D c VR x .none (compareOp .Is) σ Q X := fun s u v r e e' => by
  have e0 : v = .none := e'
  subst e0
  cases x with
  | none => cases e; exact wpAny_is_self rfl (pB r h)
  | bool => cases e; exact wpAny_is_other rfl (fun z => nomatch z) (pB r h)
  | int => obtain ⟨t, rfl⟩ := e; exact wpAny_is_other rfl (fun z => nomatch z) (pB r h)
  | str => obtain ⟨t, rfl⟩ := e; exact wpAny_is_other rfl (fun z => nomatch z) (pB r h)
  | bytes => obtain ⟨t, rfl⟩ := e; exact wpAny_is_other rfl (fun z => nomatch z) (pB r h)
  | obj => cases e; exact wpAny_is_other rfl (fun z => nomatch z) (pB r h)
  | stat => cases hp
  | tup => obtain ⟨a, vs, rfl, _⟩ := e; exact wpAny_is_other rfl (fun z => nomatch z) (pB r h)
theorem O_isnot_none {Q : AV → St → Prop} {x : AV} (hp : x.plain = true) (h : Q (.bool !x.isNone) σ) : TO2 D c VR x .none (compareOp .IsNot) σ Q X := fun s u v r e e' => by
  have e0 : v = .none := e'
  subst e0
  cases x with
  | none => cases e; exact wpAny_isNot_self rfl (pB r h)
  | bool => cases e; exact wpAny_isNot_other rfl (fun z => nomatch z) (pB r h)
  | int => obtain ⟨t, rfl⟩ := e; exact wpAny_isNot_other rfl (fun z => nomatch z) (pB r h)
  | str => obtain ⟨t, rfl⟩ := e; exact wpAny_isNot_other rfl (fun z => nomatch z) (pB r h)
  | bytes => obtain ⟨t, rfl⟩ := e; exact wpAny_isNot_other rfl (fun z => nomatch z) (pB r h)
  | obj => cases e; exact wpAny_isNot_other rfl (fun z => nomatch z) (pB r h)
  | stat => cases hp
  | tup => obtain ⟨a, vs, rfl, _⟩ := e; exact wpAny_isNot_other rfl (fun z => nomatch z) (pB r h)
theorem O_ne_bool {Q : AV → St → Prop} {a b : Bool} (h : Q (.bool (!(a == b))) σ) : TO2 D c VR (.bool a) (.bool b) (compareOp .NotEq) σ Q X := fun s u v r e e' => by
  have e0 : u = .bool a := e
  have e1 : v = .bool b := e'
  subst e0 e1
  exact SeqAt.RcNeAt.bool_bool a b _ _ _ _ (pB r h)
theorem arr_beq (a b : Array UInt8) : (a.toList == b.toList) = (a == b) := by
  rw [Bool.eq_iff_iff, beq_iff_eq, beq_iff_eq]
  exact ⟨fun h => by cases a; cases b; simpa using h, fun h => by rw [h]⟩
theorem O_eq_bytes {Q : AV → St → Prop} {a b : Array UInt8} (h : Q (.bool (a == b)) σ) : TO2 D c VR (.bytes a) (.bytes b) (compareOp .Eq) σ Q X := fun s u v r ⟨_, e⟩ ⟨_, e'⟩ => by
  subst e e'
  exact eq_bytes (by rw [arr_beq]; exact pB r h)
theorem O_ne_bytes {Q : AV → St → Prop} {a b : Array UInt8} (h : Q (.bool (!(a == b))) σ) : TO2 D c VR (.bytes a) (.bytes b) (compareOp .NotEq) σ Q X := fun s u v r ⟨_, e⟩ ⟨_, e'⟩ => by
  subst e e'
  exact ne_bytes (by rw [bne, arr_beq]; exact pB r h)
theorem O_ne_ints {Q : AV → St → Prop} {a b : Addr} {ns ms : List Int} (ha : σ.hp a = some (.list (ns.map .int))) (hb : σ.hp b = some (.list (ms.map .int))) (h : Q (.bool !(decide (ns = ms))) σ) : TO2 D c VR (.obj a) (.obj b) (compareOp .NotEq) σ Q X := fun s u v r e e' => by
  have e0 : u = .ref a := e
  have e1 : v = .ref b := e'
  subst e0 e1
  obtain ⟨vs, p, hv⟩ := r.list ha
  obtain ⟨us, q, hu⟩ := r.list hb
  exact ne_intsK p.isList (ints_of hv) q.isList (ints_of hu) r.ok.u64 (pB r h)
/-- a list against an empty one -/
theorem O_ne_empty {Q : AV → St → Prop} {a b : Addr} {xs : List AV} (ha : σ.hp a = some (.list xs)) (hb : σ.hp b = some (.list [])) (h : Q (.bool !xs.isEmpty) σ) : TO2 D c VR (.obj a) (.obj b) (compareOp .NotEq) σ Q X := fun s u v r e e' => by
  have e0 : u = .ref a := e
  have e1 : v = .ref b := e'
  subst e0 e1
  obtain ⟨vs, p, hv⟩ := r.list ha
  obtain ⟨us, q, hu⟩ := r.list hb
  cases hu
  cases xs with
  | nil =>
    cases hv
    exact SeqAt.RcNeAt.lists (e := fun _ => true) p.isList q.isList rfl r.ok.u1 (fun j h => by simp at h) _ _ _ _ (pB r h)
  | cons x xs =>
    obtain ⟨v, w, rfl, _, _⟩ := hv
    exact SeqAt.RcNeAt.lists_lengths p.isList q.isList (by simp) r.ok.u1 _ _ _ _ (pB r h)
theorem len_at {prog : Program} {w : World} {A : Around} {E : Value → Shared → Prop} {s : Shared} {l : Addr} {items : Array Value} {Q : Value → Shared → Prop} (hl : s.heap.IsList l items) (hz : items.size ≤ 1000) (h : Q (.int items.size (s.toks + 1)) { s with toks := s.toks + 1 + 1 }) :
    wpAny (model prog w) A (call (.builtin "len") [.ref l]) Q E s := PyProof.Rows.len_list hl (by omega) h
end
end Mine

namespace Mine
open PySem PySem.W PySem.Calls PyProof.Rows
/-- what is left as it was but for the slots of some objects, and the objects in Skip -/
structure Slots (fr skip : List Addr) (h h' : Heap) : Prop where
  keep : ∀ a o, h.get? a = some o → a ∉ skip → a ∉ fr → h'.get? a = some o
  fr : ∀ a o, h.get? a = some o → a ∈ fr → ∃ sl, h'.get? a = some { o with slots := sl }
  recs : ∀ a ∈ skip, ∀ o, h.get? a = some o → ∃ vs, o.data = .fields vs
theorem Slots.refl (fr : List Addr) (h : Heap) : Slots fr [] h h := ⟨fun _ _ e _ _ => e, fun _ o e _ => ⟨o.slots, e⟩, fun _ h => (nomatch h)⟩
theorem Slots.any {fr skip : List Addr} {h h' : Heap} (x : Slots fr skip h h') {a : Addr} {o : Obj} (e : h.get? a = some o) (n : a ∉ skip) : ∃ sl, h'.get? a = some { o with slots := sl } := by
  by_cases q : a ∈ fr
  · exact x.fr a o e q
  · exact ⟨o.slots, x.keep a o e n q⟩

section
variable {D : Wd} {c c' : Cx} {σ σ₁ σ' : St} {s s₁ s' : Shared} {h' : Heap} {tk : Nat} {H : Hp}

theorem enter (r : Rep D c σ s) (ok : CxOk c') (hfr : c'.frames = c'.env :: c.frames) (hL : c'.env.frame = some c'.env.locals) (hk : ∀ a o, s.heap.get? a = some o → h'.get? a = some o) (new : s.heap.get? c'.env.locals = none)
    (hH : ∀ a o, H a = some o → (σ.hp a = some o) ∨ ((∃ ob, s.heap.get? a = some ob ∧ OR D.prog D.w s.heap o ob) ∧ D.base.get? a = none ∧ (∀ L ∈ c.frames.filterMap (·.frame), L ≠ a) ∧ ∀ kvs, o = .dict kvs → a ≠ sysModules))
    (ap : ∀ a ∈ fa c'.env, H a = none ∧ (a ∈ fw c'.env → D.base.get? a = none)) {vars : List (Str × AV)} (fr : FrRep c'.env vars h') : Rep D c' ⟨vars, H⟩ { s with heap := h', toks := tk } := by
  have t : TK s.heap h' := TK.of_keeps hk
  have nb : D.base.get? c'.env.locals = none := (ap _ (List.mem_cons_self ..)).2 (List.mem_cons_self ..)
  have hL' : h'.get? c'.env.locals ≠ none := by
    obtain ⟨⟨m, ⟨o, _, _, e, _⟩, _⟩, _⟩ := fr
    rw [e]; exact fun q => nomatch q
  refine ⟨r.st, ok, fun a o e => ?_, fun a o e => ?_, fun a ha => (ap a ha).1, fr, fun a o e => hk a o (r.base a o e), fun a ha => (ap a (fw_fa ha)).2 ha, ?_, ?_, fun L hL0 => ?_, fun a kvs e => ?_⟩
  · rcases hH a o e with e | ⟨⟨ob, e1, e2⟩, _⟩
    · obtain ⟨ob, e1, e2⟩ := r.hp a o e; exact ⟨ob, hk a ob e1, e2.mono t⟩
    · exact ⟨ob, hk a ob e1, e2.mono t⟩
  · rcases hH a o e with e | ⟨_, e, _⟩
    · exact r.fresh a o e
    · exact e
  · obtain ⟨h, t, e⟩ := r.same; exact ⟨h', tk, by rw [e]⟩
  · intro env he
    rw [hfr] at he
    rcases List.mem_cons.mp he with rfl | he
    · obtain ⟨⟨m, ⟨o, es, ep, e, d, _⟩, _⟩, _⟩ := fr
      exact ⟨by rw [ok.kind]; decide, _, o, es, ep, hL, nb, e, d⟩
    · exact (r.ff.keep fun L _ o e es ep d => ⟨o, es, ep, hk L o e, d⟩) env he
  · rw [hfr, List.filterMap_cons, hL] at hL0
    rcases List.mem_cons.mp hL0 with rfl | hL0
    · exact (ap _ (List.mem_cons_self ..)).1
    · cases q : H L with
      | none => exact q
      | some o =>
        rcases hH L o q with e | ⟨_, _, n, _⟩
        · rw [r.fapart L hL0] at e; cases e
        · exact absurd rfl (n L hL0)
  · rcases hH a _ e with e | ⟨_, _, _, n⟩
    · exact r.nm a kvs e
    · exact n kvs rfl

theorem exit (r : Rep D c σ s) (hpu : c.pur = false) (hk : ∀ a o, s.heap.get? a = some o → s₁.heap.get? a = some o) (r' : Rep D c' σ' s') (x : Ext c' σ₁ s₁ σ' s') (hσ : ∀ a o, σ₁.hp a = some o → σ.hp a = some o)
    (hfr : c'.frames = c'.env :: c.frames) (new : ∀ a ∈ fw c'.env, s.heap.get? a = none) {fr skip : List Addr} (z : Slots fr skip s'.heap h') (hsk : ∀ a ∈ skip, s.heap.get? a = none ∧ σ'.hp a = none) (hfrs : fr = [] ∨ fr = c'.frames.filterMap (·.frame)) :
    Rep D c { vars := σ.vars, hp := σ'.hp } { s' with heap := h', toks := tk } ∧ Ext c σ s { vars := σ.vars, hp := σ'.hp } { s' with heap := h', toks := tk } := by
  have nfr : ∀ a ∈ fr, D.base.get? a = none ∧ σ'.hp a = none ∧ ∃ o es ep, s'.heap.get? a = some o ∧ o.data = .dict es ep := fun a ha => by
    rcases hfrs with q | q
    · rw [q] at ha; cases ha
    · rw [q] at ha; exact ⟨(r'.ff.mem ha).1, r'.fapart a ha, (r'.ff.mem ha).2⟩
  have nosk : ∀ a o, s.heap.get? a = some o → a ∉ skip := fun a o e m => by rw [(hsk a m).1] at e; cases e
  have tk2 : TK s'.heap h' := fun a vs e => z.keep a _ e (fun m => by
    obtain ⟨vs', d⟩ := z.recs a m _ e
    cases d) (fun m => by
    obtain ⟨_, _, o, es, ep, e', d⟩ := nfr a m
    rw [e] at e'; cases e'; cases d)
  have tk0 : TK s.heap h' := fun a vs e => tk2 a vs (x.tk a vs (hk a _ e))
  have un : ∀ a o, s.heap.get? a = some o → σ.hp a = none → ∃ sl, h'.get? a = some { o with slots := sl } := fun a o e n => by
    have n1 : σ₁.hp a = none := by
      cases q : σ₁.hp a with
      | none => rfl
      | some o₁ => rw [hσ a o₁ q] at n; cases n
    obtain ⟨sl, e1⟩ := x.keep a o (hk a o e) n1 (fun m => by rw [new a m] at e; cases e)
    obtain ⟨sl', e2⟩ := z.any e1 (nosk a o e)
    exact ⟨sl', e2⟩
  have unt : ∀ a o, s.heap.get? a = some o → σ.hp a = none → σ'.hp a = none := fun a o e n => by
    cases q : σ'.hp a with
    | none => rfl
    | some o' =>
      rcases x.trk a o' q with ⟨o'', w⟩ | w
      · rw [hσ a o'' w] at n; cases n
      · rw [hk a o e] at w; cases w
  refine ⟨⟨r.st, r.ok, fun a o e => ?_, r'.fresh, fun a ha => ?_, r.fr.keeps (fun a ha o e => un a o e (r.apart a ha)) tk0, fun a o e => ?_, r.baseA, ?_, ?_, fun L hL => ?_, r'.nm⟩, ⟨fun a o e n _ => un a o e n, fun a o e => ?_, fun a o e => ?_, tk0, fun q => by rw [hpu] at q; cases q⟩⟩
  · obtain ⟨ob, e1, e2⟩ := r'.hp a o e
    refine ⟨ob, z.keep a ob e1 (fun m => ?_) (fun m => ?_), e2.mono tk2⟩
    · rw [(hsk a m).2] at e; cases e
    · rw [(nfr a m).2.1] at e; cases e
  · obtain ⟨o, e⟩ := r.inFa ha
    exact unt a o e (r.apart a ha)
  · exact z.keep a o (r'.base a o e) (nosk a o (r.base a o e)) (fun m => by rw [(nfr a m).1] at e; cases e)
  · obtain ⟨h, t, e⟩ := r'.same; exact ⟨h', tk, by rw [e]⟩
  · have f' : FF D.base s'.heap c.frames := fun env he => r'.ff env (by rw [hfr]; exact List.mem_cons_of_mem _ he)
    refine f'.keep fun L hL o e es ep d => ?_
    obtain ⟨sl, q⟩ := z.any e (fun m => by
      obtain ⟨vs', d'⟩ := z.recs L m _ e
      rw [d] at d'; cases d')
    exact ⟨_, es, ep, q, d⟩
  · refine r'.fapart L ?_
    rw [hfr, List.filterMap_cons]
    split
    · exact hL
    · exact List.mem_cons_of_mem _ hL
  · rcases x.trk a o e with ⟨o'', w⟩ | w
    · exact .inl ⟨_, hσ a o'' w⟩
    · refine .inr ?_
      cases q : s.heap.get? a with
      | none => rfl
      | some o₁ => rw [hk a o₁ q] at w; cases w
  · obtain ⟨o', e'⟩ := x.ex a o (hk a o e)
    obtain ⟨sl, q⟩ := z.any e' (nosk a o e)
    exact ⟨_, q⟩
end

/-! an exception leaves a frame -/
theorem Slots.trans {fr sk₁ sk₂ : List Addr} {h h₁ h₂ : Heap} (x : Slots fr sk₁ h h₁) (y : Slots [] sk₂ h₁ h₂) (hd : ∀ a ∈ fr, ∀ o, h.get? a = some o → ∃ es ep, o.data = .dict es ep) : Slots fr (sk₁ ++ sk₂) h h₂ := by
  refine ⟨fun a o e n m => ?_, fun a o e m => ?_, fun a ha o e => ?_⟩
  · exact y.keep a o (x.keep a o e (fun z => n (List.mem_append_left _ z)) m) (fun z => n (List.mem_append_right _ z)) (fun z => nomatch z)
  · obtain ⟨sl, e'⟩ := x.fr a o e m
    obtain ⟨es, ep, d⟩ := hd a m o e
    exact ⟨sl, y.keep a _ e' (fun z => by obtain ⟨vs, d'⟩ := y.recs a z _ e'; rw [show ({ o with slots := sl } : Obj).data = o.data from rfl, d] at d'; cases d') (fun z => nomatch z)⟩
  · by_cases q : a ∈ sk₁
    · exact x.recs a q o e
    · rcases List.mem_append.mp ha with ha | ha
      · exact absurd ha q
      · obtain ⟨sl, e'⟩ := x.any e q
        obtain ⟨vs, d⟩ := y.recs a ha _ e'
        exact ⟨vs, d⟩
section
variable {M : Model} {A : Around} {E : Value → Shared → Prop} {s : Shared} {base : Heap} {env : Env} {outer : List Env} {L e : Addr} {oe : Obj} {vs : Array Value}
/-- the exception's entry made -/
noncomputable def Noted (fr : List Addr) (e : Addr) (oe : Obj) (L : Addr) (h h' : Heap) : Prop :=
  Slots fr [e] h h' ∧ ∃ oe' vs' T oT ts, h'.get? e = some oe' ∧ oe'.cls = oe.cls ∧ oe'.dict = oe.dict ∧ oe'.data = .fields vs' ∧ vs'[1]? = some (.ref T) ∧ h.get? T = none ∧ T ≠ e ∧ h'.get? T = some oT ∧ oT.data = .fields ts ∧ ts[3]? = some (rawInt L)
theorem mapFields_dict (f : Array Value → Array Value) (o : Obj) : (Obj.mapFields f o).dict = o.dict := by
  unfold Obj.mapFields; split <;> rfl

theorem entry_made {head : Value} {hadNext : Bool} {Q : Unit → Shared → Prop} (hfr : A.frames = some (env :: outer)) (hl : FF base s.heap (env :: outer)) (hf : env.frame = some L) (he : s.heap.get? e = some oe) (hd : oe.data = .fields vs) (hsz : 1 < vs.size)
    (h : ∀ h', Noted ((env :: outer).filterMap (·.frame)) e oe L s.heap h' → Q () { s with heap := h' }) :
    wpAny M A (do let a ← frameOf env; let pl ← entryPlaceOf L hadNext; let b ← EntryCells.newEntry head a .none (rawInt L) .none pl; setField (.ref e) 1 b) Q E s := by
  have hene : e ∉ (env :: outer).filterMap (·.frame) := fun hm => by
    obtain ⟨_, o, es, ep, ho, hnf⟩ := hl.mem hm
    rw [he] at ho; cases ho; rw [hd] at hnf; cases hnf
  refine wpAny_bind (wpAny_frameOf_fun hfr hl.fun hf fun h₁ hs₁ => ?_)
  refine wpAny_bind (wpAny_entryPlaceOf fun pl hpl => ?_)
  unfold EntryCells.newEntry newFields
  refine wpAny_bind (wpAny_newObj_type ?_ (hpl.sizeOk5 _ _ _ _ _))
  have he₁ : h₁.get? e = some oe := (hs₁.2.1 e hene).trans he
  generalize hob : ({ cls := Value.type "traceback", dict := none, data := .fields ([head, .ref L, .none, rawInt L, .none] ++ (if pl.isEmpty then List.replicate 6 Value.none else pl)).toArray } : Obj) = ob
  have hobd : ob.data = .fields ([head, .ref L, .none, rawInt L, .none] ++ (if pl.isEmpty then List.replicate 6 Value.none else pl)).toArray := by rw [← hob]
  have hobf : ob.isFreed = false := by rw [← hob]; rfl
  have he₂ := Heap.get?_push_of_some (h := h₁) ob he₁
  refine wpAny_setField he₂ hd hsz (h _ ?_)
  have hTe : h₁.objs.size ≠ e := Nat.ne_of_gt (Heap.lt_size he₁)
  have hd₃ := Obj.data_mapFields hd (·.setIfInBounds 1 (Value.ref h₁.objs.size))
  have he₃ := Heap.get?_update_self (Obj.mapFields (·.setIfInBounds 1 (Value.ref h₁.objs.size))) he₂ (Obj.isFreed_of_fields hd₃)
  have hT₃ := (Heap.get?_update_other (h₁.push ob) (Obj.mapFields (·.setIfInBounds 1 (Value.ref h₁.objs.size))) (Ne.symm hTe)).trans (Heap.get?_push_size h₁ hobf)
  have keep : ∀ b o, b ≠ e → h₁.get? b = some o → ((h₁.push ob).update e (Obj.mapFields (·.setIfInBounds 1 (Value.ref h₁.objs.size)))).get? b = some o := fun b o hbe hb => by
    rw [Heap.get?_update_other _ _ (Ne.symm hbe)]
    exact Heap.get?_push_of_some _ hb
  refine ⟨⟨fun a o q n1 n2 => keep a o (fun z => n1 (z ▸ List.mem_cons_self ..)) ((hs₁.2.1 a n2).trans q), fun a o q n => ?_, fun a ha o q => ?_⟩, _, _, h₁.objs.size, _, _, he₃, Obj.cls_mapFields _ _, mapFields_dict _ _, hd₃, by simp [hsz], ?_, hTe, hT₃, hobd, by simp⟩
  · obtain ⟨sl, q'⟩ := hs₁.2.2 a o q
    exact ⟨sl, keep a _ (fun z => hene (z ▸ n)) q'⟩
  · rcases List.mem_cons.mp ha with rfl | ha
    · rw [he] at q; cases q; exact ⟨_, hd⟩
    · cases ha
  · cases q : s.heap.get? h₁.objs.size with
    | none => rfl
    | some o => obtain ⟨sl, q'⟩ := hs₁.2.2 _ o q; exact absurd (Heap.lt_size q') (Nat.lt_irrefl _)
end

section
variable {D : Wd} {c' : Cx} {σ₁ σ' : St} {s₁ s' : Shared} {outer : List Env} {ea : Addr} {code : Int} {QE : Addr}
/-- what an exception's steps leave -/
noncomputable def Stepped (c' : Cx) (s₁ : Shared) (σ' : St) (h h' : Heap) : Prop := ∃ skip, Slots (c'.frames.filterMap (·.frame)) skip h h' ∧ ∀ a ∈ skip, s₁.heap.get? a = none ∧ σ'.hp a = none
theorem note_ {E : Value → Shared → Prop} {Q : Unit → Shared → Prop} (r : Rep D c' σ' s') (hfr : c'.frames = c'.env :: outer) (hf : c'.env.frame = some c'.env.locals) (r₁ : Rep D c' σ₁ s₁) (x : Ext c' σ₁ s₁ σ' s') (i : IsExc D.base QE s₁ ea code s'.heap σ'.hp (Fl c'.env.locals))
    (h : ∀ h', Stepped c' s₁ σ' s'.heap h' → IsExc D.base QE s₁ ea code h' σ'.hp (· = some (rawInt c'.env.locals)) → Q () { s' with heap := h' }) :
    wpAny (model D.prog D.w) c'.A (noteFrame (.ref ea) c'.env) Q E s' := by
  obtain ⟨i1, i2, oe, vs, dx, des, dn, t, h1, h2, h3, h4, h5, h6, h7, h8⟩ := i
  have hA := r.ok.frames
  rw [hfr] at hA
  have ff := r.ff
  rw [hfr] at ff
  have old : ∀ a, s'.heap.get? a = none → s₁.heap.get? a = none := fun a z => by
    cases q : s₁.heap.get? a with
    | none => rfl
    | some o => obtain ⟨o', e'⟩ := x.ex a o q; rw [z] at e'; cases e'
  have dxf : dx ∉ c'.frames.filterMap (·.frame) := fun m => by
    obtain ⟨_, o, _, _, e, _⟩ := r₁.ff.mem m
    rw [h5] at e; cases e
  have fin : ∀ (h₁ h₂ : Heap) (sk : List Addr), Slots [] sk s'.heap h₁ → (∀ a, h₁.get? a = none → s'.heap.get? a = none) → (∀ a ∈ sk, s₁.heap.get? a = none ∧ σ'.hp a = none) → Noted ((c'.env :: outer).filterMap (·.frame)) ea oe c'.env.locals h₁ h₂ → Q () { s' with heap := h₂ } := by
    intro h₁ h₂ sk z1 zn z2 ⟨z3, oe', vs', T, oT, ts, g1, g2, g3, g4, g5, g6, g7, g8, g9, g10⟩
    have sl : Slots (c'.frames.filterMap (·.frame)) (ea :: sk) s'.heap h₂ := ⟨fun a o e n1 n2 => z3.keep a o (z1.keep a o e (fun m => n1 (List.mem_cons_of_mem _ m)) (fun m => nomatch m)) (fun m => n1 (by rcases List.mem_cons.mp m with rfl | m; exact List.mem_cons_self ..; cases m)) (by rw [hfr] at n2; exact n2), fun a o e n => by
        have ns : a ∉ sk := fun m => by
          obtain ⟨vs', d'⟩ := z1.recs a m o e
          obtain ⟨_, o'', es, ep, e'', d''⟩ := r.ff.mem n
          rw [e] at e''; cases e''; rw [d'] at d''; cases d''
        exact z3.fr a o (z1.keep a o e ns (fun m => nomatch m)) (by rw [hfr] at n; exact n), fun a ha o e => by
        rcases List.mem_cons.mp ha with rfl | ha
        · rw [h1] at e; cases e; exact ⟨_, h3⟩
        · exact z1.recs a ha o e⟩
    refine h h₂ ⟨ea :: sk, sl, fun a ha => ?_⟩ ⟨i1, i2, oe', vs', dx, des, dn, t, g1, g2.trans h2, g4, g3.trans h4, h5, ?_, h7, .inr ⟨T, oT, ts, _, g5, ⟨?_, ?_⟩, g7, g8, g9, g10, rfl⟩⟩
    · rcases List.mem_cons.mp ha with rfl | ha
      · exact ⟨i1, i2⟩
      · exact z2 a ha
    · exact sl.keep dx _ h6 (fun m => by obtain ⟨vs, d⟩ := sl.recs dx m _ h6; cases d) dxf
    · exact old T (zn T g6)
    · exact r.untracked (zn T g6)
  unfold noteFrame
  simp only [hf]
  rcases h8 with ⟨h8, _⟩ | ⟨T, oT, ts, v, k1, k2, k3, k4, k5, k6, k7⟩
  · refine wpAny_bind (wpAny_field h1 h3 h8 ?_)
    rw [if_neg (by decide)]
    exact entry_made hA ff hf h1 h3 (Array.getElem?_eq_some_iff.mp h8).1 fun h' n => fin _ _ [] (Slots.refl _ _) (fun _ e => e) (fun _ m => nomatch m) n
  · refine wpAny_bind (wpAny_field h1 h3 k1 ?_)
    rw [if_pos (show (Value.ref T != Value.none) = true from by simp)]
    refine wpAny_bind (wpAny_field k4 k5 k6 ?_)
    rcases k7 with k7 | k7 | k7
    · cases k7
    · cases k7
      rw [if_neg (show ¬ ((Value.none == rawInt c'.env.locals) = true) from by simp [rawInt])]
      refine wpAny_bind (wpAny_setField k4 k5 (Array.getElem?_eq_some_iff.mp k6).1 ?_)
      have other : ∀ b, b ≠ T → (s'.heap.update T (Obj.mapFields (·.setIfInBounds 3 Value.none))).get? b = s'.heap.get? b := fun b hb => Heap.get?_update_other _ _ (Ne.symm hb)
      have sl : Slots [] [T] s'.heap (s'.heap.update T (Obj.mapFields (·.setIfInBounds 3 Value.none))) := ⟨fun a o q n _ => (other a (fun z => n (z ▸ List.mem_cons_self ..))).trans q, fun _ _ _ h => (nomatch h), fun a ha o q => by
        rcases List.mem_cons.mp ha with rfl | ha
        · rw [k4] at q; cases q; exact ⟨_, k5⟩
        · cases ha⟩
      refine entry_made hA (ff.keep fun L' _ o q es ep d => ⟨o, es, ep, (other L' (fun z => by subst z; rw [k4] at q; cases q; rw [k5] at d; cases d)).trans q, d⟩) hf ((other ea (Ne.symm k3)).trans h1) h3 (Array.getElem?_eq_some_iff.mp k1).1 fun h'' n => fin _ h'' [T] sl (fun a q => by
        by_cases z : a = T
        · subst z
          rw [Heap.get?_update_self _ k4 (Obj.isFreed_of_fields (Obj.data_mapFields k5 _))] at q; cases q
        · rw [other a z] at q; exact q) (fun a ha => by
        rcases List.mem_cons.mp ha with rfl | ha
        · exact k2
        · cases ha) n
    · cases k7
      rw [if_pos (by simp)]
      exact wpAny_pure (h _ ⟨[], ⟨fun _ _ e _ _ => e, fun _ o e _ => ⟨o.slots, e⟩, fun _ h => (nomatch h)⟩, fun _ m => nomatch m⟩ ⟨i1, i2, oe, vs, dx, des, dn, t, h1, h2, h3, h4, h5, h6, h7, .inr ⟨T, oT, ts, _, k1, k2, k3, k4, k5, k6, rfl⟩⟩)

theorem flight_ {E : Value → Shared → Prop} {Q : Unit → Shared → Prop} {A : Around} {M : Model} {fl : Option Addr} {F : Option Value → Prop} {H : Hp} {base : Heap} (i : IsExc base QE s₁ ea code s'.heap H F) (hF : ¬ F none)
    (h : ∀ h' skip, Slots [] skip s'.heap h' → (∀ a ∈ skip, s₁.heap.get? a = none ∧ H a = none) → IsExc base QE s₁ ea code h' H (· = some (fl.elim Value.none fun f => rawInt f)) → Q () { s' with heap := h' }) :
    wpAny M A (setFlight (.ref ea) fl) Q E s' := by
  obtain ⟨i1, i2, oe, vs, dx, des, dn, t, h1, h2, h3, h4, h5, h6, h7, h8⟩ := i
  rcases h8 with ⟨_, h8⟩ | ⟨T, oT, ts, v, k1, k2, k3, k4, k5, k6, k7⟩
  · exact absurd h8 hF
  unfold setFlight
  refine wpAny_bind (wpAny_field h1 h3 k1 ?_)
  rw [if_pos (show (Value.ref T != Value.none) = true from by simp)]
  have lt := (Array.getElem?_eq_some_iff.mp k6).1
  refine wpAny_setField k4 k5 lt ?_
  generalize (fl.elim Value.none fun f => rawInt f) = fv at *
  have other : ∀ b, b ≠ T → (s'.heap.update T (Obj.mapFields (·.setIfInBounds 3 fv))).get? b = s'.heap.get? b := fun b hb => Heap.get?_update_other _ _ (Ne.symm hb)
  have sl : Slots [] [T] s'.heap (s'.heap.update T (Obj.mapFields (·.setIfInBounds 3 fv))) := ⟨fun a o q n _ => (other a (fun z => n (z ▸ List.mem_cons_self ..))).trans q, fun _ _ _ h => (nomatch h), fun a ha o q => by
    rcases List.mem_cons.mp ha with rfl | ha
    · rw [k4] at q; cases q; exact ⟨_, k5⟩
    · cases ha⟩
  have dT : dx ≠ T := fun q => by subst q; rw [h6] at k4; cases k4; cases k5
  have hd₃ := Obj.data_mapFields k5 (·.setIfInBounds 3 fv)
  refine h _ [T] sl (fun a ha => ?_) ⟨i1, i2, oe, vs, dx, des, dn, t, (other ea (Ne.symm k3)).trans h1, h2, h3, h4, h5, (other dx dT).trans h6, h7, .inr ⟨T, _, _, fv, k1, k2, k3, Heap.get?_update_self _ k4 (Obj.isFreed_of_fields hd₃), hd₃, by simp [lt], rfl⟩⟩
  rcases List.mem_cons.mp ha with rfl | ha
  · exact k2
  · cases ha

theorem Stepped.more {h h₁ h₂ : Heap} {sk : List Addr} (ff : FF D.base h c'.frames) (x : Stepped c' s₁ σ' h h₁) (y : Slots [] sk h₁ h₂) (hs : ∀ a ∈ sk, s₁.heap.get? a = none ∧ σ'.hp a = none) : Stepped c' s₁ σ' h h₂ := by
  obtain ⟨sk', z, zs⟩ := x
  refine ⟨sk' ++ sk, z.trans y fun a ha o e => ?_, fun a ha => ?_⟩
  · obtain ⟨_, o', es, ep, e', d⟩ := ff.mem ha
    rw [e] at e'; cases e'; exact ⟨es, ep, d⟩
  · rcases List.mem_append.mp ha with ha | ha
    · exact zs a ha
    · exact hs a ha

theorem exc_leave {E : Value → Shared → Prop} {Q : Unit → Shared → Prop} (r : Rep D c' σ' s') (hfr : c'.frames = c'.env :: outer) (hf : c'.env.frame = some c'.env.locals) (r₁ : Rep D c' σ₁ s₁) (x : Ext c' σ₁ s₁ σ' s') (i : IsExc D.base QE s₁ ea code s'.heap σ'.hp (Fl c'.env.locals))
    (h : ∀ h', Stepped c' s₁ σ' s'.heap h' → IsExc D.base QE s₁ ea code h' σ'.hp (· = some .none) → Q () { s' with heap := h' }) :
    wpAny (model D.prog D.w) c'.A (leaving c'.env (.ref ea)) Q E s' := by
  unfold leaving
  refine wpAny_bind (note_ r hfr hf r₁ x i fun h₁ st i₁ => ?_)
  exact flight_ (s' := { s' with heap := h₁ }) i₁ (fun q => nomatch q) fun h₂ sk sl hs i₂ => h h₂ (st.more r.ff sl hs) i₂

/-- the frame and all that it holds stay, when an exception is noted in it -/
theorem Rep.stepped {σ₀ : St} {s₀ : Shared} {h' : Heap} (r0 : Rep D c' σ₀ s₀) (r : Rep D c' σ' s') (x : Ext c' σ₀ s₀ σ' s') (hpu : c'.pur = false) (st : Stepped c' s₀ σ' s'.heap h') : Rep D c' σ' { s' with heap := h' } ∧ Ext c' σ₀ s₀ σ' { s' with heap := h' } := by
  obtain ⟨sk, z, zs⟩ := st
  have nosk : ∀ a o, s₀.heap.get? a = some o → a ∉ sk := fun a o e m => by rw [(zs a m).1] at e; cases e
  have tk2 : TK s'.heap h' := fun a vs e => z.keep a _ e (fun m => by
    obtain ⟨vs', d⟩ := z.recs a m _ e
    cases d) (fun m => by
    obtain ⟨_, o, es, ep, e', d⟩ := r.ff.mem m
    rw [e] at e'; cases e'; cases d)
  have fask : ∀ a ∈ fa c'.env, a ∉ sk := fun a ha m => by
    obtain ⟨o, e⟩ := r0.inFa ha
    exact nosk a o e m
  refine ⟨⟨r.st, r.ok, fun a o e => ?_, r.fresh, r.apart, r.fr.keeps (fun a ha o e => z.any e (fask a ha)) tk2, fun a o e => ?_, r.baseA, ?_, ?_, r.fapart, r.nm⟩, ⟨fun a o e n nf => ?_, x.trk, fun a o e => ?_, fun a vs e => tk2 a vs (x.tk a vs e), fun q => by rw [hpu] at q; cases q⟩⟩
  · obtain ⟨ob, e1, e2⟩ := r.hp a o e
    refine ⟨ob, z.keep a ob e1 (fun m => ?_) (fun m => ?_), e2.mono tk2⟩
    · rw [(zs a m).2] at e; cases e
    · rw [r.fapart a m] at e; cases e
  · exact z.keep a o (r.base a o e) (nosk a o (r0.base a o e)) (fun m => by rw [(r.ff.mem m).1] at e; cases e)
  · obtain ⟨h, t, e⟩ := r.same; exact ⟨h', t, by rw [e]⟩
  · refine r.ff.keep fun L hL o e es ep d => ?_
    obtain ⟨sl, q⟩ := z.any e (fun m => by
      obtain ⟨vs', d'⟩ := z.recs L m _ e
      rw [d] at d'; cases d')
    exact ⟨_, es, ep, q, d⟩
  · obtain ⟨sl, e'⟩ := x.keep a o e n nf
    obtain ⟨sl', e2⟩ := z.any e' (nosk a o e)
    exact ⟨sl', e2⟩
  · obtain ⟨o', e'⟩ := x.ex a o e
    obtain ⟨sl, e2⟩ := z.any e' (nosk a o e)
    exact ⟨_, e2⟩
/-- an activation of the frame's own is passed -/
theorem XP.passes {c : Cx} {σ : St} {s : Shared} {X : Int → St → Prop} {outer : List Env} (r0 : Rep D c σ s) (hpu : c.pur = false) (hfr : c.frames = c.env :: outer) (hf : c.env.frame = some c.env.locals) : PassesOwn (model D.prog D.w) c.A c.env (XP D c σ s X) := fun e s' ⟨σ', ea, k, e1, r', x', i', q'⟩ => by
  subst e1
  refine note_ r' hfr hf r0 x' i' fun h₁ st i₁ => ?_
  obtain ⟨b1, b2⟩ := r0.stepped r' x' hpu st
  obtain ⟨i1, i2, oe, vs, dx, des, dn, t, h1, h2, h3, h4, h5, h6, h7, h8⟩ := id i₁
  rcases h8 with ⟨_, h8⟩ | ⟨T, oT, ts, v, k1, k2, k3, k4, k5, k6, k7⟩
  · cases h8
  refine wpAny_bind (wpAny_field (s := { s' with heap := h₁ }) h1 h3 k1 ?_)
  rw [if_neg (show ¬ ((Value.ref T == Value.none) = true) from by simp)]
  refine flight_ (s' := { s' with heap := h₁ }) i₁ (fun q => nomatch q) fun h₂ sk sl hs i₂ => ?_
  obtain ⟨c1, c2⟩ := r0.stepped b1 b2 hpu (h' := h₂) ⟨sk, ⟨fun a o e n _ => sl.keep a o e n (fun z => nomatch z), fun a o e m => by
    obtain ⟨_, o', es, ep, e', d⟩ := b1.ff.mem m
    exact ⟨o.slots, sl.keep a o e (fun z => by obtain ⟨vs, d'⟩ := sl.recs a z o e; rw [e] at e'; cases e'; rw [d] at d'; cases d') (fun z => nomatch z)⟩, sl.recs⟩, hs⟩
  obtain ⟨i1, i2, oe, vs, dx, des, dn, t, h1, h2, h3, h4, h5, h6, h7, h8⟩ := i₂
  refine ⟨σ', ea, k, rfl, c1, c2, ⟨i1, i2, oe, vs, dx, des, dn, t, h1, h2, h3, h4, h5, h6, h7, ?_⟩, q'⟩
  rcases h8 with ⟨_, h8⟩ | ⟨T, oT, ts, v, k1, k2, k3, k4, k5, k6, k7⟩
  · cases h8
  · refine .inr ⟨T, oT, ts, v, k1, k2, k3, k4, k5, k6, ?_⟩
    rw [k7, hf]
    exact .inr (.inr rfl)
end
end Mine

namespace Mine
open PySem PySem.W PySem.Calls PyProof.Rows
noncomputable def callee (A : Around) (c : Cx) (env : Env) (room : Nat) : Cx := { A := A.deeper env, env, frames := env :: c.frames, pur := false, room }
noncomputable def retOf : AF → AV
  | .ret v => v
  | _ => .none
noncomputable def bindV : List Str → List AV → List (Str × AV) → List (Str × AV)
  | x :: xs, a :: as, acc => bindV xs as ((x, a) :: acc)
  | _, _, acc => acc
theorem lookup_cons' {l : List (Str × AV)} {x y : Str} {av : AV} : List.lookup y ((x, av) :: l) = if y = x then some av else l.lookup y := lookup_put
theorem bindL_vars {h : Heap} {kd : Str → Option NameKind} : ∀ {xs : List Str} {as : List AV} {vs : List Value} {acc : List (Str × AV)} {m : Str → Option Value}, VRs h as vs →
    (∀ x av, acc.lookup x = some av → kd x = some .local → ∃ v, m x = some v ∧ VR h av v) → ∀ x av, (bindV xs as acc).lookup x = some av → kd x = some .local → ∃ v, bindL kd (xs.zip vs) m x = some v ∧ VR h av v
  | [], _, _, _, _, _, ha => ha
  | _ :: _, [], _, _, _, e, ha => by cases e; exact ha
  | n :: xs, a :: as, _, acc, m, ⟨v, us, rfl, hv, hr⟩, ha => by
    refine bindL_vars (xs := xs) hr (m := if kd n = some .local then fun y => if y = n then some v else m y else m) fun x av e1 e2 => ?_
    rw [lookup_cons'] at e1
    by_cases q : x = n
    · subst q
      rw [if_pos rfl] at e1; cases e1
      rw [if_pos e2]; exact ⟨v, by simp, hv⟩
    · rw [if_neg q] at e1
      obtain ⟨u, h1, h2⟩ := ha x av e1 e2
      refine ⟨u, ?_, h2⟩
      split
      · simp [q, h1]
      · exact h1
theorem bindC_vars {h : Heap} {kd : Str → Option NameKind} : ∀ {xs : List Str} {as : List AV} {vs : List Value} {acc : List (Str × AV)} {m : Str → Option Value}, VRs h as vs →
    (∀ x av, acc.lookup x = some av → kd x ≠ some .local → ∃ v, m x = some v ∧ VR h av v) → ∀ x av, (bindV xs as acc).lookup x = some av → kd x ≠ some .local → ∃ v, bindC kd (xs.zip vs) m x = some v ∧ VR h av v
  | [], _, _, _, _, _, ha => ha
  | _ :: _, [], _, _, _, e, ha => by cases e; exact ha
  | n :: xs, a :: as, _, acc, m, ⟨v, us, rfl, hv, hr⟩, ha => by
    refine bindC_vars (xs := xs) hr (m := if kd n = some .local then m else fun y => if y = n then some v else m y) fun x av e1 e2 => ?_
    rw [lookup_cons'] at e1
    by_cases q : x = n
    · subst q
      rw [if_pos rfl] at e1; cases e1
      rw [if_neg e2]; exact ⟨v, by simp, hv⟩
    · rw [if_neg q] at e1
      obtain ⟨u, h1, h2⟩ := ha x av e1 e2
      refine ⟨u, ?_, h2⟩
      split
      · exact h1
      · simp [q, h1]
theorem bindV_names {xs : List Str} {x : Str} {av : AV} : ∀ {ys : List Str} {as : List AV} {acc : List (Str × AV)}, (∀ y ∈ ys, y ∈ xs) → (∀ y b, acc.lookup y = some b → y ∈ xs) → (bindV ys as acc).lookup x = some av → x ∈ xs
  | [], _, _, _, ha, e => ha _ _ e
  | _ :: _, [], _, _, ha, e => ha _ _ e
  | y :: ys, a :: as, acc, hy, ha, e => bindV_names (ys := ys) (fun z hz => hy z (List.mem_cons_of_mem _ hz)) (fun z b q => by
      rw [lookup_cons'] at q
      by_cases w : z = y
      · rw [w]; exact hy y (List.mem_cons_self ..)
      · rw [if_neg w] at q; exact ha z b q) e

section
variable {D : Wd} {c : Cx} {σ : St} {s : Shared} {X : Int → St → Prop} {Q : AV → St → Prop}

/-- a body run in a frame of its own -/
theorem bodyRun {c' : Cx} {body : List Stmt} {σ₁ : St} {s₁ : Shared} (r : Rep D c σ s) (hpu : c.pur = false) (hk : ∀ a o, s.heap.get? a = some o → s₁.heap.get? a = some o) (r₁ : Rep D c' σ₁ s₁) (hσ : ∀ a o, σ₁.hp a = some o → σ.hp a = some o)
    (hfr : c'.frames = c'.env :: c.frames) (hf : c'.env.frame = some c'.env.locals) (new : ∀ a ∈ fw c'.env, s.heap.get? a = none)
    (h : TF D c' (execs body c'.env) σ₁ (fun fl σ' => Q (retOf fl) ⟨σ.vars, σ'.hp⟩) (fun k σ' => X k ⟨σ.vars, σ'.hp⟩)) {R : Value → Shared → Prop} {E : Value → Shared → Prop}
    (hR : ∀ v s', (∃ b σ', Rep D c σ' s' ∧ Ext c σ s σ' s' ∧ VR s'.heap b v ∧ Q b σ') → R v s') (hE : ∀ e s', XP D c σ s X e s' → E e s') :
    wpAny (model D.prog D.w) c'.A (execs body c'.env) (fun fl s' => R (match fl with | .ret v => v | _ => .none) s')
      (fun e s' => wpAny (model D.prog D.w) c'.A (leaving c'.env e) (fun _ s'' => E e s'') (fun e' s'' => E e' s'') s') s₁ := by
  refine wpAny_mono (h s₁ r₁) (fun fl s' ⟨b, σ', r', x', v', q'⟩ => ?_) fun e s' ⟨σ', ea, k, e1, r', x', i', q'⟩ => ?_
  · obtain ⟨a1, a2⟩ := exit (tk := s'.toks) r hpu hk r' x' hσ hfr new (Slots.refl [] s'.heap) (fun _ m => nomatch m) (.inl rfl)
    refine hR _ _ ⟨retOf b, ⟨σ.vars, σ'.hp⟩, a1, a2, ?_, q'⟩
    cases b with
    | next =>
      have v2 : fl = .next := v'
      subst v2; rfl
    | brk =>
      have v2 : fl = .brk := v'
      subst v2; rfl
    | cont =>
      have v2 : fl = .cont := v'
      subst v2; rfl
    | ret v => obtain ⟨u, rfl, hu⟩ := v'; exact hu
  · subst e1
    refine exc_leave r' hfr hf r₁ x' i' fun h' ⟨skip, z, zs⟩ i'' => hE _ _ ?_
    have old : ∀ a, s₁.heap.get? a = none → s.heap.get? a = none := fun a w => by
      cases q : s.heap.get? a with
      | none => rfl
      | some o => rw [hk a o q] at w; cases w
    obtain ⟨a1, a2⟩ := exit (tk := s'.toks) r hpu hk r' x' hσ hfr new z (fun a m => ⟨old a (zs a m).1, (zs a m).2⟩) (.inr rfl)
    obtain ⟨i1, i2, oe, vs, dx, es, n, t, h1, h2, h3, h4, h5, h6, h7, h8⟩ := i''
    refine ⟨⟨σ.vars, σ'.hp⟩, ea, k, rfl, a1, a2, ⟨old _ i1, i2, oe, vs, dx, es, n, t, h1, h2, h3, h4, old _ h5, h6, h7, ?_⟩, q'⟩
    rcases h8 with ⟨_, h8⟩ | ⟨T, oT, ts, v, g1, g2, g3, g4, g5, g6, g7⟩
    · cases h8
    · exact .inr ⟨T, oT, ts, v, g1, ⟨old _ g2.1, g2.2⟩, g3, g4, g5, g6, .inr (.inl g7)⟩

/-- a function of the text's own -/
structure FnOk (D : Wd) (f : Addr) (fd : FuncData) (xs : List Str) (body : List Stmt) : Prop where
  at_ : ∃ oc od osl, D.K.lookup f = some ⟨oc, od, .func fd, osl⟩
  code : codeIn D.K fd.code fd.qualname = true
  body : fd.body = .stmts body
  glob : fd.globals = mainGlobals
  blt : fd.builtins = builtinsNs
  clo : fd.closure = []
  kind : fd.scope.kind = .function
  co : fd.scope.isCoroutine = false
  gen : fd.scope.isGenerator = false
  bind : ∀ vs : List Value, vs.length = xs.length → bindArgs fd ⟨vs, []⟩ = pure (xs.zip vs)
  kinds : ∀ n, ∀ x ∈ xs, fd.scope.names.lookup x = some .local ∨ (fd.scope.names.lookup x = some .cell ∧ ((cellsFrom n fd.scope.names []).lookup x).isSome = true)
  nodup : ((cellsFrom 0 fd.scope.names []).map (·.1)).Nodup

theorem callAny (A : Around) {f : Addr} {fd : FuncData} {xs : List Str} {body : List Stmt} {as : List AV} {room : Nat} (ok : FnOk D f fd xs body) (hl : as.length = xs.length) (hpu : c.pur = false) (hA : A.frames = some c.frames ∧ A.handled = none ∧ A.depth + 1 + room < recursionLimit ∧ A.units + 8 * room + 204 < cLine)
    (h : ∀ L, TF D (callee A c (callEnvC fd L f) room) (execs body (callEnvC fd L f)) ⟨bindV xs as [], σ.hp⟩ (fun fl σ' => Q (retOf fl) ⟨σ.vars, σ'.hp⟩) (fun k σ' => X k ⟨σ.vars, σ'.hp⟩))
    {vs : List Value} (r : Rep D c σ s) (hv : VRs s.heap as vs) :
    codeAny (model D.prog D.w) A (.call (.ref f) ⟨vs, []⟩) (fun r s' => match r with | .ok (.ret v) => (∃ b σ', Rep D c σ' s' ∧ Ext c σ s σ' s' ∧ VR s'.heap b v ∧ Q b σ') | .ok _ => False | .error e => XP D c σ s X e s') s := by
  obtain ⟨oc, od, osl, hK⟩ := ok.at_
  have hlen : vs.length = xs.length := by rw [hv.length, hl]
  have keyOf : ∀ x ∈ xs.zip vs, x.1 ∈ xs := fun x hx => (List.of_mem_zip hx).1
  refine codeAny_call_cells (by omega) (r.K _ _ hK) rfl (r.st.nolimit.keeps r.base) (codeRec_of r.K ok.code) ok.body (ok.bind vs hlen) ok.clo (fun x hx => ok.kinds _ x.1 (keyOf x hx)) (fun s₁ x => ?_) ok.co ok.gen ok.kind
  obtain ⟨h₁, tk, rfl, hk⟩ := x.done
  have lt_none : ∀ a, s.heap.objs.size ≤ a → s.heap.get? a = none := fun a ha => Heap.get?_none_of_le ha
  have newc : ∀ a ∈ fa (callEnvC fd s.heap.objs.size f), s.heap.get? a = none := fun a ha => by
    rcases List.mem_cons.mp ha with rfl | ha
    · exact lt_none _ (Nat.le_refl _)
    · obtain ⟨p, hp, rfl⟩ := List.mem_map.mp ha
      exact lt_none _ (Nat.le_of_lt (x.above p.1 p.2 hp))
  have okc : CxOk (callee A c (callEnvC fd s.heap.objs.size f) room) := by
    refine ⟨ok.kind, ok.glob, ok.blt, Around.frames_deeper hA.1, hA.2.1, ?_, ?_, List.pairwise_map.mpr x.apart, fun m => ?_⟩
    · show A.depth + 1 + room < recursionLimit; omega
    · show A.units + 3 + 8 * room + 200 < cLine; omega
    · obtain ⟨p, hp, e⟩ := List.mem_map.mp m
      exact absurd (x.above p.1 p.2 hp) (by rw [e]; exact Nat.lt_irrefl _)
  have hnd : ((callEnvC fd s.heap.objs.size f).cells.map (·.1)).Nodup := cellsFrom_names fd.scope.names 0 (s.heap.objs.size + 1) [] [] rfl ▸ ok.nodup
  have t : TK s.heap h₁ := TK.of_keeps hk
  have kdx : ∀ y, (callEnvC fd s.heap.objs.size f).kindOf y = fd.scope.names.lookup y ∨ ∀ k, fd.scope.names.lookup y ≠ some k := fun y => by
    cases q : fd.scope.names.lookup y with
    | none => exact .inr fun k e => nomatch e
    | some k => exact .inl q
  have fr : FrRep (callEnvC fd s.heap.objs.size f) (bindV xs as []) h₁ := by
    refine ⟨⟨_, x.toInCall.ns, bindL_vars (hv.mono t) (fun _ _ e => by cases e)⟩, fun y av e1 e2 => ?_, fun p hp => ⟨_, x.cell p.1 p.2 (lookup_of_mem_nodup hnd hp)⟩⟩
    have hy : y ∈ xs := bindV_names (fun _ h => h) (fun _ _ e => by cases e) e1
    have nl : (callEnvC fd s.heap.objs.size f).kindOf y ≠ some .local := fun q => by rw [q] at e2; rcases e2 with e2 | e2 <;> cases e2
    obtain ⟨v, h1, h2⟩ := bindC_vars (hv.mono t) (fun _ _ e => by cases e) y av e1 nl
    rcases ok.kinds (s.heap.objs.size + 1) y hy with q | ⟨q, qc⟩
    · rcases kdx y with z | z
      · exact absurd (z.trans q) nl
      · exact absurd q (z _)
    · obtain ⟨a, ha⟩ := Option.isSome_iff_exists.mp qc
      exact ⟨a, v, ha, h1 ▸ x.cell y a ha, h2⟩
  have r₁ : Rep D (callee A c (callEnvC fd s.heap.objs.size f) room) ⟨bindV xs as [], σ.hp⟩ { s with heap := h₁, toks := tk } :=
    enter r okc rfl rfl hk (newc _ (List.mem_cons_self ..)) (fun a o e => .inl e) (fun a ha => ⟨r.untracked (newc a ha), fun _ => by
      cases q : D.base.get? a with
      | none => rfl
      | some o => have := r.base a o q; rw [newc a ha] at this; cases this⟩) fr
  exact bodyRun (c' := callee A c (callEnvC fd s.heap.objs.size f) room) r hpu hk r₁ (fun _ _ e => e) rfl rfl (fun a ha => newc a (fw_fa ha)) (h _) (fun _ _ h => h) (fun _ _ h => h)

theorem TO_fn {f : Addr} {fd : FuncData} {xs : List Str} {body : List Stmt} {as : List AV} {room : Nat} (ok : FnOk D f fd xs body) (hl : as.length = xs.length) (hpu : c.pur = false) (hr : room < c.room)
    (h : ∀ L, TF D (callee c.A c (callEnvC fd L f) room) (execs body (callEnvC fd L f)) ⟨bindV xs as [], σ.hp⟩ (fun fl σ' => Q (retOf fl) ⟨σ.vars, σ'.hp⟩) (fun k σ' => X k ⟨σ.vars, σ'.hp⟩)) :
    TO D c VR as (fun vs => call (.ref f) vs) σ Q X := fun s vs r hv => by
  have h1 := r.ok.depth
  have h2 := r.ok.units
  exact wpAny_call (callAny c.A ok hl hpu ⟨r.ok.frames, r.ok.handled, by omega, by omega⟩ h r hv)

/-! call forms -/
noncomputable def Kp (D : Wd) (c : Cx) (σ : St) (f : Value) : Prop := ∀ s, Rep D c σ s → ∃ k, (k = Keeper.frame ∨ k = Keeper.machine ∨ k = Keeper.boundFrame) ∧ Looks (model D.prog D.w) s.heap (keeperOf f) k
theorem Kp_K {f : Value} (h : keepIn D.K f = true) : Kp D c σ f := fun s r => keeps_K h _ r.K
theorem Kp_b {id : String} : Kp D c σ (.builtin id) := fun s r => ⟨.machine, .inr (.inl rfl), Looks.now⟩
theorem Kp_t {id : String} : Kp D c σ (.type id) := fun s r => ⟨.machine, .inr (.inl rfl), Looks.now⟩
theorem plain_any {env : Env} {pos : Pos} : ∀ {args : List Expr}, Plain env args → (backTo pos (starEach args env)).any (·.1) = false → True := fun _ _ => trivial

theorem callWith_run {pos : Pos} {f : Value} {first : List Value} {fs : List AV} {args : List Expr} (hp : Plain c.env args) (hn : (backTo pos (starEach args c.env)).any (·.1) = false)
    (h : TEs D c args σ (fun as σ₂ => Kp D c σ₂ f ∧ TO D c VR (fs ++ as) (fun vs => call f vs) σ₂ Q X) X) {σ₀ : St} {s₀ : Shared} (r : Rep D c σ s) (e : Ext c σ₀ s₀ σ s) (hf : VRs s.heap fs first) :
    wpAny (model D.prog D.w) c.A (callWith pos f first (backTo pos (starEach args c.env)) []) (fun v s' => ∃ b σ', Rep D c σ' s' ∧ Ext c σ₀ s₀ σ' s' ∧ VR s'.heap b v ∧ Q b σ') (XP D c σ₀ s₀ X) s := by
  refine callWith_of (P := fun h => ∃ k, (k = Keeper.frame ∨ k = Keeper.machine ∨ k = Keeper.boundFrame) ∧ Looks (model D.prog D.w) h (keeperOf f) k) (by rw [hn]; rfl) (fun _ h => h) ?_
  have fin : ∀ vs s' as σ', Rep D c σ' s' → Ext c σ s σ' s' → Ext c σ₀ s₀ σ' s' → VRs s'.heap as vs → as.length = args.length → (Kp D c σ' f ∧ TO D c VR (fs ++ as) (fun vs => call f vs) σ' Q X) →
      (∃ k, (k = Keeper.frame ∨ k = Keeper.machine ∨ k = Keeper.boundFrame) ∧ Looks (model D.prog D.w) s'.heap (keeperOf f) k) ∧ wpAny (model D.prog D.w) c.A (call f (first ++ vs)) (fun v s' => ∃ b σ', Rep D c σ' s' ∧ Ext c σ₀ s₀ σ' s' ∧ VR s'.heap b v ∧ Q b σ') (XP D c σ₀ s₀ X) s' := by
    intro vs s' as σ' r' e' e'' v' l' q'
    exact ⟨q'.1 s' r', q'.2.use r' ((hf.mono e'.tk).append v') e'' fun a s'' b σ'' r2 _ e2 v2 q2 => ⟨b, σ'', r2, e2, v2, q2⟩⟩
  cases args with
  | nil => exact evalArgs_nil3 (fin [] s [] σ r (Ext.refl ..) e rfl rfl h)
  | cons x rest =>
    have run := h.run (pos := pos) hp r e (P := fun vs s' => (∃ k, (k = Keeper.frame ∨ k = Keeper.machine ∨ k = Keeper.boundFrame) ∧ Looks (model D.prog D.w) s'.heap (keeperOf f) k) ∧ wpAny (model D.prog D.w) c.A (call f (first ++ vs)) (fun v s' => ∃ b σ', Rep D c σ' s' ∧ Ext c σ₀ s₀ σ' s' ∧ VR s'.heap b v ∧ Q b σ') (XP D c σ₀ s₀ X) s') fin
    rw [hp.1] at run ⊢
    exact evalArgs_plain run
theorem TE_call {x : Str} {np pos : Pos} {args : List Expr} (hp : Plain c.env args) (hn : (backTo pos (starEach args c.env)).any (·.1) = false)
    (h : TE D c (eval (.Name x np) c.env) σ (fun a σ₁ => ∃ f, (∀ h v, VR h a v → v = f) ∧ TEs D c args σ₁ (fun as σ₂ => Kp D c σ₂ f ∧ TO D c VR as (fun vs => call f vs) σ₂ Q X) X) X) : TE D c (eval (.Call (.Name x np) args [] pos) c.env) σ Q X := fun s r => by
  refine Call_Name rfl (h.use r (Ext.refl ..) fun u s₁ a σ₁ r₁ _ e₁ v₁ q₁ => ?_)
  obtain ⟨f, hf, q⟩ := q₁
  rw [hf _ _ v₁]
  exact callWith_run (fs := []) hp hn q r₁ e₁ rfl
/-- how a method is got -/
noncomputable def IsMeth (D : Wd) (c : Cx) (σ : St) (a : AV) (name : Str) (f : Value) : Prop := ∀ s u, Rep D c σ s → VR s.heap a u → ∀ (pl : Sem Bool) (P : Value × List Value → Shared → Prop) E, P (f, [u]) s → wpAny (model D.prog D.w) c.A (getMethod u name pl) P E s
theorem TE_method {o : Expr} {name : Str} {apos pos : Pos} {args : List Expr} (hb : attributeBase o name c.env (eval o c.env) = eval o c.env) (hform : methodCallForm (args.length + ([] : List Keyword).length) (backTo pos (starEach args c.env)) (backToKw pos (keywordEach [] c.env)) = true) (hline : (apos.endLine == pos.line) = true)
    (hp : Plain c.env args) (hn : (backTo pos (starEach args c.env)).any (·.1) = false)
    (h : TE D c (eval o c.env) σ (fun a σ₁ => ∃ f, IsMeth D c σ₁ a name f ∧ TEs D c args σ₁ (fun as σ₂ => Kp D c σ₂ f ∧ TO D c VR (a :: as) (fun vs => call f vs) σ₂ Q X) X) X) : TE D c (eval (.Call (.Attribute o name apos) args [] pos) c.env) σ Q X := fun s r => by
  rw [arm_eval_Call, hb]
  refine wpAny_bind (h.use r (Ext.refl ..) fun u s₁ a σ₁ r₁ _ e₁ v₁ q₁ => wpAny_bind (wpAny_standAt ?_))
  obtain ⟨f, hm, q⟩ := q₁
  have hpos : methodCallPos true o c.env apos pos = pure pos := by unfold methodCallPos; simp [hline]
  unfold methodCall
  rw [hform]
  refine wpAny_bind (wpAny_holding (hm s₁ u r₁ v₁ _ _ _ ?_))
  exact wpAny_bind (wpAny_of_eq hpos (callWith_run (fs := [a]) hp hn q r₁ e₁ (.one v₁)))
theorem M_list {a : Addr} {xs : List AV} {name : Str} {id : String} (ha : σ.hp a = some (.list xs)) (sl : Slot "list" name id) (ht : typeOf (.builtin id) = pure (.type "method_descriptor")) : IsMeth D c σ (.obj a) name (.builtin id) := fun s u r e pl P E h => by
  have e' : u = .ref a := e
  subst e'
  obtain ⟨vs, ⟨n, p⟩, hv⟩ := r.list ha
  exact getMethod_builtin (T := "list") (Heap.IsList.typeIs ⟨_, p, rfl, n, rfl⟩) PySem.F.plainAttrs_list sl ht (fun b q => by cases q; exact ⟨_, p, rfl⟩) h
theorem M_dict {a : Addr} {kvs : List (Int × AV)} {name : Str} {id : String} (ha : σ.hp a = some (.dict kvs)) (sl : Slot "dict" name id) (ht : typeOf (.builtin id) = pure (.type "method_descriptor")) : IsMeth D c σ (.obj a) name (.builtin id) := fun s u r e pl P E h => by
  have e' : u = .ref a := e
  subst e'
  obtain ⟨vs, p, hv, _⟩ := r.dict ha
  exact getMethod_builtin (T := "dict") p.typeIs PySem.F.plainAttrs_dict sl ht p.mapOf.noDict h
theorem M_inst {x d C f : Addr} {l : List (Str × AV)} {name : Str} (hx : σ.hp x = some (.inst C d)) (hd : σ.hp d = some (.ns l)) (hl : l.lookup name = none) (hg : plainGet D.K C name = true) (hf : findIn D.K (.ref C) name = some (some (.ref f))) (ht : isFn D.K (.ref f) = true) :
    IsMeth D c σ (.obj x) name (.ref f) := fun s u r e pl P E h => by
  have e' : u = .ref x := e
  subst e'
  obtain ⟨ox, es, n, o1, o2, o3, o4⟩ := r.inst hx hd
  exact method_fn r.K o2 (plainGet_of hg).1 (plainGet_of hg).2 hf (beq_iff_eq.mp ht) (by show (lookIn name (dictOf es n)).map _ = _; rw [lookIn_dict, o4.gets_none hl]; rfl) h
end
end Mine

namespace Mine
open PySem PySem.W PySem.Calls PyProof.Rows
section
variable {D : Wd} {c : Cx} {σ : St} {s : Shared} {X : Int → St → Prop} {Q : AV → St → Prop}
theorem VRs.push {h : Heap} {xs : List AV} {vs : List Value} {x : AV} {v : Value} (a : VRs h xs vs) (b : VR h x v) : VRs h (xs ++ [x]) (vs ++ [v]) := a.append (.one b)

theorem B_append {a : Addr} {xs : List AV} {x : AV} (hpu : c.pur = false) (ha : σ.hp a = some (.list xs)) (hz : xs.length ≤ 1000) (h : Q .none { σ with hp := σ.hp.set a (.list (xs ++ [x])) }) :
    TO D c VR [.obj a, x] (fun vs => call (.builtin "list.append") vs) σ Q X := fun s vs r hv => by
  obtain ⟨u, us, rfl, e, v, us', rfl, hx, e0⟩ := hv
  have e' : u = .ref a := e
  have e0' : us' = [] := e0
  subst e' e0'
  obtain ⟨ws, p, hw⟩ := r.list ha
  refine wpAny_list_append_plain p (fun h' p' hs => ?_) (by rw [List.size_toArray, hw.length]; exact Nat.le_trans hz (by decide))
  obtain ⟨n, p'⟩ := p'
  rw [List.push_toArray] at p'
  obtain ⟨a1, a2⟩ := r.turn (tk := s.toks) (o' := .list (xs ++ [x])) ha hpu hs p' ⟨_, _, rfl, hw.push hx⟩ (fun _ q => nomatch q)
  exact ⟨.none, _, a1, a2, rfl, h⟩
theorem O_setitem {Q : Unit → St → Prop} {d : Addr} {kvs : List (Int × AV)} {k : Int} {x : AV} (hpu : c.pur = false) (hd : σ.hp d = some (.dict kvs)) (hz : kvs.length ≤ 1000) (h : Q () { σ with hp := σ.hp.set d (.dict (dPut kvs k x)) }) :
    TO3 D c EqR (.obj d) (.int k) x (fun u i v => setItem u i v) σ Q X := fun s u i v r e ⟨t, ei⟩ hx => by
  have e' : u = .ref d := e
  subst e' ei
  obtain ⟨vs, p, hv, n⟩ := r.dict hd
  refine wpAny_setItem_pairs (knd := intKind D.prog D.w) key_is p (fun h' hm hs => ?_) (by rw [hv.length]; exact Nat.le_trans hz (by decide))
  obtain ⟨ob, ho, hdo⟩ := Heap.dictOf_iff.mp hm
  obtain ⟨a1, a2⟩ := r.turn (tk := s.toks + 1) (o' := .dict (dPut kvs k x)) hd hpu hs ho ⟨_, hdo, hv.put hx⟩ (fun _ _ => r.nm d _ hd)
  exact ⟨(), _, a1, a2, rfl, h⟩
theorem popThere {d : Addr} {kvs : List (Int × AV)} {k : Int} {x : AV} {rest : List Value} {t : Tok} (hpu : c.pur = false) (hd : σ.hp d = some (.dict kvs)) (hz : kvs.length ≤ 1000) (hx : kvs.lookup k = some x) (h : Q x { σ with hp := σ.hp.set d (.dict (dDel kvs k)) })
    (hrest : rest = [] ∨ ∃ dflt, rest = [dflt]) (r : Rep D c σ s) : wpAny (model D.prog D.w) c.A (call (.builtin "dict.pop") (.ref d :: .int k t :: rest)) (fun v s' => ∃ b σ', Rep D c σ' s' ∧ Ext c σ s σ' s' ∧ VR s'.heap b v ∧ Q b σ') (XP D c σ s X) s := by
  obtain ⟨vs, p, hv, n⟩ := r.dict hd
  obtain ⟨y, hy, hyx⟩ := hv.get hx
  have args : argsOk "dict.pop" ⟨.ref d :: .int k t :: rest, []⟩ := by
    rcases hrest with rfl | ⟨z, rfl⟩
    · exact PySem.F.args_dict_pop_2 _ _
    · exact PySem.F.args_dict_pop_3 _ _ _
  refine call_meetsIn PySem.F.slot_dict_pop p.typeIs PySem.F.entry_dict_pop args (meets_dict_pop_there (intKind D.prog D.w) (k := k) d key_is rest hrest rfl) ⟨vs, y, p, by rw [hv.length]; exact Nat.le_trans hz (by decide), hy, fun h' hm hs => ?_⟩
  obtain ⟨ob, ho, hdo⟩ := Heap.dictOf_iff.mp hm
  obtain ⟨a1, a2⟩ := r.turn (tk := s.toks + 1) (o' := .dict (dDel kvs k)) hd hpu hs ho ⟨_, hdo, hv.del⟩ (fun _ _ => r.nm d _ hd)
  exact ⟨_, _, a1, a2, hyx.mono a2.tk, h⟩
theorem B_pop {d : Addr} {kvs : List (Int × AV)} {k : Int} {x : AV} (hpu : c.pur = false) (hd : σ.hp d = some (.dict kvs)) (hz : kvs.length ≤ 1000) (hx : kvs.lookup k = some x) (h : Q x { σ with hp := σ.hp.set d (.dict (dDel kvs k)) }) :
    TO D c VR [.obj d, .int k] (fun vs => call (.builtin "dict.pop") vs) σ Q X := fun s vs r hv => by
  obtain ⟨u, us, rfl, e, v, us', rfl, ⟨t, hk⟩, e0⟩ := hv
  have e' : u = .ref d := e
  have e0' : us' = [] := e0
  subst e' e0' hk
  exact popThere hpu hd hz hx h (.inl rfl) r
theorem B_popd {d : Addr} {kvs : List (Int × AV)} {k : Int} {y : AV} (hpu : c.pur = false) (hd : σ.hp d = some (.dict kvs)) (hz : kvs.length ≤ 1000) (h1 : ∀ x, kvs.lookup k = some x → Q x { σ with hp := σ.hp.set d (.dict (dDel kvs k)) }) (h2 : kvs.lookup k = none → Q y σ) :
    TO D c VR [.obj d, .int k, y] (fun vs => call (.builtin "dict.pop") vs) σ Q X := fun s vs r hv => by
  obtain ⟨u, us, rfl, e, v, us', rfl, ⟨t, hk⟩, z, us'', rfl, hy, e0⟩ := hv
  have e' : u = .ref d := e
  have e0' : us'' = [] := e0
  subst e' e0' hk
  cases q : kvs.lookup k with
  | some x => exact popThere hpu hd hz q (h1 x q) (.inr ⟨_, rfl⟩) r
  | none =>
    obtain ⟨vs, p, hv, n⟩ := r.dict hd
    exact call_meetsIn PySem.F.slot_dict_pop p.typeIs PySem.F.entry_dict_pop (PySem.F.args_dict_pop_3 _ _ _) (meets_dict_pop_default (knd := intKind D.prog D.w) (k := k) (d := d) key_is n rfl z) ⟨vs, p, hv.miss q, post0 r hy (h2 q)⟩
theorem B_values {d : Addr} {kvs : List (Int × AV)} (hd : σ.hp d = some (.dict kvs)) (h : ∀ a, σ.hp a = none → Q (.obj a) { σ with hp := σ.hp.set a (.view d) }) :
    TO D c VR [.obj d] (fun vs => call (.builtin "dict.values") vs) σ Q X := fun s vs r hv => by
  obtain ⟨u, us, rfl, e, e0⟩ := hv
  have e' : u = .ref d := e
  have e0' : us = [] := e0
  subst e' e0'
  obtain ⟨vs, p, hv, n⟩ := r.dict hd
  refine call_meetsIn PySem.F.slot_dict_values p.typeIs PySem.F.entry_dict_values (PySem.F.args_dict_values_1 _) (meets_dict_values (intKind D.prog D.w) d n) ⟨⟨vs, p⟩, ?_⟩
  obtain ⟨a1, a2⟩ := r.alloc (tk := s.toks) (o := .view d) push_keeps (fresh_none _) (Heap.get?_push_size s.heap (o := { cls := .type "dict_values", data := .fields #[.ref d] }) rfl) rfl (fun _ q => nomatch q)
  exact ⟨.obj _, _, a1, a2, rfl, h _ (r.untracked (fresh_none _))⟩
theorem B_len_list {a : Addr} {xs : List AV} (ha : σ.hp a = some (.list xs)) (hz : xs.length ≤ 1000) (h : Q (.int xs.length) σ) : TO D c VR [.obj a] (fun vs => call (.builtin "len") vs) σ Q X := fun s vs r hv => by
  obtain ⟨u, us, rfl, e, e0⟩ := hv
  have e' : u = .ref a := e
  have e0' : us = [] := e0
  subst e' e0'
  obtain ⟨ws, p, hw⟩ := r.list ha
  exact len_at p.isList (by rw [List.size_toArray, hw.length]; exact hz) (by rw [List.size_toArray, hw.length]; exact pI r h)
theorem B_len_dict {a : Addr} {xs : List (Int × AV)} (ha : σ.hp a = some (.dict xs)) (hz : xs.length ≤ 1000) (h : Q (.int xs.length) σ) : TO D c VR [.obj a] (fun vs => call (.builtin "len") vs) σ Q X := fun s vs r hv => by
  obtain ⟨u, us, rfl, e, e0⟩ := hv
  have e' : u = .ref a := e
  have e0' : us = [] := e0
  subst e' e0'
  obtain ⟨ws, p, hw, n⟩ := r.dict ha
  refine call_len_dict (knd := intKind D.prog D.w) n p (by rw [hw.length]; omega) ?_
  rw [hw.length]
  exact pI r h
theorem B_len_bytes {b : Array UInt8} (hz : b.size ≤ 1000) (h : Q (.int b.size) σ) : TO D c VR [.bytes b] (fun vs => call (.builtin "len") vs) σ Q X := fun s vs r hv => by
  obtain ⟨u, us, rfl, ⟨t, e⟩, e0⟩ := hv
  have e0' : us = [] := e0
  subst e e0'
  exact len_bytes (by omega) (pI r h)
/-- a step that only lets new objects stand, the frame and the ledger being the library's -/
theorem grown {a : Addr} (r : Rep D c σ s) {h' : Heap} {tk : Nat} {m : Str → Option Value} (hpu : c.pur = false) (F : Fr nil c.env.locals s.heap m) (F' : Fr nil c.env.locals h' m) {l : List (Addr × Obj)} (N : News nil c.env.locals h' l) (hl : ∀ p ∈ allBut s.heap (fun b => b == c.env.locals), p ∈ l) :
    Rep D c σ { s with heap := h', toks := tk } ∧ Ext c σ s σ { s with heap := h', toks := tk } := r.stepG hpu F.ns F'.ns (kept_ofAll N hl)
theorem B_max {a b : Int} (hpu : c.pur = false) (h : Q (.int (if b > a then b else a)) σ) : TO D c VR [.int a, .int b] (fun vs => call (.builtin "max") vs) σ Q X := fun s vs r hv => by
  obtain ⟨u, us, rfl, ⟨t, e⟩, v, us', rfl, ⟨t', e'⟩, e0⟩ := hv
  have e0' : us' = [] := e0
  subst e e' e0'
  obtain ⟨m, n, _⟩ := r.fr.loc
  refine max_two_N r.ok.handled (frAll n) (newsAll (L := c.env.locals)) fun h' tk F' N' => ?_
  obtain ⟨a1, a2⟩ := r.stepG (tk := tk) hpu n F'.ns (kept_ofAll N' fun _ h => h)
  exact ⟨.int _, σ, a1, a2, ⟨_, rfl⟩, h⟩
theorem B_min {a b : Int} (hpu : c.pur = false) (h : Q (.int (if b < a then b else a)) σ) : TO D c VR [.int a, .int b] (fun vs => call (.builtin "min") vs) σ Q X := fun s vs r hv => by
  obtain ⟨u, us, rfl, ⟨t, e⟩, v, us', rfl, ⟨t', e'⟩, e0⟩ := hv
  have e0' : us' = [] := e0
  subst e e' e0'
  obtain ⟨m, n, _⟩ := r.fr.loc
  refine min_two_N r.ok.handled (frAll n) (newsAll (L := c.env.locals)) fun h' tk F' N' => ?_
  obtain ⟨a1, a2⟩ := r.stepG (tk := tk) hpu n F'.ns (kept_ofAll N' fun _ h => h)
  exact ⟨.int _, σ, a1, a2, ⟨_, rfl⟩, h⟩
theorem B_abs {a : Int} (h : Q (.int (if a < 0 then -a else a)) σ) : TO D c VR [.int a] (fun vs => call (.builtin "abs") vs) σ Q X := fun s vs r hv => by
  obtain ⟨u, us, rfl, ⟨t, e⟩, e0⟩ := hv
  have e0' : us = [] := e0
  subst e e0'
  exact call_abs_int fun u tk => post0 (b := AV.int _) (R := VR) r ⟨_, rfl⟩ h
theorem O_addl {a b : Addr} {xs ys : List AV} (hpu : c.pur = false) (ha : σ.hp a = some (.list xs)) (hb : σ.hp b = some (.list ys)) (hz : xs.length + ys.length ≤ 1000) (h : ∀ z, σ.hp z = none → Q (.obj z) { σ with hp := σ.hp.set z (.list (xs ++ ys)) }) :
    TO2 D c VR (.obj a) (.obj b) (binaryOp .Add) σ Q X := fun s u v r e e' => by
  have e0 : u = .ref a := e
  have e1 : v = .ref b := e'
  subst e0 e1
  obtain ⟨vs, p, hv⟩ := r.list ha
  obtain ⟨us, q, hu⟩ := r.list hb
  obtain ⟨m, n, _⟩ := r.fr.loc
  refine add_arrays (frAll n) (newsAll (L := c.env.locals)) p.isList q.isList (fun h' F' N' => ?_) (by rw [List.size_toArray, List.size_toArray, hv.length, hu.length]; exact Nat.le_trans hz (by decide))
  have kp : ∀ b o, b ≠ c.env.locals → s.heap.get? b = some o → h'.get? b = some o := kept_ofAll N' fun _ h => List.mem_cons_of_mem _ h
  obtain ⟨a1, a2⟩ := r.step (tk := s.toks) (h' := h') hpu n F'.ns (a := s.heap.objs.size) (o' := .list (xs ++ ys)) (fun b o _ n2 e => kp b o n2 e) (N' _ (List.mem_cons_self ..)).1 ⟨vs ++ us, 0, rfl, hv.append hu⟩ (.inr (fresh_none _)) (fun _ q => nomatch q)
  exact ⟨.obj _, _, a1, a2, rfl, h _ (r.untracked (fresh_none _))⟩
theorem repl_eq (v : Value) : ∀ n : Nat, (List.foldl (fun (x1 x2 : Array Value) => x1 ++ x2) #[] (List.replicate n #[v])) = (List.replicate n v).toArray := by
  have aux : ∀ (n : Nat) (acc : Array Value), (List.foldl (fun (x1 x2 : Array Value) => x1 ++ x2) acc (List.replicate n #[v])) = (acc.toList ++ List.replicate n v).toArray := by
    intro n
    induction n with
    | zero => intro acc; simp
    | succ n ih => intro acc; rw [List.replicate_succ, List.foldl_cons, ih, List.replicate_succ]; simp
  intro n
  rw [aux]; simp
theorem O_mul1 {a : Addr} {x : AV} {k : Int} (hpu : c.pur = false) (ha : σ.hp a = some (.list [x])) (hk : 0 ≤ k ∧ k ≤ 1000) (h : ∀ z, σ.hp z = none → Q (.obj z) { σ with hp := σ.hp.set z (.list (List.replicate k.toNat x)) }) :
    TO2 D c VR (.obj a) (.int k) (binaryOp .Mult) σ Q X := fun s u v r e ⟨t, e'⟩ => by
  have e0 : u = .ref a := e
  subst e0 e'
  obtain ⟨vs, ⟨nn, p⟩, y, us, rfl, hy, e2⟩ := r.list ha
  have e3 : us = [] := e2
  subst e3
  obtain ⟨m, n, _⟩ := r.fr.loc
  refine mul_list (frAll n) (newsAll (L := c.env.locals)) p (by omega) (by omega) (by simp; omega) fun h' F' N' => ?_
  have kp : ∀ b o, b ≠ c.env.locals → s.heap.get? b = some o → h'.get? b = some o := kept_ofAll N' fun _ h => List.mem_cons_of_mem _ h
  have g := (N' _ (List.mem_cons_self ..)).1
  have e9 : (if ([y].toArray).isEmpty = true then 0 else k.toNat) = k.toNat := by simp
  rw [e9, show [y].toArray = #[y] from rfl, repl_eq] at g
  have rp : ∀ n, VRs s.heap (List.replicate n x) (List.replicate n y) := fun n => by
    induction n with
    | zero => rfl
    | succ n ih => exact ⟨y, _, rfl, hy, ih⟩
  obtain ⟨a1, a2⟩ := r.step (tk := s.toks) (h' := h') hpu n F'.ns (a := s.heap.objs.size) (o' := .list (List.replicate k.toNat x)) (fun b o _ n2 e => kp b o n2 e) g ⟨_, 0, rfl, rp _⟩ (.inr (fresh_none _)) (fun _ q => nomatch q)
  exact ⟨.obj _, _, a1, a2, rfl, h _ (r.untracked (fresh_none _))⟩
end
end Mine

namespace Mine
open PySem PySem.W PySem.Calls PyProof.Rows
noncomputable def iL (ns : List Int) : AO := .list (ns.map .int)
section
variable {D : Wd} {c : Cx} {σ : St} {s : Shared} {X : Int → St → Prop} {Q : AV → St → Prop}
noncomputable def Srt (ns' ns : List Int) : Prop := ns'.Perm ns ∧ ns'.Pairwise (· ≤ ·)
theorem B_sorted_list {a : Addr} {ns : List Int} (hpu : c.pur = false) (ha : σ.hp a = some (.list (ns.map .int))) (h64 : ns.length < 64) (h : ∀ z ns', σ.hp z = none → Srt ns' ns → Q (.obj z) { σ with hp := σ.hp.set z (.list (ns'.map .int)) }) :
    TO D c VR [.obj a] (fun vs => call (.builtin "sorted") vs) σ Q X := fun s vs r hv => by
  obtain ⟨u, us, rfl, e, e0⟩ := hv
  have e' : u = .ref a := e
  have e0' : us = [] := e0
  subst e' e0'
  obtain ⟨ws, p, hw⟩ := r.list ha
  obtain ⟨m, n, _⟩ := r.fr.loc
  have hi := ints_of hw
  refine sorted_N (frAll n) (newsAll (L := c.env.locals)) p.isList hi (by rw [hw.length]; simpa using h64) fun h' vs' ns' ep F' N' hi' hp hs => ?_
  have kp : ∀ b o, b ≠ c.env.locals → s.heap.get? b = some o → h'.get? b = some o := kept_ofAll N' fun _ h => List.mem_cons_of_mem _ h
  have g := (N' _ (List.mem_cons_self ..)).1
  have hn : s.heap.get? (s.heap.objs.size + 1) = none := Heap.get?_none_of_le (Nat.le_succ _)
  have rp : VRs h' (ns'.map .int) vs' := of_ints hi'
  have rp0 : VRs s.heap (ns'.map .int) vs' := of_ints hi'
  obtain ⟨a1, a2⟩ := r.step (tk := s.toks) (h' := h') hpu n F'.ns (a := s.heap.objs.size + 1) (o' := .list (ns'.map .int)) (fun b o _ n2 e => kp b o n2 e) g ⟨vs', ep, rfl, rp0⟩ (.inr hn) (fun _ q => nomatch q)
  exact ⟨.obj _, _, a1, a2, rfl, h _ _ (r.untracked hn) ⟨hp, hs⟩⟩

theorem isInt_of {k : Int} {v : Value} (h : Value.isInt k v = true) : ∃ t, v = .int k t := by
  cases v <;> simp [Value.isInt] at h
  exact ⟨_, by rw [h]⟩
theorem ints_keys {prog : Program} {w : World} : ∀ {kvs : List (Int × Value)} {vs : List Value}, vs.length = kvs.length → (∀ (j : Nat) (v : Value), vs[j]? = some v → ∃ k x, kvs[j]? = some (k, x) ∧ (intKind prog w).is k v = true) → IntsAre vs (kvs.map (·.1))
  | [], [], _, _ => .nil
  | [], _ :: _, h, _ => by simp at h
  | _ :: _, [], h, _ => by simp at h
  | p :: kvs, v :: vs, h, hk => by
    obtain ⟨k, x, e1, e2⟩ := hk 0 v rfl
    have e1' : p = (k, x) := by simpa using e1
    subst e1'
    obtain ⟨t, rfl⟩ := isInt_of e2
    exact .cons k t (ints_keys (by simpa using h) fun j v e => hk (j + 1) v (by simpa using e))

theorem sortedFin {m : Str → Option Value} {h' : Heap} {tk : Nat} {B : Addr} {vs : List Value} {out : Array Value} {ns' : List Int} (r : Rep D c σ s) (hpu : c.pur = false) (n : s.heap.Ns c.env.locals m) (n' : h'.Ns c.env.locals m) (kp : ∀ b o, b ≠ c.env.locals → s.heap.get? b = some o → h'.get? b = some o)
    (g : h'.get? B = some (seqObj "list" vs.toArray 0)) (hnB : s.heap.get? B = none) (nL : B ≠ c.env.locals) (hI : IntsAre out.toList ns') :
    Rep D c { σ with hp := σ.hp.set B (.list (ns'.map .int)) } { s with heap := sortedHeap h' B vs out, toks := tk } ∧ Ext c σ s { σ with hp := σ.hp.set B (.list (ns'.map .int)) } { s with heap := sortedHeap h' B vs out, toks := tk } := by
  have u1 : ∀ b, b ≠ B → (h'.update B (Obj.mapSeq fun _ => (#[] : Array Value))).get? b = h'.get? b := fun b q => Heap.get?_update_ne _ _ _ _ q
  have e1 := get?_update_seq g (fun _ => (#[] : Array Value))
  have keep : ∀ b o, b ≠ B → h'.get? b = some o → (sortedHeap h' B vs out).get? b = some o := fun b o q e => by
    unfold sortedHeap
    rw [Heap.get?_update_ne _ _ _ _ q]
    exact Heap.get?_push_of_some _ (Heap.get?_push_of_some _ ((u1 b q).trans e))
  obtain ⟨ne, at_⟩ : ∃ k, (sortedHeap h' B vs out).get? B = some (seqObj "list" out k) := by
    unfold sortedHeap
    exact ⟨_, get?_update_seq (Heap.get?_push_of_some _ (Heap.get?_push_of_some _ e1)) (fun _ => out)⟩
  have n2 : (sortedHeap h' B vs out).Ns c.env.locals m := by
    obtain ⟨o, es, ep, a, b⟩ := n'
    exact ⟨o, es, ep, keep _ o (Ne.symm nL) a, b⟩
  have at2 : (sortedHeap h' B vs out).get? B = some (seqObj "list" out.toList.toArray ne) := by rw [Array.toArray_toList]; exact at_
  exact r.step (tk := tk) (h' := sortedHeap h' B vs out) hpu n n2 (a := B) (o' := .list (ns'.map .int)) (fun b o q1 q2 e => keep b o q1 (kp b o q2 e)) at2 ⟨out.toList, ne, rfl, of_ints hI⟩ (.inr hnB) (fun _ q => nomatch q)
theorem B_sorted_dict {a : Addr} {kvs : List (Int × AV)} (hpu : c.pur = false) (ha : σ.hp a = some (.dict kvs)) (h64 : kvs.length < 64) (h : ∀ z ns', σ.hp z = none → Srt ns' (kvs.map (·.1)) → Q (.obj z) { σ with hp := σ.hp.set z (.list (ns'.map .int)) }) :
    TO D c VR [.obj a] (fun vs => call (.builtin "sorted") vs) σ Q X := fun s vs r hv => by
  obtain ⟨u, us, rfl, e, e0⟩ := hv
  have e' : u = .ref a := e
  have e0' : us = [] := e0
  subst e' e0'
  obtain ⟨ks, p, hk, lo⟩ := r.dict ha
  obtain ⟨ep, hat⟩ := p.dictAt
  obtain ⟨m, n, _⟩ := r.fr.loc
  refine kdu_sorted (kdl_dict (knd := intKind D.prog D.w) (kvs := ks) (ep := ep) lo) r.ok.handled (frAll n) (newsAll (L := c.env.locals)) hat (by rw [hk.length]; exact Nat.le_trans (Nat.le_of_lt h64) (by decide)) fun B h' tk vs F' N' hlt hl hv => ?_
  have kp : ∀ b o, b ≠ c.env.locals → s.heap.get? b = some o → h'.get? b = some o := kept_ofAll N' fun _ h => List.mem_cons_of_mem _ h
  have g := (N' _ (List.mem_cons_self ..)).1
  have hi : IntsAre vs (ks.map (·.1)) := ints_keys hl hv
  rw [hk.keys] at hi
  refine wpAny_call_entry PyProof.Rows.slot_list_sort ⟨_, g, rfl⟩ PyProof.Rows.entry_list_sort (list_sort_tree (n := 0) (vs := vs) g hi (by rw [hl, hk.length]; exact h64) fun out ns' hI hp hP => ⟨.none, rfl, ?_⟩) (PyProof.Rows.args_list_sort _)
  have nL : B ≠ c.env.locals := (N' _ (List.mem_cons_self ..)).2.1
  have hnB : s.heap.get? B = none := by
    cases q : s.heap.get? B with
    | none => rfl
    | some o => exact absurd (hlt (B, o) (mem_allBut q (by simpa using nL))) (Nat.lt_irrefl _)
  obtain ⟨a1, a2⟩ := sortedFin (tk := tk) r hpu n F'.ns kp g hnB nL hI
  exact ⟨.obj B, _, a1, a2, rfl, h B ns' (r.untracked hnB) ⟨hp, hP⟩⟩
theorem B_min_dict {a : Addr} {kvs : List (Int × AV)} (ha : σ.hp a = some (.dict kvs)) (h0 : 0 < kvs.length) (h : ∀ k, k ∈ kvs.map (·.1) → (∀ x ∈ kvs.map (·.1), k ≤ x) → Q (.int k) σ) :
    TO D c VR [.obj a] (fun vs => call (.builtin "min") vs) σ Q X := fun s vs r hv => by
  obtain ⟨u, us, rfl, e, e0⟩ := hv
  have e' : u = .ref a := e
  have e0' : us = [] := e0
  subst e' e0'
  obtain ⟨ks, p, hk, lo⟩ := r.dict ha
  obtain ⟨ep, hat⟩ := p.dictAt
  have hn : 0 < ks.length := by rw [hk.length]; exact h0
  have val : ∀ i v, (∃ k x, ks[i]? = some (k, x) ∧ (intKind D.prog D.w).is k v = true) → ∃ t, v = .int ((ks.map (·.1)).getD i 0) t := fun i v ⟨k, x, e1, e2⟩ => by
    obtain ⟨t, rfl⟩ := isInt_of e2
    exact ⟨t, by simp [List.getD, e1]⟩
  refine call_min_walk (wpAny_pyIter_dict lo hat ⟨_, _, _, _, _, _, _, rfl, Walks.dictKeys (A := c.A.in1) (knd := intKind D.prog D.w) r.ok.handled _ a (Nat.ne_of_lt hat.lt_size) ks ep, ⟨⟨_, Heap.get?_push_size _ rfl, rfl, rfl⟩, hat.push _⟩, fun b hb => ?_, hn, CmpOf.ints_lt (fun i => (ks.map (·.1)).getD i 0) val, fun v h' tk hP hk' => ?_⟩)
  · show b < (s.heap.push _).objs.size
    rw [size_push']
    rcases List.mem_cons.mp hb with e | hb
    · rw [e]; exact Nat.lt_succ_self _
    · rw [List.mem_singleton.mp hb]; exact Nat.lt_succ_of_lt hat.lt_size
  · obtain ⟨t, rfl⟩ := val _ _ hP
    obtain ⟨h1, h2⟩ := argBest_lt (fun i => (ks.map (·.1)).getD i 0) (ks.length - 1)
    have kp : ∀ b o, s.heap.get? b = some o → h'.get? b = some o := fun b o e => hk' b o (fun hI => absurd (Heap.lt_size e) (by rw [List.mem_singleton.mp hI]; exact Nat.lt_irrefl _)) (Heap.get?_push_of_some _ e)
    have le : (ks.map (·.1)).length = ks.length := List.length_map ..
    refine post (h' := h') (tk := tk) r kp (b := AV.int _) (R := VR) ⟨t, rfl⟩ (h _ ?_ fun x hx => ?_)
    · rw [← hk.keys]
      generalize hb : argBest (fun i j => decide ((ks.map (·.1)).getD i 0 < (ks.map (·.1)).getD j 0)) (ks.length - 1) = b at h1 ⊢
      have lt : b < (ks.map (·.1)).length := by rw [le]; omega
      have := List.getElem_mem lt
      simpa [List.getD, List.getElem?_eq_getElem lt] using this
    · rw [← hk.keys] at hx
      obtain ⟨j, hj⟩ := List.mem_iff_getElem?.mp hx
      have hjl := (List.getElem?_eq_some_iff.mp hj).1
      have := h2 j (by rw [le] at hjl; omega)
      simpa [List.getD, hj] using this
theorem B_list_dict {a : Addr} {kvs : List (Int × AV)} (hpu : c.pur = false) (ha : σ.hp a = some (.dict kvs)) (hz : kvs.length ≤ 1000) (h : ∀ z, σ.hp z = none → Q (.obj z) { σ with hp := σ.hp.set z (.list ((kvs.map (·.1)).map .int)) }) :
    TO D c VR [.obj a] (fun vs => call (.type "list") vs) σ Q X := fun s vs r hv => by
  obtain ⟨u, us, rfl, e, e0⟩ := hv
  have e' : u = .ref a := e
  have e0' : us = [] := e0
  subst e' e0'
  obtain ⟨ks, p, hk, lo⟩ := r.dict ha
  obtain ⟨ep, hat⟩ := p.dictAt
  obtain ⟨m, n, _⟩ := r.fr.loc
  refine kdl_N (kdl_dict (knd := intKind D.prog D.w) (kvs := ks) (ep := ep) lo) r.ok.handled (frAll n) (newsAll (L := c.env.locals)) hat (by rw [hk.length]; exact Nat.le_trans hz (by decide)) fun B ep' h' tk vs F' N' hlt hl hv => ?_
  have kp : ∀ b o, b ≠ c.env.locals → s.heap.get? b = some o → h'.get? b = some o := kept_ofAll N' fun _ h => List.mem_cons_of_mem _ h
  have g := (N' _ (List.mem_cons_self ..)).1
  have hi : IntsAre vs (ks.map (·.1)) := ints_keys hl hv
  rw [hk.keys] at hi
  have nL : B ≠ c.env.locals := (N' _ (List.mem_cons_self ..)).2.1
  have hnB : s.heap.get? B = none := by
    cases q : s.heap.get? B with
    | none => rfl
    | some o => exact absurd (hlt (B, o) (mem_allBut q (by simpa using nL))) (Nat.lt_irrefl _)
  obtain ⟨a1, a2⟩ := r.step (tk := tk) (h' := h') hpu n F'.ns (a := B) (o' := .list ((kvs.map (·.1)).map .int)) (fun b o _ q2 e => kp b o q2 e) g ⟨vs, ep', rfl, of_ints hi⟩ (.inr hnB) (fun _ q => nomatch q)
  exact ⟨.obj B, _, a1, a2, rfl, h B (r.untracked hnB)⟩
noncomputable def itemsView (d : Addr) : Obj := { cls := .type "dict_items", data := .fields #[.ref d] }
theorem B_items {d : Addr} {kvs : List (Int × AV)} (hd : σ.hp d = some (.dict kvs)) (h : ∀ a, σ.hp a = none → Q (.obj a) { σ with hp := σ.hp.set a (.raw (itemsView d)) }) :
    TO D c VR [.obj d] (fun vs => call (.builtin "dict.items") vs) σ Q X := fun s vs r hv => by
  obtain ⟨u, us, rfl, e, e0⟩ := hv
  have e' : u = .ref d := e
  have e0' : us = [] := e0
  subst e' e0'
  obtain ⟨vs, p, hv, n⟩ := r.dict hd
  refine call_meetsIn PySem.F.slot_dict_items p.typeIs PySem.F.entry_dict_items (PySem.F.args_dict_items_1 _) (meets_dict_items (intKind D.prog D.w) d n) ⟨⟨vs, p⟩, ?_⟩
  obtain ⟨a1, a2⟩ := r.alloc (tk := s.toks) (o := .raw (itemsView d)) push_keeps (fresh_none _) (Heap.get?_push_size s.heap (o := itemsView d) rfl) ⟨rfl, .cls (show Value.type "dict_items" ≠ _ by decide), rfl⟩ (fun _ q => nomatch q)
  exact ⟨.obj _, _, a1, a2, rfl, h _ (r.untracked (fresh_none _))⟩
noncomputable def pairsOfK (kvs : List (Int × AV)) : List AV := kvs.map fun p => .tup [.int p.1, p.2]
theorem items_vrs {prog : Program} {w : World} {h h' : Heap} (t : TK h h') : ∀ {kvs : List (Int × AV)} {ks : List (Int × Value)} {as : List Addr}, KVR h kvs ks → as.length = ks.length →
    (∀ (j : Nat) (a : Addr), as[j]? = some a → ∃ key k x, ks[j]? = some (k, x) ∧ (intKind prog w).is k key = true ∧ h'.get? a = some { cls := .type "tuple", data := .seq #[key, x] }) → VRs h' (pairsOfK kvs) (as.map Value.ref)
  | [], _, [], e, _, _ => by cases e; rfl
  | [], _, _ :: _, e, hl, _ => by cases e; simp at hl
  | _ :: _, _, [], ⟨_, _, e, _, _⟩, hl, _ => by subst e; simp at hl
  | p :: kvs, _, a :: as, ⟨v, r, e, hv, hr⟩, hl, hp => by
    subst e
    obtain ⟨key, k, x, e1, e2, e3⟩ := hp 0 a rfl
    have e1' : (p.1, v) = (k, x) := by simpa using e1
    cases e1'
    obtain ⟨tk, rfl⟩ := isInt_of e2
    refine ⟨.ref a, as.map Value.ref, rfl, ⟨a, [.int p.1 tk, v], rfl, e3, .two ⟨tk, rfl⟩ (hv.mono t)⟩, items_vrs (prog := prog) (w := w) t hr (by simpa using hl) fun j b e => hp (j + 1) b (by simpa using e)⟩
theorem B_list_items {a d : Addr} {kvs : List (Int × AV)} (ha : σ.hp a = some (.raw (itemsView d))) (hd : σ.hp d = some (.dict kvs)) (hz : kvs.length ≤ 1000) (h : ∀ z, σ.hp z = none → Q (.obj z) { σ with hp := σ.hp.set z (.list (pairsOfK kvs)) }) :
    TO D c VR [.obj a] (fun vs => call (.type "list") vs) σ Q X := fun s vs r hv => by
  obtain ⟨u, us, rfl, e, e0⟩ := hv
  have e' : u = .ref a := e
  have e0' : us = [] := e0
  subst e' e0'
  obtain ⟨ks, p, hk, lo⟩ := r.dict hd
  obtain ⟨ep, hat⟩ := p.dictAt
  obtain ⟨ob, hob, rfl, _⟩ := r.hp a _ ha
  refine kdx_call (knd := intKind D.prog D.w) (d := d) (kvs := ks) (ep := ep) r.ok.handled ⟨_, hob, rfl, rfl⟩ hat (by rw [hk.length]; exact Nat.le_trans hz (by decide)) fun h' tk acc cc as kp g hl hG hacc => ?_
  have g' : h'.get? s.heap.objs.size = some { cls := .type "list", data := .seq (as.map Value.ref).toArray cc } := by rw [← hacc, Array.toArray_toList]; exact g
  obtain ⟨a1, a2⟩ := r.alloc (tk := tk) (o := .list (pairsOfK kvs)) kp (fresh_none _) g' ⟨_, cc, rfl, items_vrs (TK.of_keeps kp) hk hl hG.pairs⟩ (fun _ q => nomatch q)
  exact ⟨.obj _, _, a1, a2, rfl, h _ (r.untracked (fresh_none _))⟩
end
end Mine

namespace Mine
open PySem PySem.W PySem.Calls PyProof.Rows
theorem list_no_keys : typeLookup (.type "list") "keys" = pure none := by rw [typeLookup_type, builtinLookup_eq_fast]; kernel_rfl
theorem no_keys {prog : Program} {w : World} {A : Around} {E : Value → Shared → Prop} {s : Shared} {a : Addr} {xs : Array Value} {k : Nat} {Q : Option Value → Shared → Prop}
    (hx : s.heap.get? a = some { cls := .type "list", data := .seq xs k }) (hA : A.handled = none)
    (h : ∀ h' tk, (∀ b o, s.heap.get? b = some o → h'.get? b = some o) → Q none { s with heap := h', toks := tk }) : wpAny (model prog w) A (getAttr? (.ref a) "keys") Q E s := by
  obtain ⟨hp, g, d, tk, os⟩ := s
  have hT : ∀ tk', (⟨hp, g, d, tk', os⟩ : Shared).TypeIs (.ref a) "list" := fun _ => ⟨_, hx, rfl⟩
  have f1 := sub_AttributeError
  have f3 := F.slot_list_getattribute.lookup
  have f4 := F.slot_list_getattribute.bind (.ref a)
  have f5 := am_list_getattr_none
  unfold getAttr? getAttrBy? getAttrBy
  repeat (any_goals (first | assumption | exact hT _ | ((with_reducible show wpAny _ _ (call (Value.builtin "list.__getattribute__") _ _) _ _ _); refine call_meets F.slot_list_getattribute (hT _) am_entry_list_getattribute (F.args_list_getattribute_2 _ _) (meets_getattribute_miss_list a xs k #[] "keys" _ list_no_keys (by decide) (by decide)) ⟨hx, hA, fun h' tk' e hx' => ?_⟩) | wp_step))
  obtain ⟨t', u', he⟩ := hx'.there
  show wpAny _ _ (getattributeRaised _ _ _ _ _ _ _) _ _ _
  unfold getattributeRaised
  repeat (any_goals (first | assumption | wp_step))
  exact h _ _ hx'.keeps

theorem upd_plain : plainId "dict.update.loop" = true := by decide +kernel
theorem upd_entry : entryFor table "dict.update.loop" = some Builtin.«dict.update.loop» := by first | exact entryFor_of_fast (by kernel_rfl) | exact entryFor_of_tree (by kernel_rfl)
section
variable {prog : Program} {w : World} {A : Around} {E : Value → Shared → Prop}
/-- pairs at their addresses -/
noncomputable def PairsAt (prog : Program) (w : World) (h : Heap) (as : List Addr) (kvs : List (Int × Value)) : Prop :=
  as.length = kvs.length ∧ ∀ (j : Nat) (a : Addr), as[j]? = some a → ∃ k t x, kvs[j]? = some (k, x) ∧ h.get? a = some { cls := .type "tuple", data := .seq #[.int k t, x] }
theorem PairsAt.keep {h h' : Heap} {as : List Addr} {kvs} (p : PairsAt prog w h as kvs) (k : ∀ a ∈ as, ∀ o, h.get? a = some o → h'.get? a = some o) : PairsAt prog w h' as kvs :=
  ⟨p.1, fun j a e => let ⟨k', t, x, e1, e2⟩ := p.2 j a e; ⟨k', t, x, e1, k a (List.mem_of_getElem? e) _ e2⟩⟩
theorem upd_loop {R : Result → Shared → Prop} {l I d : Addr} {as : List Addr} {kvs : List (Int × Value)} {res : Value} (hh : A.handled = none) (hz : kvs.length ≤ sizeLine) (hIl : l ≠ I) (hId : d ≠ I) (hld : l ≠ d) (hI : I ∉ as) (hd : d ∉ as) :
    ∀ (k i : Nat) (s : Shared), kvs.length - i = k → i ≤ kvs.length → s.heap.IsList l (as.map Value.ref).toArray → s.heap.IsListIter I l i → s.heap.DictOf (intKind prog w) d (merged [] (kvs.take i)) → PairsAt prog w s.heap as kvs →
      (∀ h' tk, (∀ b o, b ≠ I → b ≠ d → s.heap.get? b = some o → h'.get? b = some o) → h'.DictOf (intKind prog w) d (merged [] kvs) → R (.ok (.ret res)) { s with heap := h', toks := tk }) →
      codeAny (model prog w) A (.builtin "dict.update.loop" ⟨[.ref d, .ref I, rawInt i, res], []⟩) R s := by
  intro k
  induction k with
  | zero =>
    intro i s hk hle hl hit hD hP hR
    have hin : i = kvs.length := by omega
    subst hin
    refine codeAny_builtin upd_entry ?_
    rw [Around.under_plainId upd_plain _]
    show wpAny _ A.in1 (pyNext (.ref I) >>= _) _ _ s
    refine wpAny_bind (wpAny_pyNext_list_end hh hit hl (by simp [hP.1]) fun h' he => ?_)
    show wpAny _ _ (Builtin.Dict.addKeywords d [] >>= _) _ _ _
    refine wpAny_bind (wpAny_pure (wpAny_pure ?_))
    rw [List.take_length] at hD
    refine hR h' _ (fun b o hb _ e => he b o hb e) ?_
    obtain ⟨o, ho, hdo⟩ := Heap.dictOf_iff.mp hD
    exact Heap.dictOf_iff.mpr ⟨o, he d o hId ho, hdo⟩
  | succ k ih =>
    intro i s hk hle hl hit hD hP hR
    have hlt : i < kvs.length := by omega
    obtain ⟨a, ha⟩ : ∃ a, as[i]? = some a := ⟨as[i]'(by rw [hP.1]; omega), List.getElem?_eq_getElem (by rw [hP.1]; omega)⟩
    obtain ⟨kk, t, x, hx, hta⟩ := hP.2 i a ha
    refine codeAny_builtin upd_entry ?_
    rw [Around.under_plainId upd_plain _]
    show wpAny _ A.in1 (pyNext (.ref I) >>= _) _ _ s
    refine wpAny_bind (wpAny_pyNext_list_item (x := .ref a) hit hl (by simp [ha]) fun h' hit' hs => ?_)
    have haI : a ≠ I := fun e => hI (e ▸ List.mem_of_getElem? ha)
    have had : a ≠ d := fun e => hd (e ▸ List.mem_of_getElem? ha)
    have hta' := (hs.2 a haI).trans hta
    refine wpAny_bind (wpAny_holding (wpAny_bind (wpAny_tryCatch ?_)))
    unfold Builtin.Dict.pairItems
    refine wpAny_bind (wpAny_typeOf (T := "tuple") ⟨_, hta', rfl⟩ ?_)
    rw [if_pos (by decide)]
    refine wpAny_bind (wpAny_seqItems hta' rfl (wpAny_pure ?_))
    dsimp only [Option.getD]
    have hD' : Heap.DictOf (intKind prog w) h' d (merged [] (kvs.take i)) := by
      obtain ⟨o, ho, hdo⟩ := Heap.dictOf_iff.mp hD
      exact Heap.dictOf_iff.mpr ⟨o, (hs.2 d hId).trans ho, hdo⟩
    show wpAny _ _ (holding [Value.int kk t, x] (dictSet d (Value.int kk t) x)) _ _ _
    have hlen : (merged [] (kvs.take i)).length ≤ sizeLine := by
      have := merged_length_le ([] : List (Int × Value)) (kvs.take i)
      simp only [List.length_nil, List.length_take, Nat.zero_add] at this
      omega
    refine wpAny_holding (wpAny_dictSet_pairs (hsz := hlen) (knd := intKind prog w) (k := kk) key_is hD' fun h₂ hm hs₂ => ?_)
    rw [← merged_take_succ [] kvs i (kk, x) hx] at hm
    refine wpAny_pure ⟨plainId_quiet upd_plain _, ?_⟩
    have e1 : (Value.int ((i : Int) + 1) 0) = rawInt ((i + 1 : Nat) : Int) := rfl
    have go := ih (i + 1) { s with heap := h₂, toks := s.toks + 1 } (by omega) hlt ((hl.extBut hs.extBut hIl).extBut hs₂.extBut hld) (hit'.extBut hs₂.extBut (Ne.symm hId)) hm
      ((hP.keep fun b hb o e => (hs.2 b (fun z => hI (z ▸ hb))).trans e).keep fun b hb o e => (hs₂.2 b (fun z => hd (z ▸ hb))).trans e)
      fun h3 tk3 kp hD3 => hR h3 tk3 (fun b o n1 n2 e => kp b o n1 n2 ((hs₂.2 b n2).trans ((hs.2 b n1).trans e))) hD3
    exact go
theorem pairs_nil {h : Heap} {d : Addr} (x : h.DictOf (intKind prog w) d []) : h.DictOf (intKind prog w) d (merged [] (([] : List (Int × Value)).take 0)) := x
theorem call_dict_pairs {s : Shared} {l : Addr} {n : Nat} {as : List Addr} {kvs : List (Int × Value)} {Q : Value → Shared → Prop} (hh : A.handled = none) (hz : kvs.length ≤ sizeLine) (hl : s.heap.get? l = some { cls := .type "list", data := .seq (as.map Value.ref).toArray n }) (hP : PairsAt prog w s.heap as kvs)
    (h : ∀ h' tk, (∀ b o, s.heap.get? b = some o → h'.get? b = some o) → h'.DictOf (intKind prog w) s.heap.objs.size (merged [] kvs) → Q (.ref s.heap.objs.size) { s with heap := h', toks := tk }) :
    wpAny (model prog w) A (call (.type "dict") [.ref l]) Q E s := by
  refine callType_codes (Q₁ := fun obj s₁ => obj = .ref s.heap.objs.size ∧ s₁ = { s with heap := s.heap.push { cls := .type "dict", data := .dict #[] } }) F.kt_called_dict (F.kt_typeCall_dict_1 _) F.entry_dict_init (kt_code_dict_new _ ⟨rfl, rfl⟩) ?_
  rintro obj s₁ ⟨rfl, rfl⟩
  have hnew : (s.heap.push { cls := .type "dict", data := .dict #[] }).DictOf (intKind prog w) s.heap.objs.size [] := Heap.DictOf.new s.heap
  refine ⟨hnew.typeIs, F.args_dict_init_2 _ _, ?_⟩
  unfold Builtin.«dict.__init__»
  refine wpAny_bind ?_
  unfold Builtin.Dict.selfAndRest
  refine wpAny_bind (wpAny_notOrdered_dict hnew.typeIs ?_)
  show wpAny _ _ (pure (s.heap.objs.size, [Value.ref l])) _ _ _
  refine wpAny_pure ?_
  show wpAny _ _ (Builtin.Dict.updateFrom "dict.__init__" s.heap.objs.size (.ref l) [] .none) _ _ _
  unfold Builtin.Dict.updateFrom
  have hl₁ := push_keeps (h := s.heap) (o := { cls := .type "dict", data := .dict #[] }) _ _ hl
  refine wpAny_bind (wpAny_typeOf (T := "list") ⟨_, hl₁, rfl⟩ ?_)
  rw [if_pos (by decide)]
  refine wpAny_bind (no_keys hl₁ hh fun h₂ tk kp => ?_)
  rw [if_pos (by rfl)]
  refine wpAny_bind (wpAny_rule ?_)
  have hl₂ := kp _ _ hl₁
  refine wpAny_bind (wpAny_pyIter_list (items := (as.map Value.ref).toArray) ⟨_, hl₂, rfl, n, rfl⟩ ?_)
  refine wpAny_pure ⟨plainId_quiet upd_plain _, ?_⟩
  have up : ∀ b o, s.heap.get? b = some o → h₂.get? b = some o := fun b o e => kp b o (push_keeps _ _ e)
  obtain ⟨od, hod, hdd⟩ := Heap.dictOf_iff.mp hnew
  have hod₂ := kp _ _ hod
  have ltl : l < s.heap.objs.size := Heap.lt_size hl
  have ltd : s.heap.objs.size < h₂.objs.size := Heap.lt_size hod₂
  have ina : ∀ a ∈ as, a < s.heap.objs.size := fun a ha => by
    obtain ⟨j, hj⟩ := List.mem_iff_getElem?.mp ha
    obtain ⟨k, t, x, _, e⟩ := hP.2 j a hj
    exact Heap.lt_size e
  have upp : ∀ b o, h₂.get? b = some o → (h₂.push { cls := .type "list_iterator", data := .fields #[.ref l, .int 0 0] }).get? b = some o := push_keeps
  refine upd_loop (A := A.in1) (res := .none) (as := as) (kvs := kvs) (l := l) (I := h₂.objs.size) (d := s.heap.objs.size) hh hz (Nat.ne_of_lt (Nat.lt_trans ltl ltd)) (Nat.ne_of_lt ltd) (Nat.ne_of_lt ltl) (fun m => absurd (Nat.lt_trans (ina _ m) ltd) (Nat.lt_irrefl _)) (fun m => absurd (ina _ m) (Nat.lt_irrefl _)) kvs.length 0 { s with heap := h₂.push { cls := .type "list_iterator", data := .fields #[.ref l, .int 0 0] }, toks := tk } rfl (Nat.zero_le _) ⟨_, upp _ _ hl₂, rfl, n, rfl⟩ ⟨_, Heap.get?_push_size _ rfl, rfl, rfl⟩
    (Heap.dictOf_iff.mpr ⟨od, upp _ _ hod₂, hdd⟩) (hP.keep fun b _ o e => upp _ _ (up b o e)) fun h' tk' kp' hD => ?_
  exact ⟨rfl, h h' tk' (fun b o e => kp' b o (Nat.ne_of_lt (Nat.lt_trans (Heap.lt_size e) ltd)) (Nat.ne_of_lt (Heap.lt_size e)) (upp _ _ (up b o e))) hD⟩
end
end Mine

namespace Mine
open PySem PySem.W PySem.Calls PyProof.Rows
theorem int_no_bytes : typeLookup (.type "int") "__bytes__" = pure none := by rw [typeLookup_type, builtinLookup_eq_fast]; kernel_rfl
theorem int_index : ∃ v, typeLookup (.type "int") "__index__" = pure (some v) := ⟨.builtin "int.__index__", by rw [typeLookup_type, builtinLookup_eq_fast]; kernel_rfl⟩
theorem bytes16 {prog : Program} {w : World} {A : Around} {E : Value → Shared → Prop} {s : Shared} {t : Tok} {Q : Value → Shared → Prop} (h : Q (.bytes (Array.replicate 16 0) s.toks) { s with toks := s.toks + 1 }) :
    wpAny (model prog w) A (call (.type "bytes") [.int 16 t]) Q E s := by
  refine callType_codes (Q₁ := fun obj s₁ => s₁.TypeIs obj "bytes" ∧ Q obj s₁) F.bm_called (F.bm_typeCall _) F.entry_object_init ?_ fun obj s₁ h₁ => ?_
  · refine codeAny_of_tree ?_
    show wpAny _ A.in1.in1 (do checkBuiltinCall "bytes.__new__" ⟨[.type "bytes", .int 16 t], []⟩; again (.builtin "bytes.__new__" ⟨[.type "bytes", .int 16 t], []⟩)) _ _ s
    refine wpAny_bind (wpAny_of_eq (F.bm_newCall _) (wpAny_pure ⟨plainId_quiet F.bm_plain _, codeAny_builtin F.bm_entry ?_⟩))
    rw [Around.under_plainId F.bm_plain _]
    have hT : s.TypeIs (.int 16 t) "int" := typeIs_int s 16 t
    obtain ⟨iv, hi⟩ := int_index
    unfold Builtin.«bytes.__new__»
    refine wpAny_bind (wpAny_of_eq (a := true) rfl ?_)
    refine bm_if_false rfl ?_
    refine wpAny_bind (wpAny_of_eq F.bm_sub ?_)
    refine bm_if_false rfl ?_
    refine wpAny_bind (wpAny_of_eq (F.bm_bind _) ?_)
    refine wpAny_bind (wpAny_of_eq (a := ()) rfl ?_)
    refine wpAny_bind (wpAny_of_eq (a := ()) rfl ?_)
    refine bm_if_false rfl ?_
    refine wpAny_bind (wpAny_specialOf hT int_no_bytes ?_)
    refine wpAny_bind (wpAny_of_eq (a := false) rfl ?_)
    refine bm_if_false rfl ?_
    refine wpAny_bind (wpAny_specialOf hT hi ?_)
    refine bm_if_false rfl ?_
    refine wpAny_bind (wpAny_of_eq (a := Except.ok 16) rfl ?_)
    dsimp only
    refine bm_if_false (by decide) ?_
    refine wpAny_ite_split (fun hab => absurd hab (by decide)) (fun _ => ?_)
    refine wpAny_ite_split (fun hab => absurd hab (by decide)) (fun _ => ?_)
    refine wpAny_ite_split (fun hab => absurd hab (by decide)) (fun _ => ?_)
    refine wpAny_bind (wpAny_rule (wpAny_bind (wpAny_mkBytes ?_ (by decide))))
    show wpAny _ _ (if (Value.type "bytes" == Value.type "bytes") = true then _ else _) _ _ _
    refine bm_if_true (by decide) ?_
    exact wpAny_bind (wpAny_pure (wpAny_pure ⟨PySem.W.typeIs_bytes _ _ _, h⟩))
  · exact ⟨h₁.1, F.args_object_init_2 obj _, object_init_meets F.bm_called.init.lookup F.bm_called.made (by decide) prog w A.in1 _ s₁ ⟨h₁.1, rfl, h₁.2⟩⟩

section
variable {D : Wd} {c : Cx} {σ : St} {s : Shared} {X : Int → St → Prop} {Q : AV → St → Prop}
theorem B_bytes16 (h : Q (.bytes (Array.replicate 16 0)) σ) : TO D c VR [.int 16] (fun vs => call (.type "bytes") vs) σ Q X := fun s vs r hv => by
  obtain ⟨u, us, rfl, ⟨t, e⟩, e0⟩ := hv
  have e0' : us = [] := e0
  subst e e0'
  exact bytes16 (pY r h)
theorem B_bytes_ints {a : Addr} {ns : List Int} (ha : σ.hp a = some (.list (ns.map .int))) (hr : ∀ n ∈ ns, 0 ≤ n ∧ n < 256) (hz : ns.length ≤ 1000) (h : Q (.bytes (byteArr ns)) σ) : TO D c VR [.obj a] (fun vs => call (.type "bytes") vs) σ Q X := fun s vs r hv => by
  obtain ⟨u, us, rfl, e, e0⟩ := hv
  have e' : u = .ref a := e
  have e0' : us = [] := e0
  subst e' e0'
  obtain ⟨ws, p, hw⟩ := r.list ha
  exact call_bytes_ints p.isList (ints_of hw) hr (by rw [hw.length]; simp only [List.length_map]; exact Nat.le_trans hz (by decide)) r.ok.handled fun h' t k kp => post (h' := h') (tk := k) r kp (b := AV.bytes _) (R := VR) ⟨t, rfl⟩ h
theorem pairs_at {prog : Program} {w : World} {h : Heap} : ∀ {kvs : List (Int × AV)} {vs : List Value}, VRs h (pairsOfK kvs) vs → ∃ as ks, vs = as.map Value.ref ∧ KVR h kvs ks ∧ PairsAt prog w h as ks
  | [], _, e => ⟨[], [], e, rfl, rfl, fun j a e => by simp at e⟩
  | p :: kvs, _, ⟨v, r, e, ⟨a, us, e1, ha, hu⟩, hr⟩ => by
    subst e e1
    obtain ⟨k, us', e2, ⟨t, e3⟩, x, us'', e4, hx, e5⟩ := hu
    have e5' : us'' = [] := e5
    subst e2 e3 e4 e5'
    obtain ⟨as, ks, e6, hk, hl, hp⟩ := pairs_at (prog := prog) (w := w) hr
    subst e6
    refine ⟨a :: as, (p.1, x) :: ks, rfl, ⟨x, ks, rfl, hx, hk⟩, by simp [hl], fun j b e => ?_⟩
    cases j with
    | zero =>
      have : a = b := by simpa using e
      subst this
      exact ⟨p.1, t, x, rfl, ha⟩
    | succ j => exact hp j b (by simpa using e)
theorem B_dict {a : Addr} {kvs : List (Int × AV)} (ha : σ.hp a = some (.list (pairsOfK kvs))) (hn : (kvs.map (·.1)).Nodup) (hz : kvs.length ≤ 1000) (h : ∀ z, σ.hp z = none → Q (.obj z) { σ with hp := σ.hp.set z (.dict kvs) }) :
    TO D c VR [.obj a] (fun vs => call (.type "dict") vs) σ Q X := fun s vs r hv => by
  obtain ⟨u, us, rfl, e, e0⟩ := hv
  have e' : u = .ref a := e
  have e0' : us = [] := e0
  subst e' e0'
  obtain ⟨ws, ⟨n, p⟩, hw⟩ := r.list ha
  obtain ⟨as, ks, rfl, hk, hP⟩ := pairs_at (prog := D.prog) (w := D.w) hw
  refine call_dict_pairs (n := n) r.ok.handled (by rw [hk.length]; exact Nat.le_trans hz (by decide)) p hP fun h' tk kp hd => ?_
  rw [merged_nil_of_nodup ks (by rw [hk.keys]; exact hn)] at hd
  obtain ⟨o, ho, hdo⟩ := Heap.dictOf_iff.mp hd
  obtain ⟨a1, a2⟩ := r.alloc (tk := tk) (o := .dict kvs) kp (fresh_none _) ho ⟨ks, hdo, hk.mono (TK.of_keeps kp)⟩ (fun _ _ => r.big)
  exact ⟨.obj _, _, a1, a2, rfl, h _ (r.untracked (fresh_none _))⟩

/-! slices -/
theorem VRs.drop {h : Heap} : ∀ {xs : List AV} {vs : List Value} (n : Nat), VRs h xs vs → VRs h (xs.drop n) (vs.drop n)
  | _, _, 0, e => e
  | [], _, n + 1, e => by cases e; rfl
  | _ :: _, _, n + 1, ⟨v, r, e, _, b⟩ => by subst e; exact b.drop n
theorem VRs.take {h : Heap} : ∀ {xs : List AV} {vs : List Value} (n : Nat), VRs h xs vs → VRs h (xs.take n) (vs.take n)
  | _, _, 0, e => by simp; rfl
  | [], _, n + 1, e => by cases e; rfl
  | _ :: _, _, n + 1, ⟨v, r, e, a, b⟩ => by subst e; exact ⟨v, _, rfl, a, b.take n⟩
theorem TE_from {value : Expr} {n : Nat} {k : Nat} {kp p pos : Pos} (ht : ∀ o r, letTemporaryGo value o r = pure ()) (hpu : c.pur = false) (h : TE D c (eval value c.env) σ (fun o σ₁ => ∃ a xs, o = .obj a ∧ σ₁.hp a = some (.list xs) ∧ xs.length ≤ 1000 ∧ ∀ z, σ₁.hp z = none → Q (.obj z) { σ₁ with hp := σ₁.hp.set z (.list (xs.drop n)) }) X) :
    TE D c (eval (.Subscript value (.Slice (some (.Constant (.int n) k kp)) none none p) pos) c.env) σ Q X := fun s r =>
  wpAny_Subscript_list_slice (h.use r (Ext.refl ..) fun u s₁ a σ₁ r₁ _ e₁ v₁ q₁ => by
    obtain ⟨a, xs, rfl, ha, hz, hq⟩ := q₁
    have e' : u = .ref a := v₁
    subst e'
    obtain ⟨ws, q, hw⟩ := r₁.list ha
    rw [evalPart_some]
    refine wpAny_Constant_int (wpAny_pure ⟨a, ws.toArray, some (n : Int), none, rfl, q.isList, by rw [List.size_toArray, hw.length]; exact Nat.le_trans hz (by decide), .int _ _, .none, ?_⟩)
    rw [slicePick_from']
    obtain ⟨b1, b2⟩ := r₁.grow (h' := s₁.heap.push { cls := .type "slice", data := .fields #[.int n s₁.toks, .none, .none] }) (tk := s₁.toks + 1) push_keeps
    have g := Heap.get?_push_size (s₁.heap.push { cls := .type "slice", data := .fields #[.int n s₁.toks, .none, .none] }) (o := { cls := .type "list", data := .seq (ws.drop n).toArray }) rfl
    obtain ⟨a1, a2⟩ := b1.alloc (tk := s₁.toks + 1) (o := .list (xs.drop n)) push_keeps (fresh_none _) g ⟨_, 0, rfl, ((hw.mono b2.tk).mono (TK.of_keeps push_keeps)).drop n⟩ (fun _ q => nomatch q)
    have hz2 : (s₁.heap.push { cls := .type "slice", data := .fields #[.int n s₁.toks, .none, .none] }).objs.size = s₁.heap.objs.size + 1 := Heap.size_push ..
    have fr := b1.untracked (fresh_none _)
    rw [show ({ s₁ with heap := s₁.heap.push { cls := .type "slice", data := .fields #[.int n s₁.toks, .none, .none] }, toks := s₁.toks + 1 } : Shared).heap.objs.size = s₁.heap.objs.size + 1 from hz2] at a1 a2 fr
    exact ⟨.obj _, _, a1, (e₁.trans b2).trans a2, rfl, hq _ fr⟩) ht
end
end Mine

namespace Mine
open PySem PySem.W PySem.Calls PyProof.Rows
theorem under_make (A : Around) (C : Addr) (rest : List Value) : (A.under (.builtin "type.__call__" ⟨.ref C :: rest, []⟩)).frames = A.frames ∧ (A.under (.builtin "type.__call__" ⟨.ref C :: rest, []⟩)).handled = A.handled ∧ (A.under (.builtin "type.__call__" ⟨.ref C :: rest, []⟩)).depth = A.depth + 1 ∧ (A.under (.builtin "type.__call__" ⟨.ref C :: rest, []⟩)).units ≤ A.units + 8 := by
  refine ⟨rfl, rfl, ?_, ?_⟩
  · show A.depth + (Code.builtin "type.__call__" ⟨.ref C :: rest, []⟩).weight = A.depth + 1
    congr 1
  · show A.units + (Code.builtin "type.__call__" ⟨.ref C :: rest, []⟩).cUnits ≤ A.units + 8
    refine Nat.add_le_add_left ?_ _
    show 1 + 3 * 0 ≤ 8
    decide

section
variable {D : Wd} {c : Cx} {σ : St} {s : Shared} {X : Int → St → Prop} {Q : AV → St → Prop}
theorem room_for {c : Cx} (k : CxOk c) (C : Addr) (rest : List Value) {room : Nat} (hr : room + 1 < c.room) : (c.A.under (.builtin "type.__call__" ⟨.ref C :: rest, []⟩)).frames = some c.frames ∧ (c.A.under (.builtin "type.__call__" ⟨.ref C :: rest, []⟩)).handled = none ∧ (c.A.under (.builtin "type.__call__" ⟨.ref C :: rest, []⟩)).depth + 1 + room < recursionLimit ∧ (c.A.under (.builtin "type.__call__" ⟨.ref C :: rest, []⟩)).units + 8 * room + 204 < cLine := by
  obtain ⟨a1, a2, a3, a4⟩ := under_make c.A C rest
  have h1 := k.depth
  have h2 := k.units
  exact ⟨a1.trans k.frames, a2.trans k.handled, by omega, by omega⟩

theorem track {σ₀ : St} {s₀ : Shared} (r0 : Rep D c σ₀ s₀) (r : Rep D c σ s) (x : Ext c σ₀ s₀ σ s) {a : Addr} {o : AO} {ob : Obj} (hn : s₀.heap.get? a = none) (ho : s.heap.get? a = some ob) (ok : OR D.prog D.w s.heap o ob) (nm : ∀ kvs, o = .dict kvs → a ≠ sysModules) :
    Rep D c { σ with hp := σ.hp.set a o } s ∧ Ext c σ₀ s₀ { σ with hp := σ.hp.set a o } s := by
  have nfa : ∀ b ∈ fa c.env, b ≠ a := fun b hb q => by subst q; obtain ⟨y, hy⟩ := r0.inFa hb; rw [hn] at hy; cases hy
  have nfr : ∀ L ∈ c.frames.filterMap (·.frame), L ≠ a := fun L hL q => by subst q; obtain ⟨_, y, _, _, hy, _⟩ := r0.ff.mem hL; rw [hn] at hy; cases hy
  have nb : D.base.get? a = none := by
    cases z : D.base.get? a with
    | none => rfl
    | some y => rw [r0.base a y z] at hn; cases hn
  refine ⟨⟨r.st, r.ok, fun b p e => ?_, fun b p e => ?_, fun b hb => ?_, r.fr, r.base, r.baseA, r.same, r.ff, fun L hL => ?_, nmSet r.nm nm⟩, ⟨x.keep, fun b p e => ?_, x.ex, x.tk, x.pur⟩⟩
  · by_cases q : b = a
    · subst q
      have : o = p := by simpa [Hp.set] using e
      subst this
      exact ⟨ob, ho, ok⟩
    · exact r.hp b p (by simpa [Hp.set, q] using e)
  · by_cases q : b = a
    · subst q; exact nb
    · exact r.fresh b p (by simpa [Hp.set, q] using e)
  · show (if b = a then some o else σ.hp b) = none
    rw [if_neg (nfa b hb)]; exact r.apart b hb
  · show (if L = a then some o else σ.hp L) = none
    rw [if_neg (nfr L hL)]; exact r.fapart L hL
  · by_cases q : b = a
    · subst q; exact .inr hn
    · exact x.trk b p (by simpa [Hp.set, q] using e)
/-- an object of a class made -/
theorem TO_inst {C fI : Addr} {fd : FuncData} {xs : List Str} {body : List Stmt} {as : List AV} {room : Nat} (hm : makesIn D.K C = true) (hi : findIn D.K (.ref C) "__init__" = some (some (.ref fI))) (hf : isFn D.K (.ref fI) = true) (ok : FnOk D fI fd xs body) (hl : as.length + 1 = xs.length) (hpu : c.pur = false) (hr : room + 1 < c.room)
    (h : ∀ A' L x dx, σ.hp x = none → σ.hp dx = none → x ≠ dx → TF D (callee A' c (callEnvC fd L fI) room) (execs body (callEnvC fd L fI)) ⟨bindV xs (.obj x :: as) [], (σ.hp.set dx (.ns [])).set x (.inst C dx)⟩ (fun fl σ' => retOf fl = .none ∧ Q (.obj x) ⟨σ.vars, σ'.hp⟩) (fun k σ' => X k ⟨σ.vars, σ'.hp⟩)) :
    TO D c VR as (fun vs => call (.ref C) vs) σ Q X := fun s vs r hv => by
  obtain ⟨m, n, _⟩ := r.fr.loc
  refine wpAny_call (make_K (frAll n) (newsAll (L := c.env.locals)) r.K hm hi (beq_iff_eq.mp hf) fun x dx h' F' N' lt0 hlt => ?_)
  have kp : ∀ b o, b ≠ c.env.locals → s.heap.get? b = some o → h'.get? b = some o := kept_ofAll N' fun _ h => List.mem_cons_of_mem _ (List.mem_cons_of_mem _ h)
  have gx := N' _ (List.mem_cons_self ..)
  have gd := N' _ (List.mem_cons_of_mem _ (List.mem_cons_self ..))
  have nx : s.heap.get? x = none := by
    cases q : s.heap.get? x with
    | none => rfl
    | some o => exact absurd (Nat.lt_trans (lt0 (x, o) (mem_allBut q (by simpa using gx.2.1))) hlt) (Nat.lt_irrefl _)
  have nd : s.heap.get? dx = none := by
    cases q : s.heap.get? dx with
    | none => rfl
    | some o => exact absurd (lt0 (dx, o) (mem_allBut q (by simpa using gd.2.1))) (Nat.lt_irrefl _)
  obtain ⟨a1, a2⟩ := r.step (tk := s.toks) (h' := h') hpu n F'.ns (a := dx) (o' := .ns []) (fun b o _ q2 e => kp b o q2 e) gd.1 ⟨[], 0, rfl, rfl⟩ (.inr nd) (fun _ q => nomatch q)
  obtain ⟨b1, b2⟩ := track r a1 a2 (o := .inst C dx) nx gx.1 ⟨_, rfl⟩ (fun _ q => nomatch q)
  have hv' : VRs h' (.obj x :: as) (.ref x :: vs) := .cons rfl (hv.mono b2.tk)
  refine codeAny_mono (callAny (Q := fun b σ' => b = .none ∧ Q (.obj x) σ') (X := X) (as := .obj x :: as) (c.A.under (.builtin "type.__call__" ⟨.ref C :: vs, []⟩)) ok (by simpa using hl) hpu (room_for r.ok C vs hr) (fun L => h _ L x dx (r.untracked nx) (r.untracked nd) (Nat.ne_of_gt hlt)) b1 hv') fun q s' z => ?_
  cases q with
  | error e =>
    obtain ⟨σ', ea, k, e1, r', x', i', q'⟩ := XP.lift b2 z
    exact ⟨σ', ea, k, e1, r', x', i', q'⟩
  | ok fl =>
    cases fl with
    | ret v =>
      obtain ⟨b, σ', r', x', v', rfl, q'⟩ := z
      have v2 : v = .none := v'
      exact ⟨v2, .obj x, σ', r', b2.trans x', rfl, q'⟩
    | next => exact z
    | brk => exact z
    | cont => exact z
end
end Mine

namespace Mine
open PySem PySem.W PySem.Calls PyProof.Rows PySem.Builtin PySem.Builtin.ObjectAttr
noncomputable def excB : List Value := [.type "Exception", .type "BaseException", .type "object"]
/-- the text's own exception class -/
structure XF (D : Wd) : Prop where
  cls : ∃ nm q N bs sn sub ab col dd k0 k1 k2 k3 k5, D.K.lookup quicErr = some (excClassObj nm q quicErr N bs excB true sn sub ab col dd k0 k1 k2 k3 k5 "Exception.__new__") ∧
    ∃ on es ep, D.K.lookup N = some on ∧ on.data = .dict es ep ∧ StrKeys es ∧ nsFind es "__init__" = some (.ref 35)
  init : isFn D.K (.ref 35) = true
  sa : findIn D.K (.ref quicErr) "__setattr__" = some (some (.builtin "object.__setattr__"))
  ga : findIn D.K (.ref quicErr) "__getattribute__" = some (some (.builtin "BaseException.__getattribute__"))
  gt : findIn D.K (.ref quicErr) "__getattr__" = some none
  code : findIn D.K (.ref quicErr) "code" = some none
  ft : findIn D.K (.ref quicErr) "frame_type" = some none
  text : findIn D.K (.ref quicErr) "text" = some none
  sub : ∀ n ∈ ["Exception", "BaseException", "object"], mroIn D.K quicErr (.type n) = some true

section
variable {D : Wd} {c : Cx} {σ : St} {s : Shared} {X : Int → St → Prop} {Q : AV → St → Prop}
theorem XF.clsIn {x : XF D} : ∃ cd, clsIn D.K quicErr = some cd ∧ cd.mro = .ref quicErr :: excB ∧ cd.hasDict = true ∧ cd.name = cd.name := by
  obtain ⟨nm, q, N, bs, sn, sub, ab, col, dd, k0, k1, k2, k3, k5, h, _⟩ := x.cls
  exact ⟨_, by unfold PySem.W.clsIn; rw [h], rfl, rfl, rfl⟩
theorem excType {e : Addr} {ob : Obj} {M : Model} {h : Heap} (g : h.get? e = some ob) (hc : ob.cls = .ref quicErr) : Looks M h (typeOf (.ref e)) (.ref quicErr) := hc ▸ (Looks.ld g).andThen .now
noncomputable def exc0 (t : Addr) : Obj := { cls := .ref quicErr, data := .fields #[.ref t, .none, .none, .none, .bool false, .none] }

theorem rawOk {prog : Program} {w : World} {h : Heap} {ob : Obj} (hc : ob.cls = .ref quicErr) (hf : ob.isFreed = false) : OR prog w h (.raw ob) ob := ⟨rfl, .cls (by rw [hc]; exact (fun q => nomatch q)), hf⟩
theorem B_excinit {e : Addr} {ob : Obj} {vs : Array Value} {t0 : Addr} {m : AV} (xf : XF D) (hpu : c.pur = false) (he : σ.hp e = some (.raw ob)) (hc : ob.cls = .ref quicErr) (hd : ob.data = .fields vs) (h0 : vs[0]? = some (.ref t0))
    (h : ∀ t', Q .none { σ with hp := σ.hp.set e (.raw { ob with data := .fields (vs.setIfInBounds 0 (.ref t')) }) }) : TO D c VR [.obj e, m] (fun vs => call (.builtin "Exception.__init__") vs) σ Q X := fun s vs' r hv => by
  obtain ⟨u, us, rfl, eu, v, us', rfl, hm, e0⟩ := hv
  have eu' : u = .ref e := eu
  have e0' : us' = [] := e0
  subst eu' e0'
  have hob : s.heap.get? e = some ob := by obtain ⟨ob', h1, e2, _⟩ := r.hp e _ he; rw [h1, e2]
  have fc := excClass_Exception
  have T := excType (M := model D.prog D.w) hob hc
  obtain ⟨cd, hcd, hmro, _⟩ := xf.clsIn
  refine wpAny_call (codeAny_call_builtin fc.init.plain fc.initEntry ?_)
  simp only [checkBuiltinCall, fc.initKind, fc.initSplit, fc.initSig]
  have I : Looks (model D.prog D.w) s.heap (isInstance (.ref e) (.type "Exception")) true := T.andThen (looks_mroIn r.K (xf.sub "Exception" (by simp)))
  refine wpAny_bind (I.here ?_)
  simp only [Bool.not_true, Bool.false_eq_true, if_false]
  unfold Bind.checkArgs
  dsimp only
  have P : Looks (model D.prog D.w) s.heap (Bind.printed "*" true ⟨.positional, "*", "Exception", .self, [⟨"args", .varPos, false⟩]⟩ (some (.ref e))) cd.name.toString := by
    unfold Bind.printed Bind.receiverType
    rw [if_neg (by decide)]
    have W : Looks (model D.prog D.w) s.heap (typeNameWhole (.ref quicErr)) cd.name.toString := (looks_clsIn r.K hcd).andThen .now
    exact T.andThen (W.andThen .now)
  refine wpAny_bind (P.here ?_)
  refine wpAny_bind (m := Bind.printed "Exception" false _ _) (printed_name fc.notStar ?_)
  show wpAny _ _ (Sem.onRaise (Bind.check _ _ "Exception" _ []) _) _ _ s
  rw [check_varPos]
  refine wpAny_pure ?_
  unfold Builtin.«BaseException.__init__»
  dsimp only
  rw [if_neg (by simp)]
  unfold newTuple Builtin.BaseException.bexcPut
  have hsz : 0 < vs.size := (Array.getElem?_eq_some_iff.mp h0).1
  have he₁ := Heap.get?_push_of_some (h := s.heap) { cls := .type "tuple", data := .seq [v].toArray } hob
  refine wpAny_bind (wpAny_newObj_type (wpAny_bind (wpAny_bind (wpAny_field he₁ hd h0 (wpAny_bind (wpAny_setField he₁ hd hsz ?_))))) (show (1 : Nat) ≤ sizeLine by decide))
  refine wpAny_letGo (wpAny_pure ?_)
  obtain ⟨b1, b2⟩ := r.grow (h' := s.heap.push { cls := .type "tuple", data := .seq [v].toArray }) (tk := s.toks) push_keeps
  have mf : Obj.mapFields (·.setIfInBounds 0 (Value.ref s.heap.objs.size)) ob = { ob with data := .fields (vs.setIfInBounds 0 (.ref s.heap.objs.size)) } := by
    cases ob; simp only at hd; subst hd; rfl
  have at' := Heap.get?_update_self (Obj.mapFields (·.setIfInBounds 0 (Value.ref s.heap.objs.size))) he₁ (Obj.isFreed_of_fields (Obj.data_mapFields hd _))
  rw [mf] at at'
  obtain ⟨a1, a2⟩ := b1.turn (tk := s.toks) (o' := .raw { ob with data := .fields (vs.setIfInBounds 0 (.ref s.heap.objs.size)) }) he hpu (Heap.SameBut.update _ _ _) at' (rawOk hc rfl) (fun _ q => nomatch q)
  exact ⟨.none, _, a1, b2.trans a2, rfl, h _⟩

/-! stores on it -/
theorem osaX {e : Addr} {ob : Obj} {name : Str} {tk : Tok} {v : Value} {R : Result → Shared → Prop} (xf : XF D) (K : D.K.In s.heap) (hob : s.heap.get? e = some ob) (hc : ob.cls = .ref quicErr) (hn : findIn D.K (.ref quicErr) name = some none)
    (h : wpAny (model D.prog D.w) c.A.in1 (storeInOwnDict (.ref e) (.ref quicErr) (.str name tk) name v false) (fun fin s' => match fin with | .done f => R (.ok f) s' | .again c' => c'.quiet = true ∧ codeAny (model D.prog D.w) c.A c' R s') (fun e s' => R (.error e) s') s) :
    codeAny (model D.prog D.w) c.A (.call (.builtin "object.__setattr__") ⟨[.ref e, .str name tk, v], []⟩) R s := by
  have SF := PySem.F.store_object
  obtain ⟨cd, hcd, hmro, _⟩ := xf.clsIn
  have T := excType (M := model D.prog D.w) hob hc
  have I : Looks (model D.prog D.w) s.heap (isInstance (.ref e) (.type "object")) true := T.andThen (looks_mroIn K (xf.sub "object" (by simp)))
  refine codeAny_call_builtin SF.slot.plain SF.entry (@check_slot (model D.prog D.w) _ _ s "object.__setattr__" "object" "__setattr__" (.ref e) [.str name tk, v] [] _ SF.kind SF.split I (SF.args (.ref e) (.str name tk) v) ?_)
  have hm : Looks (model D.prog D.w) s.heap (mroOf (.ref quicErr)) cd.mro := (looks_clsIn K hcd).andThen .now
  rw [osa_eq, refuse_eq]
  refine wpAny_bind (wpAny_bind (T.here (wpAny_bind (hm.here ?_))))
  rw [hmro, refuseLoop_ref, excB, F.store_Exception.passes]
  have L3 : Looks (model D.prog D.w) s.heap (storeTaker? none) none := .now
  exact wpAny_pure (wpAny_bind (T.here (wpAny_bind ((looks_findIn K hn).here (wpAny_bind (L3.here h))))))
theorem setX {e : Addr} {ob : Obj} {name : Str} {v : Value} {Q : Unit → Shared → Prop} {E : Value → Shared → Prop} (xf : XF D) (K : D.K.In s.heap) (hob : s.heap.get? e = some ob) (hc : ob.cls = .ref quicErr)
    (h : codeAny (model D.prog D.w) c.A (.call (.builtin "object.__setattr__") ⟨[.ref e, .str name s.toks, v], []⟩) (fun r s' => match r with | .ok (.ret _) => Q () s' | .ok _ => False | .error e => E e s') { s with toks := s.toks + 1 }) :
    wpAny (model D.prog D.w) c.A (setAttr (.ref e) name v) Q E s := by
  have T := excType (M := model D.prog D.w) hob hc
  refine wpAny_bind (wpAny_mkText (wpAny_bind (wpAny_bind (wpAny_bind (T _ _ _ _ (fun _ _ e => e) (looks_findIn K xf.sa _ _ _ _ (fun _ _ e => e) (wpAny_holding ?_)))))))
  rw [PySem.F.store_object.slot.bind]
  refine wpAny_bind (wpAny_pure (wpAny_bind (wpAny_call (codeAny_mono h fun r s' z => ?_))))
  rcases r with e | (v | _ | _ | _) <;> first | exact z | exact wpAny_pure (wpAny_pure z)
/-- the name stored in a dict -/
theorem storeX {d : Addr} {es : List DictEntry} {n : Nat} {name : Str} {tk : Tok} {v : Value} {Q : Fin → Shared → Prop} {E : Value → Shared → Prop} {A : Around} (hd : s.heap.get? d = some (dictOf es n)) (hg : (getL name es).isSome = true) (hz : (putL name (PyData.keyHash D.w.params name) (.str name s.toks) v es).length ≤ 1000)
    (h : ∀ h', Heap.SameBut d s.heap h' → h'.get? d = some (dictOf (putL name (PyData.keyHash D.w.params name) (.str name s.toks) v es) (putN name es n)) → Q (.done (.ret .none)) { s with heap := h', toks := s.toks + 1 }) :
    wpAny (model D.prog D.w) A (storeInDict d (.str name tk) name v) Q E s := by
  unfold storeInDict newKeyGuard
  refine wpAny_bind (wpAny_pure (wpAny_bind ?_))
  unfold nsSet
  refine wpAny_bind (wpAny_bind (wpAny_askSetting (wpAny_pure (wpAny_bind (wpAny_mkText (wpAny_bind (wpAny_loadPart hd ?_)))))))
  dsimp only [dictOf]
  have c : (!es.toArray.any (·.key.isStr name) && es.toArray.any (·.refKey)) = false := by
    rw [List.any_toArray, List.any_toArray]
    unfold PySem.W.getL at hg
    split at hg
    · rename_i en he
      rw [List.any_eq_true.mpr ⟨en, List.mem_of_find?_eq_some he, List.find?_some he⟩]; rfl
    · split at hg
      · cases hg
      · rename_i z; rw [Bool.not_eq_true] at z; rw [z, Bool.and_false]
  rw [aRefKeyMayBeTheName_at, c]
  refine wpAny_updatePart hd ?_
  have hp := putName_dict name (PyData.keyHash D.w.params name) (.str name s.toks) v es n
  have at' := Heap.get?_update_self (Obj.putName name (PyData.keyHash D.w.params name) (.str name s.toks) v) hd (by rw [hp]; rfl)
  rw [hp] at at'
  refine wpAny_bind (wpAny_lookBehind at' (by exact pastItsLine_dict (by rw [List.size_toArray, sizeLine_eq]; omega)) ?_)
  exact wpAny_pure (h _ (Heap.SameBut.update _ _ _) at')
end
end Mine

namespace Mine
open PySem PySem.W PySem.Calls PyProof.Rows PySem.Builtin PySem.Builtin.ObjectAttr
section
variable {D : Wd} {c : Cx} {σ : St} {s : Shared} {X : Int → St → Prop}
theorem hasD {xf : XF D} {K : D.K.In s.heap} {M : Model} : Looks M s.heap (do let cd ← classData quicErr; pure cd.hasDict) true := by
  obtain ⟨cd, hcd, _, hh, _⟩ := xf.clsIn
  exact (looks_clsIn K hcd).andThen (hh ▸ .now)
theorem O_setattr_exc {Q : Unit → St → Prop} {e d : Addr} {ob : Obj} {l : List (Str × AV)} {name : Str} {av : AV} (xf : XF D) (hpu : c.pur = false) (he : σ.hp e = some (.raw ob)) (hc : ob.cls = .ref quicErr) (hod : ob.dict = some d) (hd : σ.hp d = some (.ns l)) (hn : findIn D.K (.ref quicErr) name = some none) (hz : l.length ≤ 900)
    (h : Q () { σ with hp := σ.hp.set d (.ns (nsPut name av l)) }) : TO2 D c EqR (.obj e) av (fun u v => setAttr u name v) σ Q X := fun s u v r eu hv => by
  have e' : u = .ref e := eu
  subst e'
  have hob : s.heap.get? e = some ob := by obtain ⟨ob', h1, e2, _⟩ := r.hp e _ he; rw [h1, e2]
  obtain ⟨od, e2, es, n, rfl, ns⟩ := r.hp d _ hd
  have g0 : s.heap.get? d = some (dictOf es n) := e2
  have gl : (getL name es).isSome = true := by
    cases q : l.lookup name with
    | none => rw [ns.gets_none q]; rfl
    | some a => obtain ⟨v, g, _⟩ := ns.gets q; rw [g]; rfl
  have o5 : NSR s.heap (nsPut name av l) (putL name (PyData.keyHash D.w.params name) (.str name (s.toks + 1)) v es) := ns.put hv
  have hlen := o5.length
  have hz' : (putL name (PyData.keyHash D.w.params name) (.str name (s.toks + 1)) v es).length ≤ 1000 := by
    have := nsPut_length name av l
    omega
  obtain ⟨cd, hcd, _, hh, _⟩ := xf.clsIn
  obtain ⟨oc, odi, oda, osl⟩ := ob
  dsimp only at hc hod
  subst hc hod
  refine setX xf r.K hob rfl (osaX xf (s := { s with toks := s.toks + 1 }) r.K hob rfl hn ?_)
  refine wpAny_bind (wpAny_pure (wpAny_bind (wpAny_bind (wpAny_loadPart (s := { s with toks := s.toks + 1 }) hob (wpAny_bind ((looks_clsIn r.K hcd).here (s := { s with toks := s.toks + 1 }) ?_))))))
  rw [hh]
  refine wpAny_pure (a := some d) (storeX (D := D) (s := { s with toks := s.toks + 1 }) g0 gl hz' fun h' hs hg => ?_)
  obtain ⟨a1, a2⟩ := r.turn (tk := s.toks + 2) (o' := .ns (nsPut name av l)) hd hpu hs hg ⟨_, _, rfl, o5⟩ (fun _ q => nomatch q)
  exact ⟨(), _, a1, a2, rfl, h⟩

theorem O_setattr_exc0 {Q : Unit → St → Prop} {e : Addr} {ob : Obj} {vs : Array Value} {name : Str} {av : AV} (xf : XF D) (hpu : c.pur = false) (he : σ.hp e = some (.raw ob)) (hc : ob.cls = .ref quicErr) (hod : ob.dict = none) (hda : ob.data = .fields vs) (hn : findIn D.K (.ref quicErr) name = some none)
    (h : ∀ d, σ.hp d = none → d ≠ e → Q () { σ with hp := (σ.hp.set e (.raw { ob with dict := some d })).set d (.ns [(name, av)]) }) : TO2 D c EqR (.obj e) av (fun u v => setAttr u name v) σ Q X := fun s u v r eu hv => by
  have e' : u = .ref e := eu
  subst e'
  have hob : s.heap.get? e = some ob := by obtain ⟨ob', h1, e2, _⟩ := r.hp e _ he; rw [h1, e2]
  obtain ⟨cd, hcd, _, hh, _⟩ := xf.clsIn
  obtain ⟨oc, odi, oda, osl⟩ := ob
  dsimp only at hc hod hda
  subst hc hod hda
  refine setX xf r.K hob rfl (osaX xf (s := { s with toks := s.toks + 1 }) r.K hob rfl hn ?_)
  refine wpAny_bind (wpAny_pure (wpAny_bind (wpAny_bind (wpAny_loadPart (s := { s with toks := s.toks + 1 }) hob (wpAny_bind ((looks_clsIn r.K hcd).here (s := { s with toks := s.toks + 1 }) ?_))))))
  rw [hh]
  have hob1 : (s.heap.push { cls := .type "dict", data := .dict #[] }).get? e = some ⟨.ref quicErr, none, .fields vs, osl⟩ := push_keeps _ _ hob
  have ltE : e < s.heap.objs.size := Heap.lt_size hob
  have hdn : s.heap.get? s.heap.objs.size = none := fresh_none _
  have gd := Heap.get?_push_size s.heap (o := dictOf [] 0) rfl
  obtain ⟨a1, a2⟩ := r.alloc (tk := s.toks) (o := .ns []) push_keeps hdn gd ⟨[], 0, rfl, rfl⟩ (fun _ q => nomatch q)
  have hne : e ≠ s.heap.objs.size := Nat.ne_of_lt ltE
  have he1 : ({ σ with hp := σ.hp.set s.heap.objs.size (.ns []) } : St).hp e = some (.raw ⟨.ref quicErr, none, .fields vs, osl⟩) := by
    show (if e = s.heap.objs.size then _ else σ.hp e) = _
    rw [if_neg hne]; exact he
  have up := Heap.get?_update_self (fun o : Obj => { o with dict := some s.heap.objs.size }) hob1 rfl
  obtain ⟨b1, b2⟩ := a1.turn (tk := s.toks) (o' := .raw ⟨.ref quicErr, some s.heap.objs.size, .fields vs, osl⟩) he1 hpu (Heap.SameBut.update _ _ _) up (rawOk rfl rfl) (fun _ q => nomatch q)
  have gd2 := ((Heap.SameBut.update (s.heap.push (dictOf [] 0)) e (fun o : Obj => { o with dict := some s.heap.objs.size })).2 s.heap.objs.size (Ne.symm hne)).trans gd
  refine wpAny_bind (wpAny_alloc (wpAny_bind (wpAny_update (s := { s with heap := s.heap.push (dictOf [] 0), toks := s.toks + 1 }) hob1 (wpAny_pure ?_))))
  refine storeX (D := D) (s := { s with heap := (s.heap.push (dictOf [] 0)).update e (fun o : Obj => { o with dict := some s.heap.objs.size }), toks := s.toks + 1 }) gd2 (by rfl) (by
    show (1 : Nat) ≤ 1000
    decide) fun h' hs hg => ?_
  have he3 : ({ σ with hp := (σ.hp.set s.heap.objs.size (.ns [])).set e (.raw ⟨.ref quicErr, some s.heap.objs.size, .fields vs, osl⟩) } : St).hp s.heap.objs.size = some (.ns []) := by
    show (if s.heap.objs.size = e then _ else if s.heap.objs.size = s.heap.objs.size then _ else _) = _
    rw [if_neg (Ne.symm hne), if_pos rfl]
  obtain ⟨c1, c2⟩ := b1.turn (tk := s.toks + 2) (o' := .ns [(name, av)]) he3 hpu hs hg ⟨_, _, rfl, ⟨_, [], s.toks + 1, rfl, rfl, hv.mono (a2.trans b2).tk, rfl⟩⟩ (fun _ q => nomatch q)
  have eqH : ((σ.hp.set s.heap.objs.size (.ns [])).set e (.raw ⟨.ref quicErr, some s.heap.objs.size, .fields vs, osl⟩)).set s.heap.objs.size (.ns [(name, av)]) = (σ.hp.set e (.raw ⟨.ref quicErr, some s.heap.objs.size, .fields vs, osl⟩)).set s.heap.objs.size (.ns [(name, av)]) := by
    funext b
    unfold Hp.set
    by_cases q : b = s.heap.objs.size
    · simp [q]
    · simp [q]
  have hh2 := h s.heap.objs.size (r.untracked hdn) (Ne.symm hne)
  rw [← eqH] at hh2
  exact ⟨(), _, c1, (a2.trans b2).trans c2, rfl, hh2⟩
end
end Mine

namespace Mine
open PySem PySem.W PySem.Calls PyProof.Rows PySem.Builtin PySem.Builtin.ObjectAttr
theorem slot_bga : Slot "BaseException" "__getattribute__" "BaseException.__getattribute__" :=
  .of (owner := "BaseException") (n := "__getattribute__") (by rw [typeLookup_type, builtinLookup_eq_fast]; kernel_rfl) (by decide +kernel) (by decide +kernel) (by decide +kernel) (.inl (by decide +kernel)) (by rw [isSubtype_type]; kernel_rfl)
section
variable {D : Wd} {c : Cx} {σ : St} {s : Shared} {X : Int → St → Prop}
theorem attrX {e d : Addr} {ob : Obj} {es : List DictEntry} {n : Nat} {name : Str} {v : Value} {Q : Value → Shared → Prop} {E : Value → Shared → Prop} {A : Around} (xf : XF D) (K : D.K.In s.heap) (hob : s.heap.get? e = some ob) (hc : ob.cls = .ref quicErr) (hnc : notCls ob = true) (hod : ob.dict = some d) (hd : s.heap.get? d = some (dictOf es n))
    (hn : findIn D.K (.ref quicErr) name = some none) (hg : getL name es = some (some v)) (hh : handedIn v = true) (h : Q v { s with toks := s.toks + 1 }) : wpAny (model D.prog D.w) A (getAttr (.ref e) name true) Q E s := by
  have T := excType (M := model D.prog D.w) hob hc
  have L1 := looks_findIn (M := model D.prog D.w) K xf.ga
  have L2 := looks_findIn (M := model D.prog D.w) K xf.gt
  obtain ⟨cd, hcd, _, hhd, _⟩ := xf.clsIn
  have hD : hasDictIn D.K quicErr = true := by unfold hasDictIn; rw [hcd]; exact hhd
  have I : InstAt s.heap e ob quicErr (some (dictOf es n)) := ⟨hob, hc, hnc, by rw [hod]; exact hd⟩
  have L3 := looks_find (M := model D.prog D.w) K I (findObj_own hD hn rfl hg)
  have I2 : Looks (model D.prog D.w) s.heap (isInstance (.ref e) (.type "BaseException")) true := T.andThen (looks_mroIn K (xf.sub "BaseException" (by simp)))
  obtain ⟨hh', g, dd, t, os⟩ := s
  unfold getAttr getAttrBy
  refine wpAny_bind (wpAny_mkText (wpAny_holding (wpAny_bind (T.at (wpAny_bind (L1.at ?_))))))
  show wpAny _ _ (getAttrByItsOwn _ _ _ _ _ _) _ _ _
  unfold getAttrByItsOwn
  refine wpAny_bind (L2.at (wpAny_bind (wpAny_attempt (wpAny_holding ?_))))
  show wpAny _ _ (boundAndCalled _ _ _) _ _ _
  unfold boundAndCalled
  rw [slot_bga.bind]
  refine wpAny_bind (wpAny_pure (wpAny_call (codeAny_call_builtin slot_bga.plain F.entry_bexc_ga (@check_slot (model D.prog D.w) _ _ _ "BaseException.__getattribute__" "BaseException" "__getattribute__" (.ref e) [.str name t] [] _ (by decide +kernel) (by decide +kernel) I2 (F.args_bexc_ga _ _) ?_))))
  refine wpAny_bind (wpAny_pure (wpAny_bind (wpAny_pure (wpAny_bind (T.at (wpAny_bind (L3.at ?_)))))))
  refine wpAny_pure ?_
  show wpAny _ _ (handedOut v) _ _ _
  rw [handedOut_of hh]
  exact wpAny_pure h

theorem O_attr_exc {Q : AV → St → Prop} {e d : Addr} {ob : Obj} {vs : Array Value} {l : List (Str × AV)} {name : Str} {av : AV} (xf : XF D) (he : σ.hp e = some (.raw ob)) (hc : ob.cls = .ref quicErr) (hda : ob.data = .fields vs) (hod : ob.dict = some d) (hd : σ.hp d = some (.ns l)) (hn : findIn D.K (.ref quicErr) name = some none) (hl : l.lookup name = some av) (hp : av.plain = true) (h : Q av σ) :
    TO1 D c VR (.obj e) (fun u => getAttr u name true) σ Q X := fun s u r eu => by
  have e' : u = .ref e := eu
  subst e'
  have hob : s.heap.get? e = some ob := by obtain ⟨ob', h1, e2, _⟩ := r.hp e _ he; rw [h1, e2]
  obtain ⟨od, e2, es, n, rfl, ns⟩ := r.hp d _ hd
  obtain ⟨v, g, hv⟩ := ns.gets hl
  exact attrX xf r.K hob hc (by unfold notCls; rw [hda]) hod e2 hn g (hv.handed hp) (post0 r hv h)
noncomputable def Hp.del (H : Hp) (a : Addr) : Hp := fun b => if b = a then none else H b
theorem Rep.untrack (r : Rep D c σ s) (H : Hp) (hH : ∀ a o, H a = some o → σ.hp a = some o) : Rep D c { σ with hp := H } s :=
  have no : ∀ a, σ.hp a = none → H a = none := fun a e => by
    cases q : H a with
    | none => rfl
    | some o => rw [hH a o q] at e; cases e
  ⟨r.st, r.ok, fun a o e => r.hp a o (hH a o e), fun a o e => r.fresh a o (hH a o e), fun a ha => no a (r.apart a ha), r.fr, r.base, r.baseA, r.same, r.ff, fun L hL => no L (r.fapart L hL), fun d kvs e => r.nm d kvs (hH d _ e)⟩
theorem TF_raise {Q : AF → St → Prop} {e : Expr} {pos : Pos} (xf : XF D) (h : TE D c (eval e c.env) σ (fun a σ₁ => ∃ x d ob vs l k, a = .obj x ∧ σ.hp x = none ∧ σ.hp d = none ∧ x ≠ d ∧ σ₁.hp x = some (.raw ob) ∧ ob.cls = .ref quicErr ∧ ob.data = .fields vs ∧ vs[1]? = some .none ∧ ob.dict = some d ∧ σ₁.hp d = some (.ns l) ∧
      l.lookup (Str.ofString "code") = some (.int k) ∧ X k { σ₁ with hp := (σ₁.hp.del x).del d }) X) : TF D c (exec (.Raise (some e) none pos) c.env) σ Q X := fun s r => by
  rw [arm_exec_Raise]
  refine wpAny_bind (wpAny_standAt ?_)
  show wpAny _ _ (raiseStmt c.env (some (do let v ← eval e c.env; standAt pos; pure v)) none) _ _ _
  unfold raiseStmt
  refine wpAny_bind (wpAny_bind (h.use r (Ext.refl ..) fun u s₁ a σ₁ r₁ _ e₁ v₁ q₁ => wpAny_bind (wpAny_standAt (wpAny_pure ?_))))
  obtain ⟨x, d, ob, vs, l, k, rfl, n1, n2, nxd, h1, h2, h3, h4, h5, h6, h7, hX⟩ := q₁
  have e' : u = .ref x := v₁
  subst e'
  have hob : s₁.heap.get? x = some ob := by obtain ⟨ob', h1, e2, _⟩ := r₁.hp x _ h1; rw [h1, e2]
  obtain ⟨od, e2, es, n, rfl, ns⟩ := r₁.hp d _ h6
  have T := excType (M := model D.prog D.w) hob h2
  have I2 : Looks (model D.prog D.w) s₁.heap (isInstance (.ref x) (.type "BaseException")) true := T.andThen (looks_mroIn r₁.K (xf.sub "BaseException" (by simp)))
  obtain ⟨cd, hcd, _⟩ := xf.clsIn
  have fx : s.heap.get? x = none := by
    rcases e₁.trk x _ h1 with ⟨o', z⟩ | z
    · rw [n1] at z; cases z
    · exact z
  have fd : s.heap.get? d = none := by
    rcases e₁.trk d _ h6 with ⟨o', z⟩ | z
    · rw [n2] at z; cases z
    · exact z
  have hH : ∀ a o, (σ₁.hp.del x).del d a = some o → σ₁.hp a = some o := fun a o q => by
    unfold Hp.del at q
    split at q
    · cases q
    · split at q
      · cases q
      · exact q
  obtain ⟨v, ge, t, hv⟩ := ns.gets h7
  subst hv
  have i : IsExc D.base quicErr s x k s₁.heap ((σ₁.hp.del x).del d) (Fl c.env.locals) := ⟨fx, by unfold Hp.del; split <;> first | rfl | simp, ob, vs, d, es, n, t, hob, h2, h3, h5, fd, e2, ge, .inl ⟨h4, .inl rfl⟩⟩
  have done : XP D c σ s X (.ref x) s₁ := ⟨_, x, k, rfl, r₁.untrack _ hH, ⟨e₁.keep, fun a o q => e₁.trk a o (hH a o q), e₁.ex, e₁.tk, e₁.pur⟩, i, hX⟩
  obtain ⟨oc, odi, oda, osl⟩ := ob
  dsimp only at h2 h3 h5
  subst h2 h3 h5
  have LS := looks_mroIn (M := model D.prog D.w) r₁.K (xf.sub "BaseException" (by simp))
  have LT : Looks (model D.prog D.w) s₁.heap (typeOf (.ref quicErr)) (.type "type") := by
    obtain ⟨nm, q, N, bs, sn, sub, ab, col, dd, k0, k1, k2, k3, k5, hC, _⟩ := xf.cls
    exact (Looks.ld (r₁.K _ _ hC)).andThen .now
  have hh := r₁.ok.handled
  clear h h1 h6 h7 ns ge e2 i T I2 r₁ e₁ hX
  obtain ⟨hp, g, dd, tk, os⟩ := s₁
  dsimp only at hob LS LT
  repeat (first | with_reducible refine wpAny_loadPart_at hob ?_ | with_reducible refine LS.at ?_ | with_reducible refine LT.at ?_ | wp_step)
  rw [h4]
  refine wpAny_pure ?_
  rw [if_neg (by decide)]
  exact wpAny_pure (wpAny_raiseNew_none hh done)
end
end Mine

namespace Mine
open PySem PySem.W PySem.Calls PyProof.Rows
section
variable {D : Wd} {c : Cx} {σ : St} {s : Shared} {X : Int → St → Prop} {Q : AV → St → Prop}
theorem TO_exc {fd : FuncData} {xs : List Str} {body : List Stmt} {as : List AV} {room : Nat} (xf : XF D) (ok : FnOk D 35 fd xs body) (hl : as.length + 1 = xs.length) (hz : xs.length ≤ 20) (hpu : c.pur = false) (hr : room + 1 < c.room)
    (h : ∀ A' L x t, σ.hp x = none → TF D (callee A' c (callEnvC fd L 35) room) (execs body (callEnvC fd L 35)) ⟨bindV xs (.obj x :: as) [], σ.hp.set x (.raw (exc0 t))⟩ (fun fl σ' => retOf fl = .none ∧ Q (.obj x) ⟨σ.vars, σ'.hp⟩) (fun k σ' => X k ⟨σ.vars, σ'.hp⟩)) :
    TO D c VR as (fun vs => call (.ref quicErr) vs) σ Q X := fun s vs r hv => by
  obtain ⟨nm, q, N, bs, sn, sub, ab, col, dd, k0, k1, k2, k3, k5, hC, on, es, ep, hN, hNd, hNk, hNi⟩ := xf.cls
  obtain ⟨o35, h35, hfc⟩ : ∃ o, D.K.lookup 35 = some o ∧ o.cls = .type "function" := by
    have := xf.init
    have : ((D.K.lookup 35).map (·.cls) == some (Value.type "function")) = true := this
    cases q : D.K.lookup 35 with
    | none => rw [q] at this; cases this
    | some o => rw [q] at this; exact ⟨o, rfl, by simpa using this⟩
  have ns : s.heap.Ns N (nsFind es) := ⟨on, es, ep, r.K _ _ hN, hNd, hNk, fun _ => rfl⟩
  have rk := r.K
  have rok := r.ok
  have hvl := hv.length
  obtain ⟨hp, g, d, t, os⟩ := s
  refine wpAny_call_exc_init (hrest := by rw [hvl]; exact Nat.le_trans (by omega : as.length ≤ 20) (by decide)) F.excBase_Exception (rk _ _ hC) ns hNi (rk _ _ h35) hfc fun h' x hm => ?_
  obtain ⟨tt, h1, _, _⟩ := hm.there
  obtain ⟨b1, b2⟩ := r.alloc (tk := t) (o := .raw (exc0 tt)) hm.keeps hm.new h1 (rawOk rfl rfl) (fun _ q => nomatch q)
  have hv' : VRs h' (.obj x :: as) (.ref x :: vs) := .cons rfl (hv.mono b2.tk)
  refine wpAny_call (codeAny_mono (callAny (Q := fun b σ' => b = .none ∧ Q (.obj x) σ') (X := X) (as := .obj x :: as) (c.A.under (.builtin "type.__call__" ⟨.ref quicErr :: vs, []⟩)) ok (by simpa using hl) hpu (room_for rok quicErr vs hr) (fun L => h _ L x tt (r.untracked hm.new)) b1 hv') fun q s' z => ?_)
  cases q with
  | error e =>
    obtain ⟨σ', ea, k, e1, r', x', i', q'⟩ := XP.lift b2 z
    exact ⟨σ', ea, k, e1, r', x', i', q'⟩
  | ok fl =>
    cases fl with
    | ret v =>
      obtain ⟨b, σ', r', x', v', rfl, q'⟩ := z
      have v2 : v = .none := v'
      exact ⟨v2, .obj x, σ', r', b2.trans x', rfl, q'⟩
    | next => exact z
    | brk => exact z
    | cont => exact z

/-- a method got from a type of the machine's -/
theorem TE_methodT {o : Expr} {name : Str} {apos pos : Pos} {args : List Expr} {f : Value} (hb : attributeBase o name c.env (eval o c.env) = eval o c.env) (hform : methodCallForm (args.length + ([] : List Keyword).length) (backTo pos (starEach args c.env)) (backToKw pos (keywordEach [] c.env)) = true) (hline : (apos.endLine == pos.line) = true)
    (hp : Plain c.env args) (hn : (backTo pos (starEach args c.env)).any (·.1) = false)
    (h : TE D c (eval o c.env) σ (fun a σ₁ => ∃ T, a = .stat (.type T) ∧ typeOf (.type T) = pure (.type "type") ∧ Manifest.isStub T = false ∧ findCls [] (.type T) (.type "type") name = some (.val f) ∧ handedIn f = true ∧ TEs D c args σ₁ (fun as σ₂ => Kp D c σ₂ f ∧ TO D c VR as (fun vs => call f vs) σ₂ Q X) X) X) : TE D c (eval (.Call (.Attribute o name apos) args [] pos) c.env) σ Q X := fun s r => by
  rw [arm_eval_Call, hb]
  refine wpAny_bind (h.use r (Ext.refl ..) fun u s₁ a σ₁ r₁ _ e₁ v₁ q₁ => wpAny_bind (wpAny_standAt ?_))
  obtain ⟨T, rfl, ht, hs, hf, hh, q⟩ := q₁
  have v2 : u = .type T := v₁
  subst v2
  have hpos : methodCallPos true o c.env apos pos = pure pos := by unfold methodCallPos; simp [hline]
  unfold methodCall
  rw [hform]
  obtain ⟨m, n, _⟩ := r₁.fr.loc
  obtain ⟨g1, g2⟩ := r₁.grow (h' := s₁.heap) (tk := s₁.toks + 1) (fun _ _ e => e)
  refine wpAny_bind (wpAny_holding (method_type (K := []) (frAll n) (fun _ _ e => nomatch e) ht hs hf hh ?_))
  exact wpAny_bind (wpAny_of_eq hpos (callWith_run (fs := []) hp hn q g1 (e₁.trans g2) rfl))
theorem O_add_str {a b : Str} (hz : a.length + b.length ≤ 1000) (h : Q (.str (a ++ b)) σ) : TO2 D c VR (.str a) (.str b) (binaryOp .Add) σ Q X := fun s u v r ⟨_, e⟩ ⟨_, e'⟩ => by
  subst e e'
  exact add_str (fun t' tk => post0 (b := AV.str _) (R := VR) r ⟨t', rfl⟩ h) (Nat.le_trans hz (by decide))
theorem B_str_int {k : Int} (hk : k.natAbs.log2 < 1920) (h : Q (.str (toString k)) σ) : TO D c VR [.int k] (fun vs => call (.type "str") vs) σ Q X := fun s vs r hv => by
  obtain ⟨u, us, rfl, ⟨t, e⟩, e0⟩ := hv
  have e0' : us = [] := e0
  subst e e0'
  exact PySem.P.str_of_int hk (pS r h)
end
end Mine

namespace Mine
open PySem PySem.W PySem.Calls PyProof.Rows
section
variable {D : Wd} {c : Cx} {σ : St} {s : Shared} {X : Int → St → Prop}
/-- a loop over a list that stays -/
noncomputable def LoopL (D : Wd) (c : Cx) (target : Expr) (body : List Stmt) (l : Addr) (all : List AV) : List AV → St → (AF → St → Prop) → (Int → St → Prop) → Prop
  | [], σ, Q, _ => Q .next σ
  | x :: r, σ, Q, X => TO1 D c EqR x (fun v => assign target c.env v) σ (fun _ σ₂ => TF D c (execs body c.env) σ₂ (fun fl σ₃ => match fl with
      | .ret v => Q (.ret v) σ₃
      | .brk => Q .next σ₃
      | _ => σ₃.hp l = some (.list all) ∧ LoopL D c target body l all r σ₃ Q X) X) X
noncomputable def Goes (target : Expr) : Prop := ∀ {prog : Program} {w : World} {A : Around} {E : Value → Shared → Prop} {s : Shared} {I l : Addr} {i : Nat} {v : Value} {Q : Unit → Shared → Prop}, s.heap.IsListIter I l i → Q () s → wpAny (model prog w) A (letOwnedTupleGo target (.ref I) v) Q E s
theorem goes_name {x : Str} {p : Pos} : Goes (.Name x p) := fun _ h => wpAny_pure h
theorem goes_tuple {elts : List Expr} {k : Nat} {p : Pos} : Goes (.Tuple elts k p) := fun {prog w A E s I l i v Q} hi h => by
  cases v with
  | ref a => exact wpAny_letOwnedTupleGo_listiter hi h
  | _ => exact wpAny_pure h
theorem VRs.at {h : Heap} {xs : List AV} {vs : List Value} (a : VRs h xs vs) {i : Nat} (hi : i < xs.length) : ∃ v, vs[i]? = some v ∧ VR h xs[i] v := a.get (by rw [List.getElem?_eq_getElem hi])

theorem TF_for_list {Q : AF → St → Prop} {target iter : Expr} {body : List Stmt} {pos : Pos} {outer : List Env} (hs : ∀ x, foldedSetIterable iter c.env x = pure x) (hg : Goes target) (hpu : c.pur = false) (hfr : c.frames = c.env :: outer) (hf : c.env.frame = some c.env.locals)
    (h : TE D c (eval iter c.env) σ (fun a σ₁ => ∃ l xs, a = .obj l ∧ σ₁.hp l = some (.list xs) ∧ LoopL D c target body l xs xs σ₁ Q X) X) : TF D c (exec (.For target iter body [] pos) c.env) σ Q X := fun s r => by
  have hE : PassesOwn (model D.prog D.w) c.A c.env (XP D c σ s X) := XP.passes r hpu hfr hf
  refine wpAny_For (h.use r (Ext.refl ..) fun u s₁ a σ₁ r₁ _ e₁ v₁ q₁ => ?_) hs
  obtain ⟨l, xs, rfl, hl, hL⟩ := q₁
  have e' : u = .ref l := v₁
  subst e'
  obtain ⟨ws, p, hw⟩ := r₁.list hl
  refine wpAny_pyIter_list p.isList ?_
  -- the iterator
  have hit0 : (s₁.heap.push { cls := .type "list_iterator", data := .fields #[.ref l, .int 0 0] }).IsListIter s₁.heap.objs.size l 0 := ⟨_, Heap.get?_push_size _ rfl, rfl, rfl⟩
  obtain ⟨b1, b2⟩ := r₁.grow (h' := s₁.heap.push { cls := .type "list_iterator", data := .fields #[.ref l, .int 0 0] }) (tk := s₁.toks) push_keeps
  have hin : s₁.heap.get? s₁.heap.objs.size = none := fresh_none _
  generalize s₁.heap.objs.size = I at *
  refine codeAny_forLoop_any (fun n s' => ∃ σ' i, Rep D c σ' s' ∧ Ext c σ₁ s₁ σ' s' ∧ σ'.hp I = none ∧ σ'.hp l = some (.list xs) ∧ s'.heap.IsListIter I l i ∧ LoopL D c target body l xs (xs.drop i) σ' Q X ∧ i ≤ xs.length ∧ n = xs.length + 1 - i) ?_ (xs.length + 1) ⟨σ₁, 0, b1, b2, r₁.untracked hin, hl, hit0, hL, Nat.zero_le _, rfl⟩
  rintro n s' ⟨σ', i, r', x', uI, hl', hit, hLi, hle, rfl⟩
  obtain ⟨ws', p', hw'⟩ := r'.list hl'
  have lw := hw'.length
  have If : I ∉ fa c.env := fun m => by obtain ⟨o, e⟩ := r₁.inFa m; rw [hin] at e; cases e
  -- the iterator turned
  have turn : ∀ h', (∀ b o, b ≠ I → s'.heap.get? b = some o → h'.get? b = some o) → Rep D c σ' { s' with heap := h' } ∧ Ext c σ₁ s₁ σ' { s' with heap := h' } := fun h' k =>
    r₁.stepped r' x' hpu ⟨[I], ⟨fun a o e n _ => k a o (fun z => n (z ▸ List.mem_cons_self ..)) e, fun a o e m => ⟨o.slots, k a o (fun z => by
      subst z
      obtain ⟨_, o', _, _, e', _⟩ := r₁.ff.mem m
      rw [hin] at e'; cases e') e⟩, fun a ha o e => by
      rcases List.mem_cons.mp ha with rfl | ha
      · obtain ⟨o', e', _, d⟩ := hit
        rw [e] at e'; cases e'; exact ⟨_, d⟩
      · cases ha⟩, fun a ha => by
      rcases List.mem_cons.mp ha with rfl | ha
      · exact ⟨hin, uI⟩
      · cases ha⟩
  by_cases hlt : i < xs.length
  · obtain ⟨v, hv, hvx⟩ := hw'.at hlt
    refine wpAny_pyNext_list_item (x := v) hit p'.isList (by simpa using hv) fun h' hit' hsb => ?_
    obtain ⟨c1, c2⟩ := turn h' fun b o nb e => (hsb.2 b nb).trans e
    refine hg hit' ?_
    have hdrop : xs.drop i = xs[i] :: xs.drop (i + 1) := List.drop_eq_getElem_cons hlt
    rw [hdrop] at hLi
    have tk' : TK s'.heap h' := fun a vs e => (hsb.2 a (fun z => by
      subst z
      obtain ⟨o', e', _, d⟩ := hit
      rw [e] at e'; cases e'; cases d)).trans e
    refine wpAny_mono (hLi { s' with heap := h' } v c1 (hvx.mono tk')) (fun _ s₂ ⟨_, σ₂, r₂, x₂, _, q₂⟩ => ?_) fun e s'' y => hE e s'' (y.lift (e₁.trans c2))
    refine wpAny_mono (q₂ s₂ r₂) (fun f s₃ ⟨fl, σ₃, r₃, x₃, hfl, q₃⟩ => ?_) fun e s'' y => hE e s'' (y.lift ((e₁.trans c2).trans x₂))
    have ext := (c2.trans x₂).trans x₃
    have again : (σ₃.hp l = some (.list xs) ∧ LoopL D c target body l xs (xs.drop (i + 1)) σ₃ Q X) → ∃ m, m < xs.length + 1 - i ∧ ∃ σ' i, Rep D c σ' s₃ ∧ Ext c σ₁ s₁ σ' s₃ ∧ σ'.hp I = none ∧ σ'.hp l = some (.list xs) ∧ s₃.heap.IsListIter I l i ∧ LoopL D c target body l xs (xs.drop i) σ' Q X ∧ i ≤ xs.length ∧ m = xs.length + 1 - i := fun ⟨g1, g2⟩ => by
      obtain ⟨oI, eI, cI, dI⟩ := hit'
      have x23 := x₂.trans x₃
      have nfw : I ∉ fw c.env := fun m => If (fw_fa m)
      obtain ⟨sl, e3⟩ := x23.keep I oI eI uI nfw
      have u3 : σ₃.hp I = none := by
        cases q : σ₃.hp I with
        | none => rfl
        | some o =>
          rcases x23.trk I o q with ⟨o', w⟩ | w
          · rw [uI] at w; cases w
          · rw [eI] at w; cases w
      exact ⟨xs.length + 1 - (i + 1), by omega, σ₃, i + 1, r₃, ext, u3, g1, ⟨_, e3, cI, dI⟩, g2, hlt, rfl⟩
    cases fl with
    | next =>
      have hf' : f = .next := hfl
      subst hf'
      exact again q₃
    | cont =>
      have hf' : f = .cont := hfl
      subst hf'
      exact again q₃
    | brk =>
      have hf' : f = .brk := hfl
      subst hf'
      exact ⟨.next, σ₃, r₃, e₁.trans ext, rfl, q₃⟩
    | ret v =>
      obtain ⟨w, hf', hw⟩ := hfl
      subst hf'
      exact ⟨.ret v, σ₃, r₃, e₁.trans ext, ⟨w, rfl, hw⟩, q₃⟩
  · have hi : i = xs.length := by omega
    subst hi
    refine wpAny_pyNext_list_end r.ok.handled hit p'.isList (by simp [lw]) fun h' he => ?_
    obtain ⟨c1, c2⟩ := turn h' fun b o nb e => he b o nb e
    rw [List.drop_length] at hLi
    exact wpAny_execs_nil ⟨.next, σ', c1, e₁.trans c2, rfl, hLi⟩
end
end Mine

namespace Mine
open PySem PySem.W PySem.Calls PyProof.Rows
section
variable {D : Wd} {c : Cx} {σ : St} {s : Shared} {X : Int → St → Prop}
theorem Rep.retype (r : Rep D c σ s) {d : Addr} {o o' : AO} {ob : Obj} (hd : σ.hp d = some o) (he : s.heap.get? d = some ob) (ok : OR D.prog D.w s.heap o' ob) (nm : ∀ kvs, o' = .dict kvs → d ≠ sysModules) : Rep D c { σ with hp := σ.hp.set d o' } s := by
  refine ⟨r.st, r.ok, fun b p e => ?_, fun b p e => ?_, fun b hb => ?_, r.fr, r.base, r.baseA, r.same, r.ff, fun L hL => ?_, nmSet r.nm nm⟩
  · by_cases q : b = d
    · subst q
      have : o' = p := by simpa [Hp.set] using e
      subst this
      exact ⟨ob, he, ok⟩
    · exact r.hp b p (by simpa [Hp.set, q] using e)
  · by_cases q : b = d
    · subst q; exact r.fresh b o hd
    · exact r.fresh b p (by simpa [Hp.set, q] using e)
  · have q : b ≠ d := fun q => by subst q; rw [r.apart b hb] at hd; cases hd
    show (if b = d then some o' else σ.hp b) = none
    rw [if_neg q]; exact r.apart b hb
  · have q : L ≠ d := fun q => by subst q; rw [r.fapart L hL] at hd; cases hd
    show (if L = d then some o' else σ.hp L) = none
    rw [if_neg q]; exact r.fapart L hL
theorem Ext.retype {σ₀ : St} {s₀ : Shared} (x : Ext c σ₀ s₀ σ s) {d : Addr} {o o' : AO} (hd : σ.hp d = some o) : Ext c σ₀ s₀ { σ with hp := σ.hp.set d o' } s :=
  ⟨x.keep, fun b p e => by
    by_cases q : b = d
    · subst q; exact x.trk b o hd
    · exact x.trk b p (by simpa [Hp.set, q] using e), x.ex, x.tk, x.pur⟩
theorem Ext.from {σ₀ : St} {s₀ : Shared} {d : Addr} {o o' : AO} (hd : σ₀.hp d = some o) (x : Ext c { σ₀ with hp := σ₀.hp.set d o' } s₀ σ s) : Ext c σ₀ s₀ σ s :=
  ⟨fun a ob e n nf => x.keep a ob e (by
      show (if a = d then some o' else σ₀.hp a) = none
      rw [if_neg (fun q => by subst q; rw [hd] at n; cases n)]; exact n) nf, fun b p e => by
    rcases x.trk b p e with ⟨o'', w⟩ | w
    · by_cases q : b = d
      · subst q; exact .inl ⟨o, hd⟩
      · exact .inl ⟨o'', by simpa [Hp.set, q] using w⟩
    · exact .inr w, x.ex, x.tk, x.pur⟩
noncomputable def St.at (σ : St) (d : Addr) (o : AO) : St := { σ with hp := σ.hp.set d o }
/-- a loop over a dict's keys, the dict staying -/
noncomputable def LoopD (D : Wd) (c : Cx) (target : Expr) (body : List Stmt) (d : Addr) (kvs : List (Int × AV)) (ob : Obj) : List Int → St → (AF → St → Prop) → (Int → St → Prop) → Prop
  | [], σ, Q, _ => Q .next (σ.at d (.dict kvs))
  | k :: r, σ, Q, X => TO1 D c EqR (.int k) (fun v => assign target c.env v) σ (fun _ σ₂ => TF D c (execs body c.env) σ₂ (fun fl σ₃ => σ₃.hp d = some (.dictx kvs ob) ∧ match fl with
      | .ret v => Q (.ret v) (σ₃.at d (.dict kvs))
      | .brk => Q .next (σ₃.at d (.dict kvs))
      | _ => LoopD D c target body d kvs ob r σ₃ Q X) (fun k σ' => σ'.hp d = some (.dictx kvs ob) ∧ X k (σ'.at d (.dict kvs)))) (fun k σ' => σ'.hp d = some (.dictx kvs ob) ∧ X k (σ'.at d (.dict kvs)))

theorem TF_for_dict {Q : AF → St → Prop} {x : Str} {xp : Pos} {iter : Expr} {body : List Stmt} {pos : Pos} {outer : List Env} (hs : ∀ x, foldedSetIterable iter c.env x = pure x) (hpu : c.pur = false) (hfr : c.frames = c.env :: outer) (hf : c.env.frame = some c.env.locals)
    (h : TE D c (eval iter c.env) σ (fun a σ₁ => ∃ d kvs, a = .obj d ∧ σ₁.hp d = some (.dict kvs) ∧ ∀ ob, LoopD D c (.Name x xp) body d kvs ob (kvs.map (·.1)) (σ₁.at d (.dictx kvs ob)) Q X) X) : TF D c (exec (.For (.Name x xp) iter body [] pos) c.env) σ Q X := fun s r => by
  have hE : PassesOwn (model D.prog D.w) c.A c.env (XP D c σ s X) := XP.passes r hpu hfr hf
  refine wpAny_For (h.use r (Ext.refl ..) fun u s₁ a σ₁ r₁ _ e₁ v₁ q₁ => ?_) hs
  obtain ⟨d, kvs, rfl, hd, hL⟩ := q₁
  have e' : u = .ref d := v₁
  subst e'
  obtain ⟨ks, p, hk, lo⟩ := r₁.dict hd
  obtain ⟨ep, hat⟩ := p.dictAt
  obtain ⟨ob, eso, hob, hD⟩ := id hat
  have hne : d ≠ sysModules := r₁.nm _ _ hd
  have okx : ∀ {h : Heap}, TK s₁.heap h → OR D.prog D.w h (.dictx kvs ob) ob := fun t => ⟨rfl, ks, ⟨eso, ep, hD⟩, hk.mono t⟩
  have okd : ∀ {h : Heap}, TK s₁.heap h → OR D.prog D.w h (.dict kvs) ob := fun t => ⟨ks, ⟨eso, ep, hD⟩, hk.mono t⟩
  refine wpAny_pyIter_dict lo hat ?_
  have rx : Rep D c (σ₁.at d (.dictx kvs ob)) s₁ := r₁.retype hd hob (okx (TK.refl _)) (fun _ q => nomatch q)
  have hin : s₁.heap.get? s₁.heap.objs.size = none := fresh_none _
  have hit0 : (s₁.heap.push { cls := .type "dict_keyiterator", data := .fields #[.ref d, .int 0 0, .int ks.length 0, .int ep 0] }).IsKeyIter s₁.heap.objs.size d 0 ks.length ep := ⟨_, Heap.get?_push_size _ rfl, rfl, rfl⟩
  obtain ⟨b1, b2⟩ := rx.grow (h' := s₁.heap.push { cls := .type "dict_keyiterator", data := .fields #[.ref d, .int 0 0, .int ks.length 0, .int ep 0] }) (tk := s₁.toks) push_keeps
  generalize s₁.heap.objs.size = I at *
  have hLx := hL ob
  have dIne : d ≠ I := fun q => by subst q; rw [hob] at hin; cases hin
  have at_ : ∀ {σ' : St}, σ'.hp d = some (.dictx kvs ob) → ∀ {s' : Shared}, Rep D c σ' s' → s'.heap.get? d = some ob := fun {σ'} q {s'} r' => by
    obtain ⟨o, e, e2, _⟩ := r'.hp d _ q
    rw [e, e2]
  have ex0 : Ext c σ s (σ₁.at d (.dictx kvs ob)) s₁ := e₁.retype hd
  have back : ∀ {σ' : St} {s' : Shared}, Rep D c σ' s' → TK s₁.heap s'.heap → Ext c σ s σ' s' → σ'.hp d = some (.dictx kvs ob) → Rep D c (σ'.at d (.dict kvs)) s' ∧ Ext c σ s (σ'.at d (.dict kvs)) s' := fun r' t x' q =>
    ⟨r'.retype q (at_ q r') (okd t) (fun _ _ => hne), x'.retype q⟩
  have hX : ∀ {σ₂ : St} {s₂ : Shared}, TK s₁.heap s₂.heap → Ext c σ s σ₂ s₂ → ∀ e s', XP D c σ₂ s₂ (fun k σ' => σ'.hp d = some (.dictx kvs ob) ∧ X k (σ'.at d (.dict kvs))) e s' → XP D c σ s X e s' := fun {σ₂ s₂} t x₂ e s' y => by
    have t' : TK s₂.heap s'.heap := by
      obtain ⟨_, _, _, _, _, x, _⟩ := y
      exact x.tk
    obtain ⟨σ', ea, k, e1, r', x', i', q1, q2⟩ := y.lift x₂
    obtain ⟨c1, c2⟩ := back r' (t.trans t') x' q1
    have un : ∀ {a}, σ'.hp a = none → (σ'.at d (.dict kvs)).hp a = none := fun {a} n => by
      show (if a = d then _ else σ'.hp a) = none
      rw [if_neg (fun q => by subst q; rw [q1] at n; cases n)]; exact n
    obtain ⟨i1, i2, oe, vs, dx, des, dn, t, h1, h2, h3, h4, h5, h6, h7, h8⟩ := i'
    refine ⟨σ'.at d (.dict kvs), ea, k, e1, c1, c2, ⟨i1, un i2, oe, vs, dx, des, dn, t, h1, h2, h3, h4, h5, h6, h7, ?_⟩, q2⟩
    rcases h8 with h8 | ⟨T, oT, ts, v, k1, k2, k3⟩
    · exact .inl h8
    · exact .inr ⟨T, oT, ts, v, k1, ⟨k2.1, un k2.2⟩, k3⟩
  have lk := hk.length
  refine codeAny_forLoop_any (fun n s' => ∃ σ' i, Rep D c σ' s' ∧ Ext c (σ₁.at d (.dictx kvs ob)) s₁ σ' s' ∧ σ'.hp I = none ∧ σ'.hp d = some (.dictx kvs ob) ∧ s'.heap.IsKeyIter I d i ks.length ep ∧ LoopD D c (.Name x xp) body d kvs ob ((kvs.map (·.1)).drop i) σ' Q X ∧ i ≤ kvs.length ∧ n = kvs.length + 1 - i) ?_ (kvs.length + 1) ⟨_, 0, b1, b2, rx.untracked hin, by show (if d = d then _ else _) = _; rw [if_pos rfl], hit0, hLx, Nat.zero_le _, rfl⟩
  rintro n s' ⟨σ', i, r', x', uI, hd', hit, hLi, hle, rfl⟩
  have hob' := at_ hd' r'
  have hat' : s'.heap.DictAt (intKind D.prog D.w) d ks ep := ⟨ob, eso, hob', hD⟩
  have If : I ∉ fa c.env := fun m => by obtain ⟨o, e⟩ := r₁.inFa m; rw [hin] at e; cases e
  have turn : ∀ h', (∀ b o, b ≠ I → s'.heap.get? b = some o → h'.get? b = some o) → Rep D c σ' { s' with heap := h' } ∧ Ext c (σ₁.at d (.dictx kvs ob)) s₁ σ' { s' with heap := h' } := fun h' k =>
    rx.stepped r' x' hpu ⟨[I], ⟨fun a o e n _ => k a o (fun z => n (z ▸ List.mem_cons_self ..)) e, fun a o e m => ⟨o.slots, k a o (fun z => by
      subst z
      obtain ⟨_, o', _, _, e', _⟩ := r₁.ff.mem m
      rw [hin] at e'; cases e') e⟩, fun a ha o e => by
      rcases List.mem_cons.mp ha with rfl | ha
      · obtain ⟨o', e', _, d⟩ := hit
        rw [e] at e'; cases e'; exact ⟨_, d⟩
      · cases ha⟩, fun a ha => by
      rcases List.mem_cons.mp ha with rfl | ha
      · exact ⟨hin, uI⟩
      · cases ha⟩
  by_cases hlt : i < kvs.length
  · have hlt' : i < ks.length := by rw [lk]; exact hlt
    obtain ⟨k, v, hx⟩ : ∃ k v, ks[i]? = some (k, v) := ⟨ks[i].1, ks[i].2, List.getElem?_eq_getElem hlt'⟩
    have hki : (kvs.map (·.1))[i]? = some k := by rw [← hk.keys, List.getElem?_map, hx]; rfl
    refine wpAny_pyNext_dict_item (knd := intKind D.prog D.w) hit hat' hx fun key h' hkey hit' hsb => ?_
    obtain ⟨t, rfl⟩ := isInt_of hkey
    obtain ⟨c1, c2⟩ := turn h' fun b o nb e => (hsb.2 b nb).trans e
    refine wpAny_pure ?_
    have hdrop : (kvs.map (·.1)).drop i = k :: (kvs.map (·.1)).drop (i + 1) := by
      have hl : i < (kvs.map (·.1)).length := by rw [List.length_map]; exact hlt
      rw [List.drop_eq_getElem_cons hl]
      congr 1
      rw [List.getElem?_eq_getElem hl] at hki
      exact Option.some.inj hki
    rw [hdrop] at hLi
    have exc := ex0.trans c2
    refine wpAny_mono (hLi { s' with heap := h' } (.int k t) c1 ⟨t, rfl⟩) (fun _ s₂ ⟨_, σ₂, r₂, x₂, _, q₂⟩ => ?_) fun e s'' y => hE e s'' (hX c2.tk exc e s'' y)
    refine wpAny_mono (q₂ s₂ r₂) (fun f s₃ ⟨fl, σ₃, r₃, x₃, hfl, g1, q₃⟩ => ?_) fun e s'' y => hE e s'' (hX (c2.tk.trans x₂.tk) (exc.trans x₂) e s'' y)
    have ext := (c2.trans x₂).trans x₃
    have again : LoopD D c (.Name x xp) body d kvs ob ((kvs.map (·.1)).drop (i + 1)) σ₃ Q X → ∃ m, m < kvs.length + 1 - i ∧ ∃ σ' i, Rep D c σ' s₃ ∧ Ext c (σ₁.at d (.dictx kvs ob)) s₁ σ' s₃ ∧ σ'.hp I = none ∧ σ'.hp d = some (.dictx kvs ob) ∧ s₃.heap.IsKeyIter I d i ks.length ep ∧ LoopD D c (.Name x xp) body d kvs ob ((kvs.map (·.1)).drop i) σ' Q X ∧ i ≤ kvs.length ∧ m = kvs.length + 1 - i := fun g2 => by
      obtain ⟨oI, eI, cI, dI⟩ := hit'
      have x23 := x₂.trans x₃
      have nfw : I ∉ fw c.env := fun m => If (fw_fa m)
      obtain ⟨sl, e3⟩ := x23.keep I oI eI uI nfw
      have u3 : σ₃.hp I = none := by
        cases q : σ₃.hp I with
        | none => rfl
        | some o =>
          rcases x23.trk I o q with ⟨o', w⟩ | w
          · rw [uI] at w; cases w
          · rw [eI] at w; cases w
      exact ⟨kvs.length + 1 - (i + 1), by omega, σ₃, i + 1, r₃, ext, u3, g1, ⟨_, e3, cI, dI⟩, g2, hlt, rfl⟩
    have fin := back r₃ ext.tk (ex0.trans ext) g1
    cases fl with
    | next =>
      have hf' : f = .next := hfl
      subst hf'
      exact again q₃
    | cont =>
      have hf' : f = .cont := hfl
      subst hf'
      exact again q₃
    | brk =>
      have hf' : f = .brk := hfl
      subst hf'
      exact ⟨.next, _, fin.1, fin.2, rfl, q₃⟩
    | ret v =>
      obtain ⟨w, hf', hw⟩ := hfl
      subst hf'
      exact ⟨.ret v, _, fin.1, fin.2, ⟨w, rfl, hw⟩, q₃⟩
  · have hi : i = kvs.length := by omega
    subst hi
    refine wpAny_pyNext_dict_end (knd := intKind D.prog D.w) r.ok.handled hit hat' (by simp [lk]) fun h' he => ?_
    obtain ⟨c1, c2⟩ := turn h' fun b o nb e => he b o nb e
    have hnil : (kvs.map (·.1)).drop kvs.length = [] := by rw [List.drop_eq_nil_iff]; simp
    rw [hnil] at hLi
    have fin := back c1 c2.tk (ex0.trans c2) hd'
    exact wpAny_execs_nil ⟨.next, _, fin.1, fin.2, rfl, hLi⟩
theorem O_item_dictx {value slice : Expr} {Q : AV → St → Prop} {a : Addr} {kvs : List (Int × AV)} {ob : Obj} {k : Int} {x : AV} (hs : OneSlice slice) (ha : σ.hp a = some (.dictx kvs ob)) (hx : kvs.lookup k = some x) (h : Q x σ) :
    TO2 D c VR (.obj a) (.int k) (fun u w => subscriptTail value slice u w) σ Q X := fun s u v r e ⟨t, e'⟩ => by
  have e0 : u = .ref a := e
  subst e0 e'
  obtain ⟨o, e1, rfl, vs, p, hv⟩ := r.hp a _ ha
  have p' : s.heap.DictOf (intKind D.prog D.w) a vs := Heap.dictOf_iff.mpr ⟨_, e1, p⟩
  obtain ⟨y, hy, hyx⟩ := hv.get hx
  exact tail_any p'.typeIs slot_dict_getitem.lookup (wpAny_getItem_of (knd := intKind D.prog D.w) key_is p'.mapOf hy (post0 r hyx h)) (hs _ _)
end
end Mine

namespace Mine
open PySem PySem.W PySem.Calls PyProof.Rows
noncomputable def tests (ifs : List Expr) (env : Env) : Sem Bool := forIn ifs true fun c r => if r = true then do let ok ← isTrue c env (eval c env); pure (ForInStep.yield ok) else pure (ForInStep.yield r)
theorem compLoop_any {prog : Program} {w : World} {A : Around} {R : Result → Shared → Prop} {s : Shared} {elt target iter : Expr} {ifs : List Expr} {scope : Scope} {pos : Pos} {it acc : Value} {env : Env} {E0 : Value → Shared → Prop} (hE0 : E0 = notedBy (model prog w) A env fun e s' => R (.error e) s') (I : Nat → Shared → Prop)
    (turn : ∀ n s, I n s → wpAny (model prog w) A (pyNext it) (fun r s₁ => match r with
      | none => R (.ok .next) s₁
      | some v => wpAny (model prog w) A (letOwnedTupleGo target it v) (fun _ s₁' => wpAny (model prog w) A (assign target env v) (fun _ s₂ =>
          wpAny (model prog w) A (tests ifs env) (fun ok s₃ =>
            if ok = true then wpAny (model prog w) A (eval elt env) (fun x s₄ =>
              wpAny (model prog w) A (call (.builtin "list.append") [acc, x]) (fun _ s₅ => ∃ m, m < n ∧ I m s₅) E0 s₄) E0 s₃
            else ∃ m, m < n ∧ I m s₃) E0 s₂) E0 s₁') E0 s₁) E0 s)
    (n : Nat) (h : I n s) : codeAny (model prog w) A (.compLoop (.ListComp elt [⟨target, iter, ifs, 0⟩] scope pos) 0 it acc env) R s := by
  subst hE0
  refine codeAny_loop rfl I (fun n s hI => ?_) n h
  show wpAny _ A ((compTurn (.ListComp elt [⟨target, iter, ifs, 0⟩] scope pos) 0 it acc env).onRaise (fun x => do noteFrame x env; theTreesLotGoes x)) _ _ s
  refine wpAny_noted ?_
  rw [compTurn_list]
  refine wpAny_bind (wpAny_standAt (wpAny_bind (wpAny_mono (turn n s hI) (fun r s₁ h₁ => ?_) fun _ _ h' => h')))
  cases r with
  | none => exact wpAny_pure h₁
  | some v =>
    refine wpAny_bind (wpAny_mono h₁ (fun _ s₁' h₁' => ?_) fun _ _ h' => h')
    refine wpAny_bind (wpAny_mono h₁' (fun _ s₂ h₂ => wpAny_bind (wpAny_mono h₂ (fun ok s₃ h₃ => ?_) fun _ _ h' => h')) fun _ _ h' => h')
    cases ok with
    | false => exact wpAny_pure ⟨rfl, h₃⟩
    | true =>
      exact wpAny_bind (wpAny_bind (wpAny_mono h₃ (fun x s₄ h₄ => wpAny_bind (wpAny_mono h₄ (fun _ s₅ h₅ => wpAny_pure (wpAny_pure ⟨rfl, h₅⟩)) fun _ _ h' => h')) fun _ _ h' => h'))

theorem relabel_cell {scope : Scope} {env : Env} (hn : ∀ y ∈ scope.names, y.2 ≠ .cell) {x : Str} (h : (relabel scope env).names.lookup x = some .cell) : env.kindOf x = some .cell := by
  have hm := mem_of_lookup h
  obtain ⟨⟨n, k⟩, hp, e⟩ := List.mem_map.mp hm
  dsimp only at e
  split at e
  · rename_i hc
    cases e
    simp only [Bool.and_eq_true, beq_iff_eq] at hc
    exact hc.2
  · cases e
    exact absurd rfl (hn _ hp)
noncomputable def compCx (c : Cx) (scope : Scope) (cl : List (Str × Addr)) (C : Addr) : Cx := { A := c.A, env := compEnvC scope cl C c.env, frames := c.frames, pur := true, room := c.room }
/-- the names that a comprehension takes from around it -/
structure CapOk (c : Cx) (scope : Scope) (cl : List (Str × Addr)) (σ : St) (caps : List (Str × AV)) : Prop where
  kind : scope.kind = .function
  nocell : ∀ y ∈ scope.names, y.2 ≠ .cell
  sub : ∀ p ∈ cl, p ∈ c.env.cells
  apart : (cl.map (·.2)).Pairwise (· ≠ ·)
  caps : ∀ p ∈ caps, σ.vars.lookup p.1 = some p.2 ∧ (c.env.kindOf p.1 = some .cell ∨ c.env.kindOf p.1 = some .free) ∧ c.env.cells.lookup p.1 = cl.lookup p.1 ∧ (relabel scope c.env).names.lookup p.1 ≠ some .local
section
variable {D : Wd} {c : Cx} {σ : St} {s : Shared} {X : Int → St → Prop} {scope : Scope} {cl : List (Str × Addr)} {caps : List (Str × AV)}
theorem lookup_mem_pair {l : List (Str × AV)} {y : Str} {av : AV} (h : l.lookup y = some av) : (y, av) ∈ l := mem_of_lookup h
theorem lookup_append' {l r : List (Str × AV)} {y : Str} {av : AV} : (l ++ r).lookup y = some av → l.lookup y = some av ∨ (l.lookup y = none ∧ r.lookup y = some av) := fun h => by
  rw [List.lookup_append] at h
  cases q : l.lookup y with
  | some b => rw [q] at h; exact .inl h
  | none => rw [q] at h; exact .inr ⟨rfl, h⟩
/-- a comprehension's own frame -/
theorem comp_rep (r : Rep D c σ s) (k : CapOk c scope cl σ caps) {C : Addr} {h' : Heap} {tk : Nat} {m : Str → Option Value} {tv : List (Str × AV)} (hk : ∀ a o, s.heap.get? a = some o → h'.get? a = some o) (hC : s.heap.get? C = none) (n : h'.Ns C m)
    (htv : ∀ y av, tv.lookup y = some av → (relabel scope c.env).names.lookup y = some .local ∧ ∃ v, m y = some v ∧ VR h' av v) : Rep D (compCx c scope cl C) ⟨tv ++ caps, σ.hp⟩ { s with heap := h', toks := tk } := by
  have t : TK s.heap h' := TK.of_keeps hk
  obtain ⟨r2, _⟩ := r.grow (h' := h') (tk := tk) hk
  have fsub : ∀ a ∈ cl.map (·.2), a ∈ fa c.env := fun a ha => by
    obtain ⟨p, hp, rfl⟩ := List.mem_map.mp ha
    exact List.mem_cons_of_mem _ (List.mem_map.mpr ⟨p, k.sub p hp, rfl⟩)
  refine ⟨r.st, ⟨k.kind, r.ok.glob, r.ok.blt, r.ok.frames, r.ok.handled, r.ok.depth, r.ok.units, k.apart, fun m => ?_⟩, r2.hp, r.fresh, fun a ha => ?_, ⟨⟨m, n, fun y av e1 e2 => ?_⟩, fun y av e1 e2 => ?_, fun p hp => ?_⟩, r2.base, fun a ha => ?_, r2.same, r2.ff, r.fapart, r.nm⟩
  · obtain ⟨o, e⟩ := r.inFa (fsub _ m)
    have : s.heap.get? C = some o := e
    rw [hC] at this; cases this
  · rcases List.mem_cons.mp ha with e | ha
    · have e' : a = C := e
      rw [e']; exact r.untracked hC
    · exact r.apart a (fsub a ha)
  · rcases lookup_append' e1 with e1 | ⟨_, e1⟩
    · exact (htv y av e1).2
    · exact absurd e2 (k.caps _ (mem_of_lookup e1)).2.2.2
  · rcases lookup_append' e1 with e1 | ⟨_, e1⟩
    · have := (htv y av e1).1
      have e3 : (compCx c scope cl C).env.kindOf y = some .local := this
      rw [e3] at e2; rcases e2 with e2 | e2 <;> cases e2
    · obtain ⟨k1, k2, k3, _⟩ := k.caps _ (mem_of_lookup e1)
      obtain ⟨a, v, h1, h2, h3⟩ := r2.fr.cell y av k1 k2
      have k3' : c.env.cells.lookup y = cl.lookup y := k3
      exact ⟨a, v, k3' ▸ h1, h2, h3⟩
  · exact r2.fr.cells p (k.sub p hp)
  · rcases List.mem_cons.mp ha with e | ha
    · have e' : a = C := e
      rw [e']
      cases q : D.base.get? C with
      | none => rfl
      | some o => have := r.base C o q; rw [hC] at this; cases this
    · refine r.baseA a (List.mem_cons_of_mem _ ?_)
      obtain ⟨p, hp, e⟩ := List.mem_map.mp ha
      obtain ⟨hp1, hp2⟩ := List.mem_filter.mp hp
      exact List.mem_map.mpr ⟨p, List.mem_filter.mpr ⟨k.sub p hp1, by rw [relabel_cell k.nocell (show (relabel scope c.env).names.lookup p.1 = some .cell from beq_iff_eq.mp hp2)]; rfl⟩, e⟩

/-- how an item is laid into the comprehension's own names -/
noncomputable def Lays (D : Wd) (target : Expr) (env : Env) (C : Addr) (x : AV) (tv : List (Str × AV)) : Prop := ∀ (A : Around) (E : Value → Shared → Prop) (Q : Unit → Shared → Prop) (s : Shared) (v : Value) (m : Str → Option Value), A.handled = none → VR s.heap x v → s.heap.Ns C m →
  (∀ h' tk m', (∀ b o, b ≠ C → s.heap.get? b = some o → h'.get? b = some o) → h'.Ns C m' → (∀ y av, tv.lookup y = some av → ∃ v, m' y = some v ∧ VR h' av v) → Q () { s with heap := h', toks := tk }) → wpAny (model D.prog D.w) A (assign target env v) Q E s
theorem tk_but {h h' : Heap} {C : Addr} {m : Str → Option Value} (n : h.Ns C m) (k : ∀ b o, b ≠ C → h.get? b = some o → h'.get? b = some o) : TK h h' := fun a vs e => k a _ (fun q => by
  subst q
  obtain ⟨o, es, ep, e', d, _⟩ := n
  rw [e] at e'; cases e'; cases d) e
theorem lays_name {x : Str} {p : Pos} {env : Env} {C : Addr} {av : AV} (hx : env.kindOf x = some .local) (hk : (env.scope.kind == .class || (env.scope.kind == .module && env.locals != env.globals)) = false) (hC : env.locals = C) : Lays D (.Name x p) env C av [(x, av)] := fun A E Q s v m hh hv n h => by
  subst hC
  refine wpAny_assign_Name (wpAny_storeName_local hx n (fun h' n' hs => h h' _ _ (fun b o nb e => (hs.2 b nb).trans e) n' fun y a e => ?_) hk)
  rw [lookup_cons'] at e
  split at e
  · rename_i q
    cases e
    exact ⟨v, by simp [q], hv.mono (tk_but n fun b o nb e => (hs.2 b nb).trans e)⟩
  · cases e
theorem comp_run {ι : Type} {items : List ι} {g f : ι → AV} {p : ι → Bool} {tv : ι → List (Str × AV)} {elt target iter : Expr} {ifs : List Expr} {pos : Pos} {I src : Addr} {P : Nat → Value → Prop} {St' : Nat → Heap → Prop} {RR : Value → Addr → Result → Shared → Prop} {E : Value → Shared → Prop} {s₂ : Shared}
    (r : Rep D c σ s) (k : CapOk c scope cl σ caps) (hk : ∀ a o, s.heap.get? a = some o → s₂.heap.get? a = some o) (hs2 : ∃ h tk, s₂ = { s with heap := h, toks := tk }) (hI : s.heap.get? I = none) (hI2 : I < s₂.heap.objs.size) (hsrc : src < s₂.heap.objs.size)
    (W : Walks D.prog D.w c.A I [I, src] [I] items.length P St') (hst : St' 0 s₂.heap) (hIt : ∀ i h, St' i h → ∀ vs, h.get? I ≠ some { cls := .type "tuple", data := .seq vs }) (hz : items.length ≤ 1000)
    (hP : ∀ i v h', (∀ a o, s.heap.get? a = some o → h'.get? a = some o) → P i v → ∃ hi : i < items.length, VR h' (g items[i]) v)
    (hgo : ∀ i (s' : Shared) v (Q' : Unit → Shared → Prop) (E' : Value → Shared → Prop), St' i s'.heap → Q' () s' → wpAny (model D.prog D.w) c.A (letOwnedTupleGo target (.ref I) v) Q' E' s')
    (htv : ∀ C x, x ∈ items → Lays D target (compEnvC scope cl C c.env) C (g x) (tv x) ∧ ∀ y av, (tv x).lookup y = some av → (relabel scope c.env).names.lookup y = some .local)
    (hq : ∀ C x, x ∈ items → T D (compCx c scope cl C) EqR (tests ifs (compEnvC scope cl C c.env)) ⟨tv x ++ caps, σ.hp⟩ (fun ok _ => ok = p x) (fun _ _ => False) ∧ (p x = true → TE D (compCx c scope cl C) (eval elt (compEnvC scope cl C c.env)) ⟨tv x ++ caps, σ.hp⟩ (fun y _ => y = f x) (fun _ _ => False)))
    (hRR : ∀ Dl C h' tk m' ys n, s.heap.get? Dl = none → s.heap.get? C = none → Dl ≠ C → h'.Ns C m' → h'.get? Dl = some { cls := .type "list", data := .seq (List.toArray ys) n } → VRs h' ((items.filter p).map f) ys → (∀ a o, s.heap.get? a = some o → h'.get? a = some o) → RR (.ref Dl) C (.ok .next) { s with heap := h', toks := tk }) :
    wpAny (model D.prog D.w) c.A (newList []) (fun acc s₃ => wpAny (model D.prog D.w) c.A (newFunctionEnv scope c.env.globals cl [] c.env.qual none .none (some c.env)) (fun cenv s₄ =>
      codeAny (model D.prog D.w) c.A (.compStart (.ListComp elt [⟨target, iter, ifs, 0⟩] scope pos) 0 (.ref I) acc { cenv with scope := relabel scope c.env }) (RR acc cenv.locals) s₄) E s₃) E s₂ := by
  refine wpAny_newObj_type (wpAny_newFunctionEnv k.nocell (by intro y hy; simp at hy) (fun h₁ hns₁ hsb₁ => ?_) k.kind)
  dsimp only at hns₁ hsb₁ ⊢
  generalize hH2 : s₂.heap.push { cls := .type "list", dict := none, data := .seq ([] : List Value).toArray } = H2 at hns₁ hsb₁ ⊢
  have hCs : H2.objs.size = s₂.heap.objs.size + 1 := by rw [← hH2, Heap.size_push]
  generalize hDl : s₂.heap.objs.size = Dl at *
  generalize hCC : H2.objs.size = C at *
  have hDC : Dl ≠ C := by rw [hCs]; exact Nat.ne_of_lt (Nat.lt_succ_self _)
  have old : ∀ b o, s₂.heap.get? b = some o → h₁.get? b = some o := fun b o e => hsb₁.extBut b o (by
    have := Heap.lt_size e
    rw [hDl] at this
    intro q; rw [q, hCs] at this; exact absurd (Nat.lt_of_succ_lt this) (Nat.lt_irrefl _)) (Heap.get?_push_of_some _ (hH2 ▸ Heap.get?_push_of_some _ e))
  have hDn : s.heap.get? Dl = none := by
    cases q : s.heap.get? Dl with
    | none => rfl
    | some o => have := Heap.lt_size (hk _ _ q); rw [hDl] at this; exact absurd this (Nat.lt_irrefl _)
  have hCn : s.heap.get? C = none := by
    cases q : s.heap.get? C with
    | none => rfl
    | some o => have := Heap.lt_size (hk _ _ q); rw [hDl, hCs] at this; exact absurd (Nat.lt_of_succ_lt this) (Nat.lt_irrefl _)
  have hID : I ≠ Dl := Nat.ne_of_lt hI2
  have hIC : I ≠ C := by rw [hCs]; exact Nat.ne_of_lt (Nat.lt_succ_of_lt hI2)
  have hsD : src ≠ Dl := Nat.ne_of_lt hsrc
  have hsC : src ≠ C := by rw [hCs]; exact Nat.ne_of_lt (Nat.lt_succ_of_lt hsrc)
  have old0 : ∀ b o, s.heap.get? b = some o → h₁.get? b = some o := fun b o e => old b o (hk b o e)
  have fr : ∀ {i : Nat} {h h' : Heap}, St' i h → (∀ b o, b ≠ C → b ≠ Dl → h.get? b = some o → h'.get? b = some o) → St' i h' := fun st kk => W.frame _ _ _ st fun b hb o e => by
    rcases List.mem_cons.mp hb with rfl | hb
    · exact kk _ o hIC hID e
    · rw [List.mem_singleton.mp hb] at e ⊢; exact kk _ o hsC hsD e
  have hst₁ : St' 0 h₁ := W.frame _ _ _ hst fun b hb o e => old b o e
  have hacc : h₁.get? Dl = some { cls := .type "list", data := .seq ([] : List Value).toArray 0 } := hsb₁.extBut _ _ hDC (Heap.get?_push_of_some _ (hH2 ▸ hDl ▸ Heap.get?_push_size _ rfl))
  obtain ⟨hs2h, hs2t, hs2e⟩ := hs2
  obtain ⟨hsh, hst', hse⟩ := r.same
  have loop : ∀ s₃ : Shared, s₃ = { s₂ with heap := h₁, toks := s₂.toks + ([] : List (Str × Value)).length } →
      codeAny (model D.prog D.w) c.A (.compLoop (.ListComp elt [⟨target, iter, ifs, 0⟩] scope pos) 0 (.ref I) (.ref Dl) (compEnvC scope cl C c.env)) (RR (.ref Dl) C) s₃ := by
    intro s₃ hs3
    refine compLoop_any rfl (fun kk s' => ∃ h' tk m' ys nn i, s' = { s with heap := h', toks := tk } ∧ St' i h' ∧ h'.get? Dl = some { cls := .type "list", data := .seq (List.toArray ys) nn } ∧ h'.Ns C m' ∧ VRs h' (((items.take i).filter p).map f) ys ∧ i ≤ items.length ∧ kk = items.length + 1 - i ∧ (∀ a o, s.heap.get? a = some o → h'.get? a = some o)) ?_ (items.length + 1) ⟨h₁, _, _, [], 0, 0, by rw [hs3, hs2e], hst₁, hacc, hns₁, by simp; rfl, Nat.zero_le _, rfl, old0⟩
    rintro kk s' ⟨h', tk, m', ys, nn, i, rfl, st, acc, ns, vrs, hle, rfl, keep⟩
    have hE : ∀ {σ' : St} {cc : Cx} {s'' : Shared} {e : Value} {s4 : Shared} {P : Value → Shared → Prop}, XP D cc σ' s'' (fun _ _ => False) e s4 → P e s4 := fun ⟨_, _, _, _, _, _, _, hf⟩ => hf.elim
    by_cases hlt : i < items.length
    · refine W.item i _ _ _ hlt st fun v h₂ tk₂ hPv st₂ k₂ => ?_
      have k₂' : ∀ b o, b ≠ I → h'.get? b = some o → h₂.get? b = some o := fun b o q e => k₂ b o (fun z => q (List.mem_singleton.mp z)) e
      have keep₂ : ∀ a o, s.heap.get? a = some o → h₂.get? a = some o := fun a o e => k₂' a o (fun q => by subst q; rw [hI] at e; cases e) (keep a o e)
      have ns₂ : h₂.Ns C m' := ns.at' fun o e => k₂' C o (Ne.symm hIC) e
      have acc₂ := k₂' Dl _ (Ne.symm hID) acc
      have tk2 : TK h' h₂ := fun a vs e => k₂' a _ (fun q => by
        subst q; exact hIt i h' st vs e) e
      refine hgo (i + 1) _ v _ _ st₂ ?_
      obtain ⟨hi, hvx⟩ := hP i v h₂ keep₂ hPv
      have hmem : items[i] ∈ items := List.getElem_mem hi
      refine (htv C _ hmem).1 _ _ _ _ v m' r.ok.handled hvx ns₂ fun h₃ tk₃ m₃ k₃ ns₃ tv₃ => ?_
      have keep₃ : ∀ a o, s.heap.get? a = some o → h₃.get? a = some o := fun a o e => k₃ a o (fun q => by subst q; rw [hCn] at e; cases e) (keep₂ a o e)
      have tkA := tk_but ns₂ k₃
      have R3 := comp_rep (tk := tk₃) r k keep₃ hCn ns₃ (tv := tv items[i]) fun y av e => ⟨(htv C _ hmem).2 y av e, tv₃ y av e⟩
      refine wpAny_mono ((hq C _ hmem).1 _ R3) (fun ok s₄ ⟨b, σ4, r4, x4, hok, hb⟩ => ?_) fun _ _ y => hE y
      have hok' : b = ok := hok
      subst hok'
      subst hb
      have e4 : s₄ = { s with heap := s₄.heap, toks := s₄.toks } := by
        obtain ⟨h4, t4, q4⟩ := r4.same
        rw [q4, hse]
      have k₄ : ∀ a o, h₃.get? a = some o → s₄.heap.get? a = some o := x4.pur rfl
      have keep₄ : ∀ a o, s.heap.get? a = some o → s₄.heap.get? a = some o := fun a o e => k₄ a o (keep₃ a o e)
      have ns₄ : s₄.heap.Ns C m₃ := ns₃.keeps k₄
      have st₄ : St' (i + 1) s₄.heap := fr st₂ fun b o nC _ e => k₄ b o (k₃ b o nC e)
      have acc₄ := k₄ _ _ (k₃ Dl _ hDC acc₂)
      have tk34 : TK h' s₄.heap := tk2.trans (tkA.trans (TK.of_keeps k₄))
      have htake : items.take (i + 1) = items.take i ++ [items[i]] := by rw [List.take_add_one, List.getElem?_eq_getElem hi]; rfl
      cases hp : p items[i] with
      | false =>
        simp only [Bool.false_eq_true, if_false]
        refine ⟨items.length + 1 - (i + 1), by omega, s₄.heap, s₄.toks, m₃, ys, nn, i + 1, e4, st₄, acc₄, ns₄, ?_, hlt, rfl, keep₄⟩
        rw [htake, List.filter_append]
        simpa [hp] using vrs.mono tk34
      | true =>
        simp only [if_true]
        have R4 := comp_rep (tk := s₄.toks) r k keep₄ hCn ns₄ (tv := tv items[i]) fun y av e => ⟨(htv C _ hmem).2 y av e, let ⟨v, a, b⟩ := tv₃ y av e; ⟨v, a, b.mono (TK.of_keeps k₄)⟩⟩
        rw [← e4] at R4
        refine wpAny_mono ((hq C _ hmem).2 hp s₄ R4) (fun y s₅ ⟨b, σ5, r5, x5, hy, hb⟩ => ?_) fun _ _ y => hE y
        subst hb
        have e5 : s₅ = { s with heap := s₅.heap, toks := s₅.toks } := by
          obtain ⟨h5, t5, q5⟩ := r5.same
          rw [q5, hse]
        have k₅ : ∀ a o, s₄.heap.get? a = some o → s₅.heap.get? a = some o := x5.pur rfl
        have acc₅ := k₅ _ _ acc₄
        have hys : (List.toArray ys).size ≤ sizeLine := by
          rw [List.size_toArray, vrs.length, List.length_map]
          have h1 : ((items.take i).filter p).length ≤ (items.take i).length := List.length_filter_le _ _
          have h2 : (items.take i).length ≤ items.length := by rw [List.length_take]; omega
          exact Nat.le_trans (Nat.le_trans h1 (Nat.le_trans h2 hz)) (by decide)
        refine wpAny_list_append_plain (hsz := hys) ⟨nn, acc₅⟩ fun h₆ hl₆ hs₆ => ?_
        obtain ⟨n6, a6⟩ := hl₆
        rw [List.push_toArray] at a6
        have k₆ : ∀ a o, a ≠ Dl → s₅.heap.get? a = some o → h₆.get? a = some o := fun a o q e => (hs₆.2 a q).trans e
        have tk56 : TK s₅.heap h₆ := fun a vs e => k₆ a _ (fun q => by subst q; rw [acc₅] at e; exact absurd (show Value.type "list" = Value.type "tuple" from congrArg Obj.cls (Option.some.inj e)) (by decide)) e
        refine ⟨items.length + 1 - (i + 1), by omega, h₆, s₅.toks, m₃, ys ++ [y], n6, i + 1, by rw [e5], fr st₄ fun b o nC nD e => k₆ b o nD (k₅ b o e), a6, (ns₄.keeps k₅).sameBut hs₆ (Ne.symm hDC), ?_, hlt, rfl, fun a o e => k₆ a o (fun q => by subst q; rw [hDn] at e; cases e) (k₅ a o (keep₄ a o e))⟩
        rw [htake, List.filter_append]
        have v5 := (vrs.mono (tk34.trans (TK.of_keeps k₅))).mono tk56
        have y6 := hy.mono tk56
        simpa [hp] using v5.append (.one y6)
    · have hin : i = items.length := by omega
      subst hin
      refine W.done _ _ _ st fun h₂ tk₂ k₂ => ?_
      have k₂' : ∀ b o, b ≠ I → h'.get? b = some o → h₂.get? b = some o := fun b o q e => k₂ b o (fun z => q (List.mem_singleton.mp z)) e
      rw [List.take_length] at vrs
      refine hRR Dl C h₂ tk₂ m' ys nn hDn hCn hDC (ns.at' fun o e => k₂' C o (Ne.symm hIC) e) (k₂' Dl _ (Ne.symm hID) acc) (vrs.mono fun a vs e => k₂' a _ (fun q => by subst q; exact hIt _ h' st vs e) e) fun a o e => k₂' a o (fun q => by subst q; rw [hI] at e; cases e) (keep a o e)
  exact codeAny_compStart_list (loop _ rfl) (W.self 0 _ _ _ hst₁ (loop _ rfl))
end
end Mine

namespace Mine
open PySem PySem.W PySem.Calls PyProof.Rows
section
variable {D : Wd} {c : Cx} {σ : St} {s : Shared} {X : Int → St → Prop} {scope : Scope} {cl : List (Str × Addr)} {caps : List (Str × AV)}
theorem Heap_Ns_slots {h h' : Heap} {a : Addr} {m : Str → Option Value} (n : h.Ns a m) (k : ∀ o, h.get? a = some o → ∃ sl, h'.get? a = some { o with slots := sl }) : h'.Ns a m := by
  obtain ⟨o, es, ep, e, d, q⟩ := n
  obtain ⟨sl, e'⟩ := k o e
  exact ⟨_, es, ep, e', d, q⟩
theorem Rep.but {σ₀ : St} {s₀ : Shared} {h' : Heap} {C : Addr} {m : Str → Option Value} (r0 : Rep D c σ₀ s₀) (r : Rep D c σ s) (x : Ext c σ₀ s₀ σ s) (hpu : c.pur = false) (hC : s₀.heap.get? C = none) (u : σ.hp C = none) (n : s.heap.Ns C m) (k : ∀ b o, b ≠ C → s.heap.get? b = some o → h'.get? b = some o) :
    Rep D c σ { s with heap := h' } ∧ Ext c σ₀ s₀ σ { s with heap := h' } := by
  have t := tk_but n k
  have nfa : ∀ a ∈ fa c.env, a ≠ C := fun a ha q => by subst q; obtain ⟨o, e⟩ := r0.inFa ha; rw [hC] at e; cases e
  refine ⟨⟨r.st, r.ok, fun a o e => ?_, r.fresh, r.apart, r.fr.keeps (fun a ha o e => ⟨o.slots, k a o (nfa a ha) e⟩) t, fun a o e => k a o (fun q => by subst q; have := r0.base _ o e; rw [hC] at this; cases this) (r.base a o e), r.baseA, ?_, ?_, r.fapart, r.nm⟩, ⟨fun a o e n' nf => ?_, x.trk, fun a o e => ?_, x.tk.trans t, fun q => by rw [hpu] at q; cases q⟩⟩
  · obtain ⟨ob, e1, e2⟩ := r.hp a o e
    exact ⟨ob, k a ob (fun q => by subst q; rw [u] at e; cases e) e1, e2.mono t⟩
  · obtain ⟨h, t, e⟩ := r.same; exact ⟨h', t, by rw [e]⟩
  · refine r.ff.keep fun L hL o e es ep d => ⟨o, es, ep, k L o (fun q => ?_) e, d⟩
    subst q
    obtain ⟨_, o', _, _, e', _⟩ := r0.ff.mem hL
    rw [hC] at e'; cases e'
  · obtain ⟨sl, e'⟩ := x.keep a o e n' nf
    exact ⟨sl, k a _ (fun q => by subst q; rw [hC] at e; cases e) e'⟩
  · obtain ⟨o', e'⟩ := x.ex a o e
    exact ⟨o', k a _ (fun q => by subst q; rw [hC] at e; cases e) e'⟩

/-- what a comprehension says of each item -/
noncomputable def CompSays {ι : Type} (D : Wd) (c : Cx) (scope : Scope) (cl : List (Str × Addr)) (caps : List (Str × AV)) (σ : St) (target elt : Expr) (ifs : List Expr) (items : List ι) (g f : ι → AV) (p : ι → Bool) (tv : ι → List (Str × AV)) : Prop :=
  CapOk c scope cl σ caps ∧ (∀ C x, x ∈ items → Lays D target (compEnvC scope cl C c.env) C (g x) (tv x) ∧ ∀ y av, (tv x).lookup y = some av → (relabel scope c.env).names.lookup y = some .local) ∧
    ∀ C x, x ∈ items → T D (compCx c scope cl C) EqR (tests ifs (compEnvC scope cl C c.env)) ⟨tv x ++ caps, σ.hp⟩ (fun ok _ => ok = p x) (fun _ _ => False) ∧ (p x = true → TE D (compCx c scope cl C) (eval elt (compEnvC scope cl C c.env)) ⟨tv x ++ caps, σ.hp⟩ (fun y _ => y = f x) (fun _ _ => False))
/-- where a comprehension's items come from -/
inductive Src (σ : St) (g : ι → AV) (items : List ι) : AV → Bool → Prop
  | list {l : Addr} : σ.hp l = some (.list (items.map g)) → Src σ g items (.obj l) true
  | dict {d : Addr} {kvs : List (Int × AV)} : σ.hp d = some (.dict kvs) → kvs.map (fun p => AV.int p.1) = items.map g → Src σ g items (.obj d) false

theorem comp_src {ι : Type} {items : List ι} {g f : ι → AV} {p : ι → Bool} {tv : ι → List (Str × AV)} {elt target iter : Expr} {ifs : List Expr} {pos : Pos} {RR : Value → Addr → Result → Shared → Prop} {E : Value → Shared → Prop} {a : AV} {u : Value} {b : Bool}
    (r : Rep D c σ s) (hu : VR s.heap a u) (src : Src σ g items a b) (hz : items.length ≤ 1000) (hb : b = false → ∃ x p, target = .Name x p) (hg : Goes target) (k : CompSays D c scope cl caps σ target elt ifs items g f p tv)
    (hRR : ∀ Dl C h' tk m' ys n, s.heap.get? Dl = none → s.heap.get? C = none → Dl ≠ C → h'.Ns C m' → h'.get? Dl = some { cls := .type "list", data := .seq (List.toArray ys) n } → VRs h' ((items.filter p).map f) ys → (∀ a o, s.heap.get? a = some o → h'.get? a = some o) → RR (.ref Dl) C (.ok .next) { s with heap := h', toks := tk }) :
    wpAny (model D.prog D.w) c.A (pyIter u) (fun it s₂ => wpAny (model D.prog D.w) c.A (newList []) (fun acc s₃ => wpAny (model D.prog D.w) c.A (newFunctionEnv scope c.env.globals cl [] c.env.qual none .none (some c.env)) (fun cenv s₄ =>
      codeAny (model D.prog D.w) c.A (.compStart (.ListComp elt [⟨target, iter, ifs, 0⟩] scope pos) 0 it acc { cenv with scope := relabel scope c.env }) (RR acc cenv.locals) s₄) E s₃) E s₂) E s := by
  cases src with
  | @list l hl =>
    have e' : u = .ref l := hu
    subst e'
    obtain ⟨ws, q, hw⟩ := r.list hl
    have lw : ws.length = items.length := by rw [hw.length, List.length_map]
    have ltl : l < s.heap.objs.size := by obtain ⟨n, e⟩ := q; exact Heap.lt_size e
    refine wpAny_pyIter_list q.isList ?_
    have W0 := Walks.list (prog := D.prog) (w := D.w) (A := c.A) r.ok.handled s.heap.objs.size l (Nat.ne_of_lt ltl) ws.toArray
    have ls : ws.toArray.size = items.length := by rw [List.size_toArray, lw]
    rw [ls] at W0
    have sz : (s.heap.push { cls := .type "list_iterator", data := .fields #[.ref l, .int 0 0] }).objs.size = s.heap.objs.size + 1 := Heap.size_push ..
    refine comp_run (p := p) (f := f) (g := g) (tv := tv) (src := l) r k.1 push_keeps ⟨_, s.toks, rfl⟩ (fresh_none _) (by show _ < (s.heap.push _).objs.size; rw [sz]; exact Nat.lt_succ_self _) (by show _ < (s.heap.push _).objs.size; rw [sz]; exact Nat.lt_succ_of_lt ltl) W0 ⟨⟨_, Heap.get?_push_size _ rfl, rfl, rfl⟩, q.isList.push _⟩ (fun i h st vs e => ?_) hz (fun i v h' kp hv => ?_) (fun i s' v Q' E' st hQ => hg st.1 hQ) k.2.1 k.2.2 hRR
    · obtain ⟨⟨o, ho, hc, _⟩, _⟩ := st
      rw [e] at ho; cases ho
      exact absurd (show Value.type "tuple" = Value.type "list_iterator" from hc) (by decide)
    · have hi : i < ws.length := by
        have := (Array.getElem?_eq_some_iff.mp hv).1
        simpa using this
      have hi' : i < items.length := by rw [← lw]; exact hi
      refine ⟨hi', ?_⟩
      obtain ⟨v', hv', hx⟩ := hw.at (i := i) (by rw [List.length_map]; exact hi')
      have : v' = v := by
        have h1 : ws[i]? = some v := by simpa using hv
        rw [h1] at hv'; exact (Option.some.inj hv').symm
      subst this
      have hx' : VR s.heap (g items[i]) v' := by simpa using hx
      exact hx'.mono (TK.of_keeps kp)
  | @dict d kvs hd hi =>
    have e' : u = .ref d := hu
    subst e'
    obtain ⟨x, px, rfl⟩ := hb rfl
    obtain ⟨ks, q, hk, lo⟩ := r.dict hd
    obtain ⟨ep, hat⟩ := q.dictAt
    have lw : ks.length = items.length := by
      have := congrArg List.length hi
      rw [hk.length]; simpa using this
    refine wpAny_pyIter_dict lo hat ?_
    have W0 := Walks.dictKeys (prog := D.prog) (w := D.w) (A := c.A) (knd := intKind D.prog D.w) r.ok.handled s.heap.objs.size d (Nat.ne_of_lt hat.lt_size) ks ep
    rw [lw] at W0
    have sz : (s.heap.push { cls := .type "dict_keyiterator", data := .fields #[.ref d, .int 0 0, .int ks.length 0, .int ep 0] }).objs.size = s.heap.objs.size + 1 := Heap.size_push ..
    refine comp_run (p := p) (f := f) (g := g) (tv := tv) (src := d) r k.1 push_keeps ⟨_, s.toks, rfl⟩ (fresh_none _) (by show _ < (s.heap.push _).objs.size; rw [sz]; exact Nat.lt_succ_self _) (by show _ < (s.heap.push _).objs.size; rw [sz]; exact Nat.lt_succ_of_lt hat.lt_size) W0 ⟨⟨_, Heap.get?_push_size _ rfl, rfl, by rw [← lw]; rfl⟩, hat.push _⟩ (fun i h st vs e => ?_) hz (fun i v h' kp hv => ?_) (fun i s' v Q' E' st hQ => wpAny_pure hQ) k.2.1 k.2.2 hRR
    · obtain ⟨⟨o, ho, hc, _⟩, _⟩ := st
      rw [e] at ho; cases ho
      exact absurd (show Value.type "tuple" = Value.type "dict_keyiterator" from hc) (by decide)
    · obtain ⟨kk, xx, h1, h2⟩ := hv
      obtain ⟨t, rfl⟩ := isInt_of h2
      have hi1 : i < ks.length := (List.getElem?_eq_some_iff.mp h1).1
      have hi' : i < items.length := by rw [← lw]; exact hi1
      refine ⟨hi', ?_⟩
      have e1 : (kvs.map (fun p => AV.int p.1))[i]? = some (.int kk) := by
        have : (kvs.map (·.1))[i]? = some kk := by rw [← hk.keys, List.getElem?_map, h1]; rfl
        rw [List.getElem?_map] at this ⊢
        cases z : kvs[i]? with
        | none => rw [z] at this; cases this
        | some y => rw [z] at this; have : y.1 = kk := Option.some.inj this; simp [this]
      rw [hi, List.getElem?_map, List.getElem?_eq_getElem hi'] at e1
      have e2 : g items[i] = .int kk := Option.some.inj e1
      rw [e2]; exact ⟨t, rfl⟩

theorem TE_comp {Q : AV → St → Prop} {ι : Type} {elt target iter : Expr} {ifs : List Expr} {pos : Pos} (hs : ∀ x, foldedSetIterable iter c.env x = pure x) (hclos : closureFor scope c.env = pure cl) (hkind : scope.kind = .function) (hnames : ∀ x ∈ scope.names, x.2 = .local → scope.names.lookup x.1 = some .local) (hg : Goes target)
    (h : TE D c (eval iter c.env) σ (fun a σ₁ => ∃ (items : List ι) (g f : ι → AV) (p : ι → Bool) (tv : ι → List (Str × AV)) (b : Bool), Src σ₁ g items a b ∧ items.length ≤ 1000 ∧ (b = false → ∃ x p, target = .Name x p) ∧ CompSays D c scope cl caps σ₁ target elt ifs items g f p tv ∧
      ∀ z, σ₁.hp z = none → Q (.obj z) { σ₁ with hp := σ₁.hp.set z (.list ((items.filter p).map f)) }) X) : TE D c (eval (.ListComp elt [⟨target, iter, ifs, 0⟩] scope pos) c.env) σ Q X := fun s r => by
  rw [eval_ListComp]
  refine wpAny_comprehension_free (use := none) rfl hs hclos hkind hnames (h.use r (Ext.refl ..) fun u s₁ a σ₁ r₁ _ e₁ v₁ q₁ => ?_)
  obtain ⟨items, g, f, p, tv, b, src, hz, hb, k, hq⟩ := q₁
  refine comp_src (RR := fun acc C => compPost (model D.prog D.w) c.A (XP D c σ s X) none (fun v s' => ∃ b σ', Rep D c σ' s' ∧ Ext c σ s σ' s' ∧ VR s'.heap b v ∧ Q b σ') acc C) r₁ v₁ src hz hb hg k fun Dl C h' tk m' ys n hD hC hDC hn hg hv kp => ⟨m', hn, fun h'' hs'' => ?_⟩
  have kp'' : ∀ a o, s₁.heap.get? a = some o → h''.get? a = some o := fun a o e => (hs''.2 a (fun q => by subst q; rw [hC] at e; cases e)).trans (kp a o e)
  obtain ⟨a1, a2⟩ := r₁.alloc (tk := tk) (o := .list ((items.filter p).map f)) kp'' hD ((hs''.2 Dl hDC).trans hg) ⟨ys, n, rfl, hv.mono (tk_but hn fun b o nb e => (hs''.2 b nb).trans e)⟩ (fun _ q => nomatch q)
  exact ⟨.obj Dl, _, a1, e₁.trans a2, rfl, hq Dl (r₁.untracked hD)⟩
theorem TF_assign_comp {Q : AF → St → Prop} {ι : Type} {elt target iter : Expr} {ifs : List Expr} {pos spos py : Pos} {y : Str} (hsw : swapsWith (.ListComp elt [⟨target, iter, ifs, 0⟩] scope pos) (some (.Name y py)) spos.line c.env = pure true) (hs : ∀ x, foldedSetIterable iter c.env x = pure x) (hclos : closureFor scope c.env = pure cl) (hkind : scope.kind = .function) (hnames : ∀ x ∈ scope.names, x.2 = .local → scope.names.lookup x.1 = some .local) (hg : Goes target) (hpu : c.pur = false)
    (h : TE D c (eval iter c.env) σ (fun a σ₁ => ∃ (items : List ι) (g f : ι → AV) (p : ι → Bool) (tv : ι → List (Str × AV)) (b : Bool), Src σ₁ g items a b ∧ items.length ≤ 1000 ∧ (b = false → ∃ x p, target = .Name x p) ∧ CompSays D c scope cl caps σ₁ target elt ifs items g f p tv ∧
      ∀ z, σ₁.hp z = none → TO1 D c EqR (.obj z) (fun v => assign (.Name y py) c.env v) { σ₁ with hp := σ₁.hp.set z (.list ((items.filter p).map f)) } (fun _ σ₂ => Q .next σ₂) X) X) : TF D c (exec (.Assign [.Name y py] (.ListComp elt [⟨target, iter, ifs, 0⟩] scope pos) spos) c.env) σ Q X := fun s r => by
  rw [exec_Assign_Name_used _ _ _ _ hsw]
  refine wpAny_bind (wpAny_standAt (wpAny_bind ?_))
  show wpAny _ _ (do let _ ← comprehension (.ListComp elt [⟨target, iter, ifs, 0⟩] scope pos) scope c.env _ (newList []) false (eval iter c.env) (some (assign (.Name y py) c.env))) _ _ s
  refine wpAny_bind (wpAny_mono (wpAny_comprehension_free (use := some (assign (.Name y py) c.env)) (Q := fun _ s' => ∃ σ', Rep D c σ' s' ∧ Ext c σ s σ' s' ∧ Q .next σ') rfl hs hclos hkind hnames (h.use r (Ext.refl ..) fun u s₁ a σ₁ r₁ _ e₁ v₁ q₁ => ?_)) (fun _ s' hq => wpAny_pure (wpAny_pure ?_)) fun _ _ e => e)
  · obtain ⟨items, g, f, p, tv, b, src, hz, hb, k, hq⟩ := q₁
    refine comp_src (RR := fun acc C => compPost (model D.prog D.w) c.A (XP D c σ s X) (some (assign (.Name y py) c.env)) (fun _ s' => ∃ σ', Rep D c σ' s' ∧ Ext c σ s σ' s' ∧ Q .next σ') acc C) r₁ v₁ src hz hb hg k fun Dl C h' tk m' ys n hD hC hDC hn hg hv kp => ?_
    obtain ⟨a1, a2⟩ := r₁.alloc (tk := tk) (o := .list ((items.filter p).map f)) kp hD hg ⟨ys, n, rfl, hv⟩ (fun _ q => nomatch q)
    show wpAny _ _ (assign (.Name y py) c.env (.ref Dl)) _ _ _
    refine wpAny_mono (hq Dl (r₁.untracked hD) _ (.ref Dl) a1 rfl) (fun _ s'' ⟨_, σ₂, r₂, x₂, _, q₂⟩ => ?_) fun _ _ y => y.lift (e₁.trans a2)
    have x12 := a2.trans x₂
    have uC1 : ({ σ₁ with hp := σ₁.hp.set Dl (.list ((items.filter p).map f)) } : St).hp C = none := by
      show (if C = Dl then _ else σ₁.hp C) = none
      rw [if_neg (Ne.symm hDC)]; exact r₁.untracked hC
    have nfa : C ∉ fw c.env := fun m => by obtain ⟨o, e⟩ := r₁.inFa (fw_fa m); rw [hC] at e; cases e
    have nC : s''.heap.Ns C m' := Heap_Ns_slots hn fun o e => x₂.keep C o e uC1 nfa
    have uC2 : σ₂.hp C = none := by
      cases q : σ₂.hp C with
      | none => rfl
      | some o =>
        rcases x₂.trk C o q with ⟨o', w⟩ | w
        · rw [uC1] at w; cases w
        · obtain ⟨o', _, _, e, _⟩ := hn
          rw [show ({ s₁ with heap := h', toks := tk } : Shared).heap.get? C = h'.get? C from rfl, e] at w; cases w
    refine ⟨m', nC, fun h₃ hs₃ => ?_⟩
    obtain ⟨b1, b2⟩ := Rep.but (h' := h₃) r₁ r₂ x12 hpu hC uC2 nC fun b o nb e => (hs₃.2 b nb).trans e
    exact ⟨σ₂, b1, e₁.trans b2, q₂⟩
  · obtain ⟨σ', r', x', q'⟩ := hq
    exact ⟨.next, σ', r', x', rfl, q'⟩
end
end Mine

namespace Mine
open PySem PySem.W PySem.Calls PyProof.Rows
section
variable {D : Wd} {c : Cx} {σ : St} {s : Shared} {X : Int → St → Prop}
theorem fwAfter {σ' : St} {s' : Shared} {h' : Heap} {tk : Nat} {m' : Str → Option Value} (r : Rep D c σ' s') (hpu : c.pur = false) (n' : h'.Ns c.env.locals m') (hs : Heap.SameBut c.env.locals s'.heap h') :
    Rep D c ⟨[], σ'.hp⟩ { s' with heap := h', toks := tk } ∧ Ext c σ' s' ⟨[], σ'.hp⟩ { s' with heap := h', toks := tk } := by
  obtain ⟨m, n, _⟩ := r.fr.loc
  have nn := n
  obtain ⟨oL, esL, epL, hL, hLd, _⟩ := nn
  have nn' := n'
  obtain ⟨oL', esL', epL', hL', hLd', _⟩ := nn'
  have cl : ∀ p ∈ c.env.cells, ∀ v, s'.heap.IsCell p.2 v → h'.IsCell p.2 v := fun p hp v ⟨o, e, d⟩ =>
    ⟨o, (hs.2 _ (fun q => r.ok.locals (q ▸ List.mem_map.mpr ⟨p, hp, rfl⟩))).trans e, d⟩
  have fr0 : TK s'.heap h' → FrRep c.env [] h' := fun t => ⟨⟨_, n', fun _ _ e => (by cases e)⟩, fun _ _ e => (by cases e), fun p hp => let ⟨v, hv⟩ := r.fr.cells p hp; ⟨v, cl p hp v hv⟩⟩
  obtain ⟨a1, a2⟩ := storeFr (σ := { σ' with vars := [] }) (tk := tk) (vars := []) { r with fr := ⟨⟨_, n, fun _ _ e => (by cases e)⟩, fun _ _ e => (by cases e), r.fr.cells⟩ } hpu (List.mem_cons_self ..) hs
    (fun o e => by rw [hL] at e; cases e; exact .inl ⟨_, _, hLd⟩) ⟨oL', hL', .inl ⟨_, _, hLd'⟩⟩ (fun _ => ⟨_, _, _, hL', hLd'⟩) fr0 fr0
  exact ⟨a1, ⟨a2.keep, a2.trk, a2.ex, a2.tk, a2.pur⟩⟩

theorem TF_try {Q : AF → St → Prop} {body : List Stmt} {qe n : Str} {np np2 apos rpos hpos pos : Pos} {outer : List Env} (xf : XF D) (hpu : c.pur = false) (hfr : c.frames = c.env :: outer) (hf : c.env.frame = some c.env.locals)
    (hk : c.env.kindOf qe = some .globalImplicit) (e : nsIn D.K mainGlobals qe = some (some (.ref quicErr))) (hn : c.env.kindOf n = some .local)
    (h : TF D c (execs body c.env) σ Q (fun k σ' => Q (.ret (.int k)) ⟨[], σ'.hp⟩))
    (hd : (qe == ("__debug__" : Str)) = false := by decide) (hd2 : (n == ("__debug__" : Str)) = false := by decide) :
    TF D c (exec (.Try body [.ExceptHandler (some (.Name qe np)) (some n) [.Return (some (.Attribute (.Name n np2) (Str.ofString "code") apos)) rpos] hpos] [] [] pos) c.env) σ Q X := fun s r => by
  have hpc : (c.env.scope.kind == .class || (c.env.scope.kind == .module && c.env.locals != c.env.globals)) = false := by rw [r.ok.kind]; rfl
  refine wpAny_Try_except (wpAny_mono (h s r) (fun f s₁ ⟨fl, σ₁, r₁, x₁, hfl, q₁⟩ => ?_) fun ev s₁ ⟨σ', ea, k, e1, r', x', i', q'⟩ => ?_)
  · cases fl with
    | next =>
      have v2 : f = .next := hfl
      subst v2
      exact wpAny_execs_nil ⟨.next, σ₁, r₁, x₁, rfl, q₁⟩
    | brk =>
      have v2 : f = .brk := hfl
      subst v2
      exact ⟨.brk, σ₁, r₁, x₁, rfl, q₁⟩
    | cont =>
      have v2 : f = .cont := hfl
      subst v2
      exact ⟨.cont, σ₁, r₁, x₁, rfl, q₁⟩
    | ret v =>
      obtain ⟨u, rfl, hu⟩ := hfl
      exact ⟨.ret v, σ₁, r₁, x₁, ⟨u, rfl, hu⟩, q₁⟩
  subst e1
  have slots_step : ∀ {s'' : Shared} {h₂ : Heap} {sk : List Addr}, Rep D c σ' s'' → Ext c σ s σ' s'' → Slots [] sk s''.heap h₂ → (∀ a ∈ sk, s.heap.get? a = none ∧ σ'.hp a = none) → Rep D c σ' { s'' with heap := h₂ } ∧ Ext c σ s σ' { s'' with heap := h₂ } := fun {s'' h₂ sk} b1 b2 sl hs =>
    r.stepped b1 b2 hpu (h' := h₂) ⟨sk, ⟨fun a o e n _ => sl.keep a o e n (fun z => nomatch z), fun a o e m => by
      obtain ⟨_, o', es, ep, e', d⟩ := b1.ff.mem m
      exact ⟨o.slots, sl.keep a o e (fun z => by obtain ⟨vs, d'⟩ := sl.recs a z o e; rw [e] at e'; cases e'; rw [d] at d'; cases d') (fun z => nomatch z)⟩, sl.recs⟩, hs⟩
  refine note_ r' hfr hf r x' i' fun h₁ st i₁ => ?_
  obtain ⟨b1, b2⟩ := r.stepped r' x' hpu st
  refine flight_ (s' := { s₁ with heap := h₁ }) i₁ (fun q => nomatch q) fun h₂ sk sl hs i₂ => ?_
  obtain ⟨c1, c2⟩ := slots_step b1 b2 sl hs
  obtain ⟨nm, q, N, bs, sn, sub, ab, col, dd, k0, k1, k2, k3, k5, hC, _⟩ := xf.cls
  obtain ⟨i1, i2, oe, vs, dx, des, dn, t, h1, h2, h3, h4, h5, h6, h7, h8⟩ := id i₂
  refine wpAny_handleBy_cons (codeAny_handlers_test (Name_function_global r.ok.kind hk (loadGlobal_global (mg := D.mg) (by rw [r.ok.glob]; exact r.st.g.keeps c1.base) (mg_of' r.st e) ?_) hd)) (by intro q; cases q)
  refine wpAny_excMatches_sub_self (c1.K _ _ hC) h1 h2 (by decide) (codeAny_handlers_suite_as ?_)
  refine flight_ (s' := { s₁ with heap := h₂ }) i₂ (fun q => by cases q) fun h₃ sk₃ sl₃ hs₃ i₃ => ?_
  obtain ⟨d1, d2⟩ := slots_step c1 c2 sl₃ hs₃
  obtain ⟨m, nL, _⟩ := d1.fr.loc
  refine wpAny_storeName_local hn nL (fun h₄ n₄ hs₄ => ?_) hpc
  obtain ⟨e1, e2⟩ := fwAfter (tk := s₁.toks + 1) d1 hpu n₄ hs₄
  have liv := r.inFa (List.mem_cons_self ..)
  have ne : ∀ a, s.heap.get? a = none → a ≠ c.env.locals := fun a z q => by
    obtain ⟨o, ho⟩ := liv
    rw [q, ho] at z; cases z
  clear h1 h2 h3 h4 h5 h6 h7 h8 oe vs dx des dn t
  obtain ⟨i1, i2, oe, vs, dx, des, dn, t, h1, h2, h3, h4, h5, h6, h7, h8⟩ := i₃
  have g1 : h₄.get? ea = some oe := (hs₄.2 ea (ne _ i1)).trans h1
  have g6 : h₄.get? dx = some (dictOf des dn) := (hs₄.2 dx (ne _ h5)).trans h6
  refine wpAny_execs_cons (wpAny_Return_some ?_)
  rw [arm_eval_Attribute, show attributeBase (.Name n np2) (Str.ofString "code") c.env (eval (.Name n np2) c.env) = eval (.Name n np2) c.env from rfl]
  refine wpAny_bind (wpAny_Name (wpAny_loadName_local r.ok.kind hn n₄ (v := .ref ea) (by simp) ?_) hd2)
  refine wpAny_bind (wpAny_standAt (wpAny_bind (wpAny_holding (attrX xf e1.K g1 h2 (by unfold notCls; rw [h3]) h4 g6 xf.code h7 rfl ?_))))
  refine wpAny_bind (wpAny_letTemporaryGo (wpAny_pure ?_))
  obtain ⟨f1, f2⟩ := e1.grow (h' := h₄) (tk := s₁.toks + 1 + 1) (fun _ _ e => e)
  refine wpAny_nameGoes_keeps (s := { s₁ with heap := h₄, toks := s₁.toks + 1 + 1 }) hn n₄ hpc fun h₅ v₅ n₅ hs₅ => ?_
  obtain ⟨z1, z2⟩ := fwAfter (tk := s₁.toks + 1 + 1 + 1) f1 hpu n₅ hs₅
  exact ⟨.ret (.int k), ⟨[], σ'.hp⟩, z1, ((d2.trans e2).trans f2).trans z2, ⟨_, rfl, t, rfl⟩, q'⟩
end
end Mine

namespace Mine
open PySem PySem.W PySem.Calls PyProof.Rows
section
variable {D : Wd} {c : Cx} {σ : St} {s : Shared} {X : Int → St → Prop} {Q : AV → St → Prop}
theorem bodyRunG {α β : Type} {c' : Cx} {m : Sem α} {R₀ : Heap → β → α → Prop} {f : α → Value} {g : β → AV} {σ₁ : St} {s₁ : Shared} (hfg : ∀ h b r, R₀ h b r → VR h (g b) (f r)) (r : Rep D c σ s) (hpu : c.pur = false) (hk : ∀ a o, s.heap.get? a = some o → s₁.heap.get? a = some o) (r₁ : Rep D c' σ₁ s₁) (hσ : ∀ a o, σ₁.hp a = some o → σ.hp a = some o)
    (hfr : c'.frames = c'.env :: c.frames) (hf : c'.env.frame = some c'.env.locals) (new : ∀ a ∈ fw c'.env, s.heap.get? a = none)
    (h : wpAny (model D.prog D.w) c'.A m (fun r s' => ∃ b σ', Rep D c' σ' s' ∧ Ext c' σ₁ s₁ σ' s' ∧ R₀ s'.heap b r ∧ Q (g b) ⟨σ.vars, σ'.hp⟩) (XP D c' σ₁ s₁ fun k σ' => X k ⟨σ.vars, σ'.hp⟩) s₁) {R : Value → Shared → Prop} {E : Value → Shared → Prop}
    (hR : ∀ v s', (∃ b σ', Rep D c σ' s' ∧ Ext c σ s σ' s' ∧ VR s'.heap b v ∧ Q b σ') → R v s') (hE : ∀ e s', XP D c σ s X e s' → E e s') :
    wpAny (model D.prog D.w) c'.A m (fun fl s' => R (f fl) s')
      (fun e s' => wpAny (model D.prog D.w) c'.A (leaving c'.env e) (fun _ s'' => E e s'') (fun e' s'' => E e' s'') s') s₁ := by
  refine wpAny_mono h (fun fl s' ⟨b, σ', r', x', v', q'⟩ => ?_) fun e s' ⟨σ', ea, k, e1, r', x', i', q'⟩ => ?_
  · obtain ⟨a1, a2⟩ := exit (tk := s'.toks) r hpu hk r' x' hσ hfr new (Slots.refl [] s'.heap) (fun _ m => nomatch m) (.inl rfl)
    exact hR _ _ ⟨g b, ⟨σ.vars, σ'.hp⟩, a1, a2, hfg _ _ _ v', q'⟩
  · subst e1
    refine exc_leave r' hfr hf r₁ x' i' fun h' ⟨skip, z, zs⟩ i'' => hE _ _ ?_
    have old : ∀ a, s₁.heap.get? a = none → s.heap.get? a = none := fun a w => by
      cases q : s.heap.get? a with
      | none => rfl
      | some o => rw [hk a o q] at w; cases w
    obtain ⟨a1, a2⟩ := exit (tk := s'.toks) r hpu hk r' x' hσ hfr new z (fun a m => ⟨old a (zs a m).1, (zs a m).2⟩) (.inr rfl)
    obtain ⟨i1, i2, oe, vs, dx, es, n, t, h1, h2, h3, h4, h5, h6, h7, h8⟩ := i''
    refine ⟨⟨σ.vars, σ'.hp⟩, ea, k, rfl, a1, a2, ⟨old _ i1, i2, oe, vs, dx, es, n, t, h1, h2, h3, h4, old _ h5, h6, h7, ?_⟩, q'⟩
    rcases h8 with ⟨_, h8⟩ | ⟨T, oT, ts, v, g1, g2, g3, g4, g5, g6, g7⟩
    · cases h8
    · exact .inr ⟨T, oT, ts, v, g1, ⟨old _ g2.1, g2.2⟩, g3, g4, g5, g6, .inr (.inl g7)⟩
theorem retOf_vr {h : Heap} {b : AF} {r : Flow} (v' : FR h b r) : VR h (retOf b) (match r with | .ret v => v | _ => .none) := by
  cases b with
  | next =>
    have v2 : r = .next := v'
    subst v2; rfl
  | brk =>
    have v2 : r = .brk := v'
    subst v2; rfl
  | cont =>
    have v2 : r = .cont := v'
    subst v2; rfl
  | ret v => obtain ⟨u, rfl, hu⟩ := v'; exact hu

/-! a lambda made -/
noncomputable abbrev lamObj (qual : Str) (params : Arguments) (body : Expr) (scope : Scope) (clos : List (Str × Addr)) (pm : Value) (c' : Addr) (ctv : Value) : Obj := kla_obj "<lambda>" qual params body scope clos pm c' ctv
theorem rawK {prog : Program} {w : World} {h : Heap} {ob : Obj} (hc : ob.cls ≠ .type "tuple") (hf : ob.isFreed = false) : OR prog w h (.raw ob) ob := ⟨rfl, .cls hc, hf⟩
theorem rawF {prog : Program} {w : World} {h : Heap} {ob : Obj} {ws : Array Value} (hd : ob.data = .fields ws) : OR prog w h (.raw ob) ob := ⟨rfl, .fields hd, Obj.isFreed_of_fields hd⟩
theorem TE_lambda {params : Arguments} {body : Expr} {scope : Scope} {pos : Pos} {P cc : Addr} {ps : Array Value} {clos : List (Str × Addr)} (hpu : c.pur = false) (hP : σ.hp P = some (.raw (tabObj ps))) (hcode : c.env.code = .ref cc) (C : CodeHd D.base cc P) (ht : TriplesOk ps.toList) (hnf : codeAmong pos ps.toList = none)
    (hcl : closureFor scope c.env = pure clos) (hb : D.base.BuiltinsAt D.mg P) (hdef : defaultsOf params c.env = ([], []))
    (h : ∀ f c' oc vs t ctv, σ.hp f = none → σ.hp c' = none → f ≠ c' → oc.data = .fields vs → vs[1]? = some (.str (c.env.qual ++ "<lambda>") t) →
      Q (.obj f) { σ with hp := ((σ.hp.set P (.raw (tabObj (ps ++ #[rawInt pos.line, rawInt pos.col, .ref c'])))).set c' (.raw oc)).set f (.raw (lamObj (c.env.qual ++ "<lambda>") params body scope clos ((D.mg "__name__").getD .none) c' ctv)) }) :
    TE D c (eval (.Lambda params body scope pos) c.env) σ Q X := fun s r => by
  obtain ⟨oP, hP1, hP2, _⟩ := r.hp P _ hP
  subst hP2
  obtain ⟨m, n, _⟩ := r.fr.loc
  have hg := r.st.g.keeps r.base
  have hgP : mainGlobals ≠ P := fun q => by
    obtain ⟨o, es, ep, e, hd, _⟩ := hg
    rw [q, hP1] at e; cases e; cases hd
  have hbs : s.heap.BuiltinsAt D.mg P := by
    obtain ⟨bm, ob, b1, b2, b3, b4, b5, b6, b7, b8⟩ := hb
    exact ⟨bm, ob, b1, b2, b3, b4, r.base _ _ b5, b6, b7, b8⟩
  have PL : P ≠ c.env.locals := fun q => by rw [q, r.apart _ (List.mem_cons_self ..)] at hP; cases hP
  refine kla_eval hdef (kla_makeFunction (mg := D.mg) hcl r.ok.glob hg hcode (C.keeps r.base) hP1 ht hnf hgP hbs fun c' ctv h' tk hx hge hlt hrec htb => ?_)
  obtain ⟨c₂, oc, vs, t, e2, hoc, hd, hv⟩ := hrec
  cases e2
  have hcn : s.heap.get? c' = none := Heap.get?_none_of_le hge
  obtain ⟨a1, a2⟩ := r.step (tk := tk) (h' := h') hpu n (n.extBut hx PL.symm) (a := P) (o' := .raw (tabObj (ps ++ #[rawInt pos.line, rawInt pos.col, .ref c']))) (fun b o q1 _ e => hx b o q1 e) htb (rawF rfl) (.inl ⟨_, hP⟩) (fun _ q => nomatch q)
  obtain ⟨b1, b2⟩ := track r a1 a2 (o := .raw oc) hcn hoc (rawF hd) (fun _ q => nomatch q)
  have fn0 : s.heap.get? h'.objs.size = none := by
    cases q : s.heap.get? h'.objs.size with
    | none => rfl
    | some o =>
      have l1 := Heap.lt_size q
      exact absurd (Nat.lt_trans (Nat.lt_of_lt_of_le l1 hge) hlt) (Nat.lt_irrefl _)
  obtain ⟨c1, c2⟩ := b1.alloc (tk := tk) (o := .raw (lamObj (c.env.qual ++ "<lambda>") params body scope clos ((D.mg "__name__").getD .none) c' ctv)) push_keeps (fresh_none _) (Heap.get?_push_size h' (o := lamObj (c.env.qual ++ "<lambda>") params body scope clos ((D.mg "__name__").getD .none) c' ctv) rfl) (rawK (show Value.type "function" ≠ _ by decide) rfl) (fun _ q => nomatch q)
  exact ⟨.obj _, _, c1, b2.trans c2, rfl, h _ c' oc vs t ctv (r.untracked fn0) (r.untracked hcn) (Nat.ne_of_gt hlt) hd hv⟩
theorem Kp_fn {f : Addr} {o : Obj} {fd : FuncData} (hf : σ.hp f = some (.raw o)) (hd : o.data = .func fd) : Kp D c σ (.ref f) := fun s r => by
  obtain ⟨o', e1, e2, _⟩ := r.hp f _ hf
  subst e2
  exact keeps_F s.heap (by cases o'; dsimp only at hd; subst hd; exact ⟨_, _, _, _, e1⟩)

/-- what a lambda has taken from around it -/
structure LamCl (D : Wd) (cl : List (Str × Addr)) (caps : List (Str × AV)) : Prop where
  cells : ∀ p ∈ cl, ∃ v, D.base.IsCell p.2 (some v)
  apart : (cl.map (·.2)).Pairwise (· ≠ ·)
  caps : ∀ p ∈ caps, ∃ a v, cl.lookup p.1 = some a ∧ D.base.IsCell a (some v) ∧ VR nil p.2 v

theorem TK.nil (h : Heap) : TK Mine.nil h := fun a vs e => by rw [nil_get] at e; cases e
theorem TO_lam {f c' : Addr} {oc : Obj} {vs : Array Value} {t : Tok} {qual : Str} {params : Arguments} {body : Expr} {scope : Scope} {cl : List (Str × Addr)} {pm ctv : Value} {caps : List (Str × AV)} {room : Nat} (hpu : c.pur = false) (hr : room < c.room)
    (hf : σ.hp f = some (.raw (lamObj qual params body scope cl pm c' ctv))) (hc : σ.hp c' = some (.raw oc)) (hd : oc.data = .fields vs) (hv : vs[1]? = some (.str qual t)) (lc : LamCl D cl caps)
    (hbind : bindArgs (kla_fn "<lambda>" qual params body scope cl pm (.ref c') ctv) ⟨[], []⟩ = pure []) (hk : scope.kind = .function) (hco : scope.isCoroutine = false) (hgen : scope.isGenerator = false) (hcell : ∀ x ∈ scope.names, x.2 ≠ .cell)
    (h : ∀ L, TE D (callee c.A c (envX qual scope L f (.ref c') cl) room) (eval body (envX qual scope L f (.ref c') cl)) ⟨caps, σ.hp⟩ (fun v σ' => Q v ⟨σ.vars, σ'.hp⟩) (fun k σ' => X k ⟨σ.vars, σ'.hp⟩))
    (hcaps : ∀ p ∈ caps, scope.names.lookup p.1 = some .free) :
    TO D c VR [] (fun vs => call (.ref f) vs) σ Q X := fun s us r hus => by
  have hus' : us = [] := hus
  subst hus'
  obtain ⟨of, f1, f2, _⟩ := r.hp f _ hf
  obtain ⟨oc', c1, c2, _⟩ := r.hp c' _ hc
  subst f2 c2
  have d1 := r.ok.depth
  have u1 := r.ok.units
  refine wpAny_call (kla_callFunE (by omega) f1 rfl hco hgen rfl ⟨c', oc', vs, t, rfl, c1, hd, hv⟩ ?_)
  rw [hbind]
  refine wpAny_pure (wpAny_newFunctionEnv hcell (fun x hx => nomatch hx) (fun h₁ hns hsb => ?_) hk)
  have hk₁ : ∀ b o, s.heap.get? b = some o → h₁.get? b = some o := fun b o e => hsb.extBut b o (Nat.ne_of_lt (Heap.lt_size e)) (Heap.get?_push_of_some _ e)
  refine ⟨(r.st.nolimit.keeps r.base).keeps hk₁, ?_⟩
  show codeAny _ _ (.expr body (envX qual scope s.heap.objs.size f (.ref c') cl)) _ _
  generalize hL : s.heap.objs.size = L at *
  have nL : s.heap.get? L = none := hL ▸ fresh_none _
  have nb : D.base.get? L = none := by
    cases q : D.base.get? L with
    | none => rfl
    | some o => have := r.base L o q; rw [nL] at this; cases this
  have hcs : ∀ p ∈ cl, ∃ o, D.base.get? p.2 = some o := fun p hp => by obtain ⟨v, o, e, _⟩ := lc.cells p hp; exact ⟨o, e⟩
  have fwL : ∀ a ∈ fw (envX qual scope L f (.ref c') cl), a = L := fun a ha => by
    rcases List.mem_cons.mp ha with e | ha
    · exact e
    · obtain ⟨p, hp, e⟩ := List.mem_map.mp ha
      obtain ⟨_, hp2⟩ := List.mem_filter.mp hp
      have hp3 : scope.names.lookup p.1 = some .cell := beq_iff_eq.mp hp2
      exact absurd rfl (hcell _ (mem_of_lookup hp3))
  have okc : CxOk (callee c.A c (envX qual scope L f (.ref c') cl) room) := by
    refine ⟨hk, rfl, rfl, Around.frames_deeper r.ok.frames, r.ok.handled, ?_, ?_, lc.apart, fun m => ?_⟩
    · show c.A.depth + 1 + room < recursionLimit; omega
    · show c.A.units + 3 + 8 * room + 200 < cLine; omega
    · obtain ⟨p, hp, e⟩ := List.mem_map.mp m
      obtain ⟨o, ho⟩ := hcs p hp
      have e' : p.2 = L := e
      rw [e', nb] at ho; cases ho
  have fr : FrRep (envX qual scope L f (.ref c') cl) caps h₁ := by
    refine ⟨⟨_, hns, fun y av e1 e2 => ?_⟩, fun y av e1 e2 => ?_, fun p hp => ?_⟩
    · have := hcaps _ (mem_of_lookup e1)
      have e2' : scope.names.lookup y = some .local := e2
      rw [this] at e2'; cases e2'
    · obtain ⟨a, v, g1, ⟨o, g2, g3⟩, g4⟩ := lc.caps _ (mem_of_lookup e1)
      exact ⟨a, v, g1, ⟨o, hk₁ _ _ (r.base _ _ g2), g3⟩, g4.mono (TK.nil _)⟩
    · obtain ⟨v, o, e, d⟩ := lc.cells p hp
      exact ⟨some v, o, hk₁ _ _ (r.base _ _ e), d⟩
  have hun : ∀ a ∈ fa (envX qual scope L f (.ref c') cl), σ.hp a = none := fun a ha => by
    rcases List.mem_cons.mp ha with e | ha
    · rw [e]; exact r.untracked nL
    · obtain ⟨p, hp, e⟩ := List.mem_map.mp ha
      obtain ⟨o, ho⟩ := hcs p hp
      cases q : σ.hp a with
      | none => rfl
      | some o' => rw [← e] at q; rw [r.fresh _ _ q] at ho; cases ho
  have r₁ : Rep D (callee c.A c (envX qual scope L f (.ref c') cl) room) ⟨caps, σ.hp⟩ { s with heap := h₁, toks := s.toks + ([] : List (Str × Value)).length } :=
    enter r okc rfl rfl hk₁ nL (fun a o e => .inl e) (fun a ha => ⟨hun a ha, fun ha => by rw [fwL a ha]; exact nb⟩) fr
  refine kla_codeExpr (bodyRunG (c' := callee c.A c (envX qual scope L f (.ref c') cl) room) (f := fun v => v) (g := fun v => v) (R₀ := VR) (Q := Q) (X := X) (σ := σ) (fun _ _ _ h => h) r hpu hk₁ r₁ (fun _ _ e => e) rfl rfl (fun a ha => by rw [fwL a ha]; exact nL) (h L _ r₁) (R := fun v s' => ∃ b σ', Rep D c σ' s' ∧ Ext c σ s σ' s' ∧ VR s'.heap b v ∧ Q b σ') (E := XP D c σ s X) (fun _ _ h => h) (fun _ _ h => h))
end
end Mine

namespace Mine
open PySem PySem.W PySem.Calls PyProof.Rows
noncomputable def Wd.at (D : Wd) (b : Heap) : Wd := { D with base := b }
/-- what stands of h: the base and some cells more -/
noncomputable def widen (base h : Heap) (as : List Addr) : Heap := hideAll h ((List.range h.objs.size).filter fun a => (base.get? a).isNone && !as.contains a)
theorem widen_of {base h : Heap} {as : List Addr} {a : Addr} {o : Obj} (e : (widen base h as).get? a = some o) : h.get? a = some o ∧ (a ∈ as ∨ base.get? a ≠ none) := by
  have e1 := of_hideAll _ e
  refine ⟨e1, ?_⟩
  by_cases q : a ∈ as
  · exact .inl q
  · refine .inr fun z => ?_
    have : (widen base h as).get? a = none := hideAll_none _ (List.mem_filter.mpr ⟨List.mem_range.mpr (Heap.lt_size e1), by simp [z, q]⟩)
    rw [this] at e; cases e
theorem widen_in {base h : Heap} {as : List Addr} {a : Addr} {o : Obj} (e : h.get? a = some o) (q : a ∈ as ∨ base.get? a ≠ none) : (widen base h as).get? a = some o := by
  refine hideAll_get _ e fun m => ?_
  have := (List.mem_filter.mp m).2
  simp only [Bool.and_eq_true, Option.isNone_iff_eq_none, Bool.not_eq_true', List.contains_eq_mem, decide_eq_false_iff_not] at this
  rcases q with q | q
  · exact this.2 q
  · exact q this.1
theorem Stat.at {D : Wd} (st : Stat D) {b : Heap} (k : ∀ a o, D.base.get? a = some o → b.get? a = some o) : Stat (D.at b) :=
  ⟨st.K.keeps k, st.g.keeps k, st.b.keeps k, st.builtins, st.nolimit.keeps k, let ⟨mc, n, e⟩ := st.nodigits; ⟨mc, n.keeps k, e⟩⟩
section
variable {D : Wd} {c : Cx} {σ : St} {s : Shared} {X : Int → St → Prop} {Q : AV → St → Prop} {b : Heap}
theorem Rep.wide (r : Rep D c σ s) (k : ∀ a o, D.base.get? a = some o → b.get? a = some o) (hb : ∀ a o, b.get? a = some o → s.heap.get? a = some o ∧ σ.hp a = none ∧ a ∉ fw c.env ∧ a ∉ c.frames.filterMap (·.frame)) : Rep (D.at b) c σ s where
  st := r.st.at k
  ok := r.ok
  hp := r.hp
  fresh := fun a o e => by
    show b.get? a = none
    cases q : b.get? a with
    | none => rfl
    | some o' => have := (hb a o' q).2.1; rw [e] at this; cases this
  apart := r.apart
  fr := r.fr
  base := fun a o e => (hb a o e).1
  baseA := fun a ha => by
    show b.get? a = none
    cases q : b.get? a with
    | none => rfl
    | some o' => exact absurd ha (hb a o' q).2.2.1
  same := r.same
  ff := fun env he => by
    obtain ⟨q, L, o, es, ep, a, b1, e, d⟩ := r.ff env he
    refine ⟨q, L, o, es, ep, a, ?_, e, d⟩
    show b.get? L = none
    cases z : b.get? L with
    | none => rfl
    | some o' => exact absurd (List.mem_filterMap.mpr ⟨env, he, a⟩) (hb L o' z).2.2.2
  fapart := r.fapart
  nm := r.nm
theorem Rep.narrow (st : Stat D) (k : ∀ a o, D.base.get? a = some o → b.get? a = some o) (r : Rep (D.at b) c σ s) : Rep D c σ s where
  st := st
  ok := r.ok
  hp := r.hp
  fresh := fun a o e => by
    have := r.fresh a o e
    cases q : D.base.get? a with
    | none => rfl
    | some o' => have this : b.get? a = none := this; rw [k a o' q] at this; cases this
  apart := r.apart
  fr := r.fr
  base := fun a o e => r.base a o (k a o e)
  baseA := fun a ha => by
    have := r.baseA a ha
    cases q : D.base.get? a with
    | none => rfl
    | some o' => have this : b.get? a = none := this; rw [k a o' q] at this; cases this
  same := r.same
  ff := fun env he => by
    obtain ⟨q, L, o, es, ep, a, b1, e, d⟩ := r.ff env he
    refine ⟨q, L, o, es, ep, a, ?_, e, d⟩
    cases z : D.base.get? L with
    | none => rfl
    | some o' => have b1 : b.get? L = none := b1; rw [k L o' z] at b1; cases b1
  fapart := r.fapart
  nm := r.nm
noncomputable def AV.atom : AV → Bool
  | .tup _ => false
  | _ => true
theorem VR.any {h h' : Heap} : ∀ {x : AV} {v : Value}, x.atom = true → VR h x v → VR h' x v
  | .none, _, _, e => e
  | .bool _, _, _, e => e
  | .int _, _, _, e => e
  | .str _, _, _, e => e
  | .bytes _, _, _, e => e
  | .obj _, _, _, e => e
  | .stat _, _, _, e => e
  | .tup _, _, p, _ => nomatch p

/-- a call of a function, some cells of the frame's own held fast -/
theorem TO_fnW {f : Addr} {fd : FuncData} {xs : List Str} {body : List Stmt} {as : List AV} {room : Nat} {cl : List (Str × Addr)} {caps : List (Str × AV)} (ok : FnOk D f fd xs body) (hl : as.length = xs.length) (hpu : c.pur = false) (hr : room < c.room)
    (hsub : ∀ p ∈ cl, p ∈ c.env.cells) (hap : (cl.map (·.1)).Nodup) (hall : ∀ p ∈ cl, (caps.lookup p.1).isSome = true)
    (hcaps : ∀ p ∈ caps, σ.vars.lookup p.1 = some p.2 ∧ p.2.atom = true ∧ (c.env.kindOf p.1 = some .cell ∨ c.env.kindOf p.1 = some .free) ∧ c.env.cells.lookup p.1 = cl.lookup p.1)
    (h : ∀ b, Stat (D.at b) → (∀ a o, D.base.get? a = some o → b.get? a = some o) → LamCl (D.at b) cl caps → ∀ L, TF (D.at b) (callee c.A c (callEnvC fd L f) room) (execs body (callEnvC fd L f)) ⟨bindV xs as [], σ.hp⟩ (fun fl σ' => Q (retOf fl) ⟨σ.vars, σ'.hp⟩) (fun k σ' => X k ⟨σ.vars, σ'.hp⟩)) :
    TO D c VR as (fun vs => call (.ref f) vs) σ Q X := fun s vs r hv => by
  have d1 := r.ok.depth
  have u1 := r.ok.units
  obtain ⟨oc, od, osl, hK⟩ := ok.at_
  have hlen : vs.length = xs.length := by rw [hv.length, hl]
  have keyOf : ∀ x ∈ xs.zip vs, x.1 ∈ xs := fun x hx => (List.of_mem_zip hx).1
  refine wpAny_call (codeAny_call_cells (by omega) (r.K _ _ hK) rfl (r.st.nolimit.keeps r.base) (codeRec_of r.K ok.code) ok.body (ok.bind vs hlen) ok.clo (fun x hx => ok.kinds _ x.1 (keyOf x hx)) (fun s₁ x => ?_) ok.co ok.gen ok.kind)
  obtain ⟨h₁, tk, rfl, hk⟩ := x.done
  have lt_none : ∀ a, s.heap.objs.size ≤ a → s.heap.get? a = none := fun a ha => Heap.get?_none_of_le ha
  have newc : ∀ a ∈ fa (callEnvC fd s.heap.objs.size f), s.heap.get? a = none := fun a ha => by
    rcases List.mem_cons.mp ha with rfl | ha
    · exact lt_none _ (Nat.le_refl _)
    · obtain ⟨p, hp, rfl⟩ := List.mem_map.mp ha
      exact lt_none _ (Nat.le_of_lt (x.above p.1 p.2 hp))
  have okc : CxOk (callee c.A c (callEnvC fd s.heap.objs.size f) room) := by
    refine ⟨ok.kind, ok.glob, ok.blt, Around.frames_deeper r.ok.frames, r.ok.handled, ?_, ?_, List.pairwise_map.mpr x.apart, fun m => ?_⟩
    · show c.A.depth + 1 + room < recursionLimit; omega
    · show c.A.units + 3 + 8 * room + 200 < cLine; omega
    · obtain ⟨p, hp, e⟩ := List.mem_map.mp m
      exact absurd (x.above p.1 p.2 hp) (by rw [e]; exact Nat.lt_irrefl _)
  have hnd : ((callEnvC fd s.heap.objs.size f).cells.map (·.1)).Nodup := cellsFrom_names fd.scope.names 0 (s.heap.objs.size + 1) [] [] rfl ▸ ok.nodup
  have t : TK s.heap h₁ := TK.of_keeps hk
  have kdx : ∀ y, (callEnvC fd s.heap.objs.size f).kindOf y = fd.scope.names.lookup y ∨ ∀ k, fd.scope.names.lookup y ≠ some k := fun y => by
    cases q : fd.scope.names.lookup y with
    | none => exact .inr fun k e => nomatch e
    | some k => exact .inl q
  have fr : FrRep (callEnvC fd s.heap.objs.size f) (bindV xs as []) h₁ := by
    refine ⟨⟨_, x.toInCall.ns, bindL_vars (hv.mono t) (fun _ _ e => by cases e)⟩, fun y av e1 e2 => ?_, fun p hp => ⟨_, x.cell p.1 p.2 (lookup_of_mem_nodup hnd hp)⟩⟩
    have hy : y ∈ xs := bindV_names (fun _ h => h) (fun _ _ e => by cases e) e1
    have nl : (callEnvC fd s.heap.objs.size f).kindOf y ≠ some .local := fun q => by rw [q] at e2; rcases e2 with e2 | e2 <;> cases e2
    obtain ⟨v, h1, h2⟩ := bindC_vars (hv.mono t) (fun _ _ e => by cases e) y av e1 nl
    rcases ok.kinds (s.heap.objs.size + 1) y hy with q | ⟨q, qc⟩
    · rcases kdx y with z | z
      · exact absurd (z.trans q) nl
      · exact absurd q (z _)
    · obtain ⟨a, ha⟩ := Option.isSome_iff_exists.mp qc
      exact ⟨a, v, ha, h1 ▸ x.cell y a ha, h2⟩
  have r₁ : Rep D (callee c.A c (callEnvC fd s.heap.objs.size f) room) ⟨bindV xs as [], σ.hp⟩ { s with heap := h₁, toks := tk } :=
    enter r okc rfl rfl hk (newc _ (List.mem_cons_self ..)) (fun a o e => .inl e) (fun a ha => ⟨r.untracked (newc a ha), fun _ => by
      cases q : D.base.get? a with
      | none => rfl
      | some o => have := r.base a o q; rw [newc a ha] at this; cases this⟩) fr
  -- the cells held fast
  have ccell : ∀ p ∈ cl, ∃ v, s.heap.IsCell p.2 (some v) ∧ ∃ av, caps.lookup p.1 = some av ∧ VR nil av v := fun p hp => by
    obtain ⟨av, hav⟩ := Option.isSome_iff_exists.mp (hall p hp)
    obtain ⟨k1, k2, k3, k4⟩ := hcaps _ (mem_of_lookup hav)
    obtain ⟨a, v, h1, h2, h3⟩ := r.fr.cell p.1 av k1 k3
    have e1 : cl.lookup p.1 = some p.2 := lookup_of_mem_nodup hap hp
    have k4' : c.env.cells.lookup p.1 = cl.lookup p.1 := k4
    rw [k4', e1] at h1; cases h1
    exact ⟨v, h2, av, hav, VR.any k2 h3⟩
  have cfa : ∀ a ∈ cl.map (·.2), a ∈ fa c.env := fun a ha => by
    obtain ⟨p, hp, rfl⟩ := List.mem_map.mp ha
    exact List.mem_cons_of_mem _ (List.mem_map.mpr ⟨p, hsub p hp, rfl⟩)
  have bk : ∀ a o, D.base.get? a = some o → (widen D.base s.heap (cl.map (·.2))).get? a = some o := fun a o e => widen_in (r.base a o e) (.inr (by rw [e]; exact fun q => nomatch q))
  have bIn : ∀ a o, (widen D.base s.heap (cl.map (·.2))).get? a = some o → s.heap.get? a = some o ∧ σ.hp a = none ∧ (a ∈ c.frames.filterMap (·.frame) → False) := fun a o e => by
    obtain ⟨e1, e2⟩ := widen_of e
    rcases e2 with e2 | e2
    · refine ⟨e1, r.apart _ (cfa a e2), fun m => ?_⟩
      obtain ⟨_, o', es, ep, e', d⟩ := r.ff.mem m
      obtain ⟨p, hp, q⟩ := List.mem_map.mp e2
      obtain ⟨v, ⟨oo, z1, z2⟩, _⟩ := ccell p hp
      rw [q, e'] at z1; cases z1; rw [d] at z2; cases z2
    · refine ⟨e1, ?_, fun m => e2 (r.ff.mem m).1⟩
      cases q : σ.hp a with
      | none => rfl
      | some o' => exact absurd (r.fresh a o' q) e2
  have r₂ : Rep (D.at (widen D.base s.heap (cl.map (·.2)))) (callee c.A c (callEnvC fd s.heap.objs.size f) room) ⟨bindV xs as [], σ.hp⟩ { s with heap := h₁, toks := tk } := by
    refine r₁.wide bk fun a o e => ?_
    obtain ⟨e1, e2, e3⟩ := bIn a o e
    refine ⟨hk a o e1, e2, fun m => absurd ((newc a (fw_fa m)).symm.trans e1) (fun q => nomatch q), fun m => ?_⟩
    have m' : a ∈ (callEnvC fd s.heap.objs.size f :: c.frames).filterMap (·.frame) := m
    rw [List.filterMap_cons, show (callEnvC fd s.heap.objs.size f).frame = some s.heap.objs.size from rfl] at m'
    rcases List.mem_cons.mp m' with q | q
    · have := lt_none a (by rw [q]; exact Nat.le_refl _)
      rw [e1] at this; cases this
    · exact e3 q
  have lc : LamCl (D.at (widen D.base s.heap (cl.map (·.2)))) cl caps := by
    refine ⟨fun p hp => ?_, ?_, fun p hp => ?_⟩
    · obtain ⟨v, ⟨o, e, d⟩, _⟩ := ccell p hp
      exact ⟨v, o, widen_in e (.inl (List.mem_map.mpr ⟨p, hp, rfl⟩)), d⟩
    · rw [List.pairwise_map]
      have hp1 : cl.Pairwise (fun a b => a.1 ≠ b.1) := by
        have := hap
        rw [List.Nodup, List.pairwise_map] at this
        exact this
      refine List.Pairwise.imp_of_mem (fun {p q} hp hq hne he => hne ?_) hp1
      have l1 : c.env.cells.lookup p.1 = some p.2 := by
        obtain ⟨_, _, av, hav, _⟩ := ccell p hp
        have k4 := (hcaps _ (mem_of_lookup hav)).2.2.2
        have k4' : c.env.cells.lookup p.1 = cl.lookup p.1 := k4
        rw [k4', lookup_of_mem_nodup hap hp]
      have l2 : c.env.cells.lookup q.1 = some q.2 := by
        obtain ⟨_, _, av, hav, _⟩ := ccell q hq
        have k4 := (hcaps _ (mem_of_lookup hav)).2.2.2
        have k4' : c.env.cells.lookup q.1 = cl.lookup q.1 := k4
        rw [k4', lookup_of_mem_nodup hap hq]
      exact cellAddr r.ok.apart l1 (he ▸ l2)
    · obtain ⟨k1, k2, k3, k4⟩ := hcaps p hp
      obtain ⟨a, v, h1, ⟨o, e, d⟩, h3⟩ := r.fr.cell p.1 p.2 k1 k3
      have k4' : c.env.cells.lookup p.1 = cl.lookup p.1 := k4
      rw [k4'] at h1
      exact ⟨a, v, h1, ⟨o, widen_in e (.inl (List.mem_map.mpr ⟨(p.1, a), mem_of_lookup h1, rfl⟩)), d⟩, VR.any k2 h3⟩
  have run := h _ (r.st.at bk) bk lc s.heap.objs.size _ r₂
  refine bodyRunG (c' := callee c.A c (callEnvC fd s.heap.objs.size f) room) (f := fun fl => match fl with | .ret v => v | _ => Value.none) (g := retOf) (R₀ := FR) (Q := Q) (X := X) (σ := σ) (fun _ _ fl h => by cases fl <;> exact retOf_vr h) r hpu hk r₁ (fun _ _ e => e) rfl rfl (fun a ha => newc a (fw_fa ha))
    (wpAny_mono run (fun fl s' ⟨b, σ', z1, z2, z3, z4⟩ => ⟨b, σ', z1.narrow r.st bk, z2, z3, z4⟩) fun e s' ⟨σ', ea, k, z1, z2, z3, z4, z5⟩ => ⟨σ', ea, k, z1, z2.narrow r.st bk, z3, ?_, z5⟩)
    (R := fun v s' => ∃ b σ', Rep D c σ' s' ∧ Ext c σ s σ' s' ∧ VR s'.heap b v ∧ Q b σ') (E := XP D c σ s X) (fun _ _ h => h) (fun _ _ h => h)
  obtain ⟨i1, i2, i3⟩ := z4
  exact ⟨i1, i2, i3⟩
end
end Mine

namespace Mine
open PySem PySem.W PySem.Calls PyProof.Rows PySem.SeqAt
section
variable {A : Around} {s : Shared}
theorem arr_eq (a b : Array UInt8) : (a.toList == b.toList) = (a == b) := arr_beq a b
theorem RcAt_bytes (a : Array UInt8) (t : Tok) (b : Array UInt8) (u : Tok) : RcAt A s (.bytes a t) (.bytes b u) (a == b) := fun prog w E Q h => eq_bytes (by rw [arr_beq]; exact h)
theorem EqAt_bytes (a : Array UInt8) (t : Tok) (b : Array UInt8) (u : Tok) : EqAt A s (.bytes a t) (.bytes b u) (a == b) := fun prog w E Q h => by
  unfold eqBool
  refine wpAny_holding ?_
  refine wpAny_ite_split (fun hab => ?_) (fun _ => ?_)
  · have e : a = b := by have := eq_of_beq hab; injection this
    subst e
    exact wpAny_bind (wpAny_rule (wpAny_pure (by simpa using h)))
  · exact wpAny_bind (RcAt_bytes a t b u prog w E _ (wpAny_truthy_bool h))
theorem none_bytes_declines (b : Array UInt8) (u : Tok) : Gives (Builtin.«NoneType.__eq__» ⟨[.none, .bytes b u], []⟩) (.val (Value.notImplemented)) :=
  .of_wp fun M A E s Q h => by obtain ⟨hp, g, d, tk, os⟩ := s; wp_walk; exact ⟨_, rfl, h⟩
theorem bytes_none_declines (b : Array UInt8) (u : Tok) : Gives (Builtin.«bytes.__eq__» ⟨[.bytes b u, .none], []⟩) (.val (Value.notImplemented)) :=
  .of_wp fun M A E s Q h => by
    obtain ⟨hp, g, d, tk, os⟩ := s
    have f1 : isSubtype (.type "NoneType") (.type "bytes") = pure false := by rw [isSubtype_type]; kernel_rfl
    wp_walk; exact ⟨_, rfl, h⟩
theorem sub_bytes_None : isSubtype (.type "bytes") (.type "NoneType") = pure false := by rw [isSubtype_type]; kernel_rfl
theorem sub_None_bytes : isSubtype (.type "NoneType") (.type "bytes") = pure false := by rw [isSubtype_type]; kernel_rfl
theorem RcAt_none_bytes (b : Array UInt8) (u : Tok) : RcAt A s .none (.bytes b u) false := fun prog w E Q h =>
  rc_eq_decline_or (k := false) rfl (typeIs_bytes s b u) (by decide) sub_bytes_None F.slot_NoneType_eq FB.slot_bytes_eq
    (fun _ hq => call_gives F.slot_NoneType_eq rfl F.entry_NoneType_eq (F.args_NoneType_eq_2 _ _) (none_bytes_declines b u) hq)
    (fun _ hq => call_gives FB.slot_bytes_eq (typeIs_bytes s b u) FB.entry_bytes_eq (FB.args_bytes_eq_2 _ _) (bytes_none_declines b u) hq)
    (fun _ hq => wpAny_pure hq) (.inl rfl) h
theorem EqAt_none_bytes (b : Array UInt8) (u : Tok) : EqAt A s .none (.bytes b u) false := fun prog w E Q h => by
  unfold eqBool
  refine wpAny_holding ?_
  refine wpAny_ite_split (fun hab => absurd (eq_of_beq hab) nofun) (fun _ => ?_)
  exact wpAny_bind (RcAt_none_bytes b u prog w E _ (wpAny_truthy_bool h))
end

noncomputable def AV.eqv : AV → AV → Option Bool
  | .none, .none => some true
  | .none, .bytes _ => some false
  | .int a, .int b => some (a == b)
  | .str a, .str b => some (a == b)
  | .bytes a, .bytes b => some (a == b)
  | _, _ => Option.none
noncomputable def eqvs : List AV → List AV → Option Bool
  | [], [] => some true
  | x :: xs, y :: ys => match AV.eqv x y, eqvs xs ys with
    | some a, some b => some (a && b)
    | _, _ => none
  | _, _ => none
section
variable {A : Around} {s : Shared}
theorem AV.eqv_at {h : Heap} {x y : AV} {u v : Value} {b : Bool} (e : AV.eqv x y = some b) (p : VR h x u) (q : VR h y v) : EqAt A s u v b := by
  cases x <;> cases y <;> simp only [AV.eqv] at e <;> cases e
  · have p' : u = .none := p
    have q' : v = .none := q
    subst p' q'; exact EqAt.same _
  · obtain ⟨t, rfl⟩ := q
    have p' : u = .none := p
    subst p'; exact EqAt_none_bytes _ _
  · obtain ⟨t, rfl⟩ := p; obtain ⟨t', rfl⟩ := q; exact EqAt.int_int _ _ _ _
  · obtain ⟨t, rfl⟩ := p; obtain ⟨t', rfl⟩ := q; exact EqAt.str_str _ _ _ _
  · obtain ⟨t, rfl⟩ := p; obtain ⟨t', rfl⟩ := q; exact EqAt_bytes _ _ _ _
theorem all_range_succ (n : Nat) (e : Nat → Bool) : (List.range (n + 1)).all e = (e 0 && (List.range n).all fun j => e (j + 1)) := by
  rw [List.range_succ_eq_map, List.all_cons, List.all_map]; rfl
theorem eqvs_at {h : Heap} : ∀ {xs ys : List AV} {us vs : List Value} {b : Bool}, eqvs xs ys = some b → VRs h xs us → VRs h ys vs → us.length = vs.length ∧ ∃ e : Nat → Bool, (∀ j u v, us[j]? = some u → vs[j]? = some v → EqAt A s u v (e j)) ∧ (List.range us.length).all e = b
  | [], [], us, vs, b, e, p, q => by
    have p' : us = [] := p
    have q' : vs = [] := q
    subst p' q'
    simp only [eqvs] at e
    cases e
    exact ⟨rfl, fun _ => true, fun j u v e => by simp at e, rfl⟩
  | x :: xs, y :: ys, us, vs, b, e, ⟨u, us', hu, p, p'⟩, ⟨v, vs', hv, q, q'⟩ => by
    subst hu hv
    simp only [eqvs] at e
    split at e
    · rename_i a b' h1 h2
      cases e
      obtain ⟨l, f, hf, hb⟩ := eqvs_at h2 p' q'
      refine ⟨by simp [l], fun j => match j with | 0 => a | j + 1 => f j, fun j u' v' e1 e2 => ?_, ?_⟩
      · cases j with
        | zero =>
          have e1' : u = u' := by simpa using e1
          have e2' : v = v' := by simpa using e2
          subst e1' e2'
          exact AV.eqv_at h1 p q
        | succ j => exact hf j u' v' (by simpa using e1) (by simpa using e2)
      · rw [List.length_cons, all_range_succ, hb]
    · cases e
  | [], _ :: _, _, _, _, e, _, _ => by simp [eqvs] at e
  | _ :: _, [], _, _, _, e, _, _ => by simp [eqvs] at e
theorem isTup_of {h : Heap} {a : Addr} {vs : List Value} (g : h.get? a = some { cls := .type "tuple", data := .seq vs.toArray }) : h.IsTuple a vs.toArray := ⟨_, g, rfl, 0, rfl⟩
end
section
variable {D : Wd} {c : Cx} {σ : St} {s : Shared} {X : Int → St → Prop} {Q : AV → St → Prop}
theorem tupPair {h : Heap} {xs ys : List AV} {us vs : List Value} {b : Bool} {A : Around} {s : Shared} (e : eqvs xs ys = some b) (p : VRs h xs us) (q : VRs h ys vs) :
    ∃ f : Nat → Bool, (∀ j (h1 : j < us.toArray.size) (h2 : j < vs.toArray.size), EqAt A s us.toArray[j] vs.toArray[j] (f j)) ∧ ((List.range (min us.toArray.size vs.toArray.size)).all f && us.toArray.size == vs.toArray.size) = b := by
  obtain ⟨l, f, h1, h2⟩ := eqvs_at (A := A) (s := s) e p q
  refine ⟨f, fun j a1 a2 => h1 j _ _ (by simp) (by simp), ?_⟩
  simp only [List.size_toArray, l, Nat.min_self, beq_self_eq_true, Bool.and_true]
  rw [← l]; exact h2
theorem O_ne_tup {xs ys : List AV} {b : Bool} (e : eqvs xs ys = some b) (h : Q (.bool (!b)) σ) : TO2 D c VR (.tup xs) (.tup ys) (compareOp .NotEq) σ Q X := fun s u v r ⟨a, us, e1, g1, p⟩ ⟨a', vs, e2, g2, q⟩ => by
  subst e1 e2
  obtain ⟨f, h1, h2⟩ := tupPair (A := c.A.in1) (s := s) e p q
  refine RcNeAt.tuples (isTup_of g1) (isTup_of g2) r.ok.u1 h1 _ _ _ _ ?_
  rw [h2]
  exact pB r h
theorem O_eq_tup {xs ys : List AV} {b : Bool} (e : eqvs xs ys = some b) (h : Q (.bool b) σ) : TO2 D c VR (.tup xs) (.tup ys) (compareOp .Eq) σ Q X := fun s u v r ⟨a, us, e1, g1, p⟩ ⟨a', vs, e2, g2, q⟩ => by
  subst e1 e2
  obtain ⟨f, h1, h2⟩ := tupPair (A := c.A.in1) (s := s) e p q
  refine RcAt.tuples (isTup_of g1) (isTup_of g2) r.ok.u1 h1 _ _ _ _ ?_
  rw [h2]
  exact pB r h

/-- what may be compared with itself -/
noncomputable def cmpOk : AV → Bool
  | .bytes _ => true
  | .tup xs => eqvs xs xs == some true
  | _ => false
theorem cmpOk_at {h : Heap} {x : AV} {u v : Value} {A : Around} {s : Shared} (hs : s.heap = h) (hu : A.units < cLine) (k : cmpOk x = true) (p : VR h x u) (q : VR h x v) : EqAt A s u v true := by
  cases x with
  | bytes b =>
    obtain ⟨t, rfl⟩ := p; obtain ⟨t', rfl⟩ := q
    have := EqAt_bytes (A := A) (s := s) b t b t'
    rw [beq_self_eq_true] at this
    exact this
  | tup xs =>
    obtain ⟨a, us, rfl, g1, p⟩ := p
    obtain ⟨a', vs, rfl, g2, q⟩ := q
    subst hs
    by_cases z : a = a'
    · subst z; exact EqAt.same _
    · have e : eqvs xs xs = some true := by simpa [cmpOk] using k
      obtain ⟨f, h1, h2⟩ := tupPair (A := A.in1) (s := s) e p q
      have := RcAt.tuples (isTup_of g1) (isTup_of g2) hu h1
      rw [h2] at this
      exact EqAt.of_refs z this
  | none => cases k
  | bool => cases k
  | int => cases k
  | str => cases k
  | obj => cases k
  | stat => cases k
theorem KVR.value {h : Heap} {x : Int} {av : AV} {kvs : List (Int × AV)} {vs : List (Int × Value)} (k : KVR h kvs vs) (e : kvs.lookup x = some av) : ∃ v, valueAt vs x = some v ∧ VR h av v := k.get e
theorem same_hits {A : Around} {s : Shared} {kb : List (Int × Value)} (hu : A.units < cLine) : ∀ {kvs : List (Int × AV)} {ka : List (Int × Value)}, KVR s.heap kvs ka → (∀ p ∈ kvs, cmpOk p.2 = true ∧ ∃ y, valueAt kb p.1 = some y ∧ VR s.heap p.2 y) → KeqHits A s kb ka true
  | [], _, e, _ => by
    have e' : _ = [] := e
    subst e'; exact .nil
  | p :: kvs, _, ⟨v, r, e, a, b⟩, h => by
    subst e
    obtain ⟨k, y, hy, hv⟩ := h p (List.mem_cons_self ..)
    have := KeqHits.hit (A := A) (s := s) (kb := kb) (k := p.1) (v := v) hy (cmpOk_at rfl hu k a hv) (same_hits hu b fun q hq => h q (List.mem_cons_of_mem _ hq))
    exact this
theorem lookup_nodup : ∀ {l : List (Int × AV)} {p : Int × AV}, (l.map (·.1)).Nodup → p ∈ l → l.lookup p.1 = some p.2
  | q :: l, p, n, h => by
    rw [List.lookup_cons]
    rcases List.mem_cons.mp h with rfl | h
    · simp
    · have n' : q.1 ∉ l.map (·.1) ∧ (l.map (·.1)).Nodup := List.nodup_cons.mp (by simpa using n)
      have ne : p.1 ≠ q.1 := fun e => n'.1 (e ▸ List.mem_map.mpr ⟨p, h, rfl⟩)
      rw [beq_eq_false_iff_ne.mpr ne]
      exact lookup_nodup n'.2 h
theorem pairs_any {prog prog' : Program} {w w' : World} {es : List DictEntry} {kvs : List (Int × Value)} (h : Pairs (intKind prog w) es kvs) : Pairs (intKind prog' w') es kvs := by
  induction h with
  | nil => exact .nil
  | cons a b _ ih => exact .cons a b ih
theorem dict_any {prog prog' : Program} {w w' : World} {h : Heap} {a : Addr} {kvs : List (Int × Value)} (d : h.DictOf (intKind prog w) a kvs) : h.DictOf (intKind prog' w') a kvs := by
  obtain ⟨o, es, ep, h1, h2, h3, h4, h5, h6⟩ := d
  exact ⟨o, es, ep, h1, h2, h3, h4, pairs_any h5, h6⟩
theorem dict_same {prog prog' : Program} {w w' : World} {A : Around} {E : Value → Shared → Prop} {s : Shared} {a b : Addr} {kvs : List (Int × AV)} {ka kb : List (Int × Value)} {Q : Value → Shared → Prop} (na : (a == sysModules) = false) (nb : (b == sysModules) = false)
    (da : s.heap.DictOf (intKind prog w) a ka) (db : s.heap.DictOf (intKind prog w) b kb) (hu : A.units + 1 < cLine) (xa : KVR s.heap kvs ka) (xb : KVR s.heap kvs kb) (ok : ∀ p ∈ kvs, cmpOk p.2 = true) (h : Q (.bool true) s) :
    wpAny (model prog' w') A (compareOp .Eq (.ref a) (.ref b)) Q E s := by
  have da' : s.heap.DictOf (intKind prog' w') a ka := dict_any da
  have db' : s.heap.DictOf (intKind prog' w') b kb := dict_any db
  have nd : (kvs.map (·.1)).Nodup := by
    rw [← xa.keys]
    obtain ⟨_, _, _, _, _, _, _, _, n⟩ := da'
    exact n
  refine keq_eq (r := true) na nb da' db' (by omega) (fun _ => same_hits (show A.in1.units < cLine from hu) xa fun p hp => ⟨ok p hp, ?_⟩) ?_
  · exact xb.get (lookup_nodup nd hp)
  · rw [xa.length, xb.length, beq_self_eq_true, Bool.and_true]; exact h
theorem O_eq_ahead {d₁ d₂ k i : Addr} {p : Array UInt8} {kvs₁ kvs₂ : List (Int × AV)} (h1 : σ.hp d₁ = some (.dict kvs₁)) (h2 : σ.hp k = some (.dict kvs₁)) (h3 : σ.hp d₂ = some (.dict kvs₂)) (h4 : σ.hp i = some (.dict kvs₂)) (n1 : d₁ ≠ k) (n2 : d₂ ≠ i)
    (ok1 : ∀ p ∈ kvs₁, cmpOk p.2 = true) (ok2 : ∀ p ∈ kvs₂, cmpOk p.2 = true) (h : Q (.bool true) σ) : TO2 D c VR (.tup [.obj d₁, .bytes p, .obj d₂]) (.tup [.obj k, .bytes p, .obj i]) (compareOp .Eq) σ Q X := fun s u v r ⟨a, us, e1, g1, x⟩ ⟨a', vs, e2, g2, y⟩ => by
  subst e1 e2
  obtain ⟨u1, us1, rfl, x1, u2, us2, rfl, ⟨t2, x2⟩, u3, us3, rfl, x3, x4⟩ := x
  obtain ⟨v1, vs1, rfl, y1, v2, vs2, rfl, ⟨t2', y2⟩, v3, vs3, rfl, y3, y4⟩ := y
  have x1' : u1 = .ref d₁ := x1
  have x3' : u3 = .ref d₂ := x3
  have x4' : us3 = [] := x4
  have y1' : v1 = .ref k := y1
  have y3' : v3 = .ref i := y3
  have y4' : vs3 = [] := y4
  subst x1' x2 x3' x4' y1' y2 y3' y4'
  obtain ⟨w1, a1, b1, c1⟩ := r.dict h1
  obtain ⟨w2, a2, b2, c2⟩ := r.dict h2
  obtain ⟨w3, a3, b3, c3⟩ := r.dict h3
  obtain ⟨w4, a4, b4, c4⟩ := r.dict h4
  have un := r.ok.units
  have ui : c.A.in1.units + 1 < cLine := by show c.A.units + 1 + 1 < cLine; omega
  have q1 : EqAt c.A.in1 s (.ref d₁) (.ref k) true := EqAt.of_refs n1 fun prog w E Q hq => dict_same c1 c2 a1 a2 ui b1 b2 ok1 hq
  have q2 : EqAt c.A.in1 s (.bytes p t2) (.bytes p t2') true := by
    have := EqAt_bytes (A := c.A.in1) (s := s) p t2 p t2'
    rw [beq_self_eq_true] at this
    exact this
  have q3 : EqAt c.A.in1 s (.ref d₂) (.ref i) true := EqAt.of_refs n2 fun prog w E Q hq => dict_same c3 c4 a3 a4 ui b3 b4 ok2 hq
  refine RcAt.tuples (e := fun _ => true) (isTup_of g1) (isTup_of g2) r.ok.u1 (fun j l1 l2 => ?_) _ _ _ _ ?_
  · match j, l1, l2 with
    | 0, _, _ => exact q1
    | 1, _, _ => exact q2
    | 2, _, _ => exact q3
  · exact pB r h
end
end Mine

namespace Mine
open PySem PySem.W PySem.Calls PyProof.Rows PySem.SeqAt
theorem ci_plain : plainId "proto.contains_iter" = true := by decide +kernel
theorem ci_entry : entryFor table "proto.contains_iter" = some Builtin.«proto.contains_iter» := by first | exact entryFor_of_fast (by kernel_rfl) | exact entryFor_of_tree (by kernel_rfl)
theorem view_no_contains : typeLookup (.type "dict_values") "__contains__" = pure none := by rw [typeLookup_type, builtinLookup_eq_fast]; kernel_rfl
section
variable {prog : Program} {w : World} {A : Around} {E : Value → Shared → Prop}
theorem ci_loop {R : Result → Shared → Prop} {I d : Addr} {ks : List (Int × Value)} {ep : Nat} {x : Value} {e : Int × Value → Bool} (hh : A.handled = none) (hne : d ≠ I) (he : ∀ (B : Around) s k, k ∈ ks → EqAt B s k.2 x (e k)) :
    ∀ (k i : Nat) (s : Shared), ks.length - i = k → i ≤ ks.length → s.heap.IsValIter I d i ks.length ep → s.heap.DictAt (intKind prog w) d ks ep →
      (∀ h', (∀ b o, b ≠ I → s.heap.get? b = some o → h'.get? b = some o) → R (.ok (.ret (.bool ((ks.drop i).any e)))) { s with heap := h' }) →
      codeAny (model prog w) A (.builtin "proto.contains_iter" ⟨[.ref I, x], []⟩) R s := by
  intro k
  induction k with
  | zero =>
    intro i s hk hle hit hD hR
    have hin : i = ks.length := by omega
    subst hin
    refine codeAny_builtin ci_entry ?_
    rw [Around.under_plainId ci_plain _]
    show wpAny _ A.in1 (pyNext (.ref I) >>= _) _ _ s
    refine wpAny_bind (wpAny_pyNext_values_end (knd := intKind prog w) hh hit hD (by simp) fun h' he' => ?_)
    refine wpAny_bind (wpAny_rule (wpAny_pure ?_))
    have := hR h' fun b o nb e => he' b o nb e
    rw [List.drop_length] at this
    exact this
  | succ k ih =>
    intro i s hk hle hit hD hR
    have hlt : i < ks.length := by omega
    obtain ⟨kk, v, hx⟩ : ∃ kk v, ks[i]? = some (kk, v) := ⟨ks[i].1, ks[i].2, List.getElem?_eq_getElem hlt⟩
    have hmem : (kk, v) ∈ ks := List.mem_of_getElem? hx
    have hdrop : ks.drop i = (kk, v) :: ks.drop (i + 1) := by
      rw [List.drop_eq_getElem_cons hlt]
      congr 1
      rw [List.getElem?_eq_getElem hlt] at hx
      exact Option.some.inj hx
    refine codeAny_builtin ci_entry ?_
    rw [Around.under_plainId ci_plain _]
    show wpAny _ A.in1 (pyNext (.ref I) >>= _) _ _ s
    refine wpAny_bind (wpAny_pyNext_values_item (knd := intKind prog w) hit hD hx fun h' hit' hs => ?_)
    refine wpAny_bind (he _ _ _ hmem prog w _ _ ?_)
    have D' : h'.DictAt (intKind prog w) d ks ep := by
      obtain ⟨o, es, ho, r⟩ := hD
      exact ⟨o, es, (hs.2 d hne).trans ho, r⟩
    cases hb : e (kk, v) with
    | true =>
      refine wpAny_bind (wpAny_rule (wpAny_pure ?_))
      have := hR h' fun b o nb e => (hs.2 b nb).trans e
      rw [hdrop, List.any_cons, hb, Bool.true_or] at this
      exact this
    | false =>
      refine wpAny_pure ⟨plainId_quiet ci_plain _, ?_⟩
      refine ih (i + 1) { s with heap := h' } (by omega) hlt hit' D' fun h'' kp => ?_
      have := hR h'' fun b o nb e => kp b o nb ((hs.2 b nb).trans e)
      rw [hdrop, List.any_cons, hb, Bool.false_or] at this
      exact this
end
section
variable {D : Wd} {c : Cx} {σ : St} {s : Shared} {X : Int → St → Prop} {Q : AV → St → Prop}
noncomputable def isBytes (b : Array UInt8) : AV → Bool
  | .bytes a => a == b
  | _ => false
theorem O_in_view {v d : Addr} {b : Array UInt8} {kvs : List (Int × AV)} (hv : σ.hp v = some (.view d)) (hd : σ.hp d = some (.dict kvs)) (hall : ∀ p ∈ kvs, ∃ a, p.2 = .bytes a) (h : Q (.bool (kvs.any fun p => isBytes b p.2)) σ) :
    TO2 D c VR (.bytes b) (.obj v) (compareOp .In) σ Q X := fun s x u r ⟨t, e⟩ e' => by
  have e0 : u = .ref v := e'
  subst e e0
  obtain ⟨ks, p, hk, lo⟩ := r.dict hd
  obtain ⟨ep, hat⟩ := p.dictAt
  obtain ⟨ov, e1, e2⟩ := r.hp v _ hv
  have e2' : ov = { cls := .type "dict_values", data := .fields #[.ref d] } := e2
  subst e2'
  have hV : s.heap.IsValuesView v d := ⟨_, e1, rfl, rfl⟩
  show wpAny _ _ (do return Value.bool (← contains (.ref v) (.bytes b t))) _ _ s
  refine wpAny_bind ?_
  unfold contains
  refine wpAny_holding ?_
  rw [stdlibNamesSay?_ref]
  refine wpAny_bind (wpAny_specialOf hV.typeIs view_no_contains ?_)
  rw [if_neg (by simp)]
  refine wpAny_bind (wpAny_callSpecialUnlessNone?_none hV.typeIs view_no_contains ?_)
  refine wpAny_bind (wpAny_rule ?_)
  refine wpAny_bind (wpAny_tryCatch (wpAny_pyIter_values (knd := intKind D.prog D.w) hV hat ?_))
  let e : Int × Value → Bool := fun p => match p.2 with | .bytes a _ => a == b | _ => false
  have shape : ∀ {kvs : List (Int × AV)} {ks : List (Int × Value)}, KVR s.heap kvs ks → (∀ p ∈ kvs, ∃ a, p.2 = .bytes a) → (∀ k ∈ ks, ∃ a t, k.2 = .bytes a t) ∧ ks.any e = kvs.any fun p => isBytes b p.2 := by
    intro kvs
    induction kvs with
    | nil => intro ks z _; have z' : ks = [] := z; subst z'; exact ⟨fun _ h => (nomatch h), rfl⟩
    | cons q kvs ih =>
      rintro ks ⟨w, r, rfl, x1, x2⟩ hq
      obtain ⟨h1, h2⟩ := ih x2 fun p hp => hq p (List.mem_cons_of_mem _ hp)
      obtain ⟨a, ha⟩ := hq q (List.mem_cons_self ..)
      rw [ha] at x1
      obtain ⟨t', rfl⟩ := x1
      refine ⟨fun k hk => ?_, ?_⟩
      · rcases List.mem_cons.mp hk with rfl | hk
        · exact ⟨a, t', rfl⟩
        · exact h1 k hk
      · rw [List.any_cons, List.any_cons, h2, ha]; rfl
  obtain ⟨s1, s2⟩ := shape hk hall
  have dl : d ≠ s.heap.objs.size := Nat.ne_of_lt hat.lt_size
  refine wpAny_bind (wpAny_runValue (ci_loop (A := c.A) (R := _) (I := s.heap.objs.size) (d := d) (ks := ks) (ep := ep) (x := .bytes b t) (e := e) r.ok.handled dl (fun B s' k hk => ?_) ks.length 0 { s with heap := s.heap.push { cls := .type "dict_valueiterator", data := .fields #[.ref d, .int 0 0, .int ks.length 0, .int ep 0] } } rfl (Nat.zero_le _) ⟨_, Heap.get?_push_size _ rfl, rfl, rfl⟩ (hat.push _) fun h' kp => ?_))
  · obtain ⟨a, t', ha⟩ := s1 k hk
    obtain ⟨k1, k2⟩ := k
    dsimp only at ha
    subst ha
    exact EqAt_bytes a t' b t
  · refine wpAny_pure (wpAny_pure ?_)
    rw [List.drop_zero, s2]
    have kp0 : ∀ a o, s.heap.get? a = some o → h'.get? a = some o := fun a o e => kp a o (Nat.ne_of_lt (Heap.lt_size e)) (push_keeps _ _ e)
    exact post (h' := h') (tk := s.toks) r kp0 (b := AV.bool _) (R := VR) rfl h
end
end Mine

namespace Mine
open PySem PySem.W PySem.Calls PyProof.Rows PySem.SeqAt
section
variable {D : Wd} {c : Cx} {σ : St} {s : Shared} {X : Int → St → Prop} {Q : AV → St → Prop}
theorem B_maxP {a b : Int} (h : Q (.int (if b > a then b else a)) σ) : TO D c VR [.int a, .int b] (fun vs => call (.builtin "max") vs) σ Q X := fun s vs r hv => by
  obtain ⟨u, us, rfl, ⟨t, e⟩, v, us', rfl, ⟨t', e'⟩, e0⟩ := hv
  have e0' : us' = [] := e0
  subst e e' e0'
  refine max_two_ints r.ok.handled fun h' tk hk => ?_
  refine post (h' := h') (tk := tk) r hk (b := AV.int _) (R := VR) ?_ h
  split
  · exact ⟨_, rfl⟩
  · exact ⟨_, rfl⟩
theorem TE_uptoS {value : Expr} {n : Nat} {k : Nat} {kp p pos : Pos} (ht : ∀ o r, letTemporaryGo value o r = pure ()) (h : TE D c (eval value c.env) σ (fun o σ₁ => ∃ a vs ns, o = .stat (.ref a) ∧ D.base.IsList a (List.toArray vs) ∧ IntsAre vs ns ∧ ns.length ≤ 1000 ∧ ∀ z, σ₁.hp z = none → Q (.obj z) { σ₁ with hp := σ₁.hp.set z (.list ((ns.take n).map .int)) }) X) :
    TE D c (eval (.Subscript value (.Slice none (some (.Constant (.int n) k kp)) none p) pos) c.env) σ Q X := fun s r =>
  wpAny_Subscript_list_slice (h.use r (Ext.refl ..) fun u s₁ a σ₁ r₁ _ e₁ v₁ q₁ => by
    obtain ⟨a, vs, ns, rfl, ha, hi, hz, hq⟩ := q₁
    have e' : u = .ref a := v₁
    subst e'
    obtain ⟨o, ho, hc, n0, hd⟩ := ha
    have hw : VRs s₁.heap (ns.map .int) vs := of_ints hi
    have il : s₁.heap.IsList a vs.toArray := ⟨o, r₁.base _ _ ho, hc, n0, hd⟩
    rw [evalPart_none, evalPart_some]
    refine wpAny_pure (wpAny_Constant_int ⟨a, vs.toArray, none, some (n : Int), rfl, il, by rw [List.size_toArray, hw.length]; simp only [List.length_map]; exact Nat.le_trans hz (by decide), .none, .int _ _, ?_⟩)
    rw [slicePick_upto']
    obtain ⟨b1, b2⟩ := r₁.grow (h' := s₁.heap.push { cls := .type "slice", data := .fields #[.none, .int n s₁.toks, .none] }) (tk := s₁.toks + 1) push_keeps
    have g := Heap.get?_push_size (s₁.heap.push { cls := .type "slice", data := .fields #[.none, .int n s₁.toks, .none] }) (o := { cls := .type "list", data := .seq (vs.take n).toArray }) rfl
    have tv := ((hw.mono b2.tk).mono (TK.of_keeps push_keeps)).take (n := n) (h := (s₁.heap.push { cls := .type "slice", data := .fields #[.none, .int n s₁.toks, .none] }).push { cls := .type "list", data := .seq (vs.take n).toArray })
    obtain ⟨a1, a2⟩ := b1.alloc (tk := s₁.toks + 1) (o := .list ((ns.take n).map .int)) push_keeps (fresh_none _) g ⟨_, 0, rfl, by rw [List.map_take]; exact tv⟩ (fun _ q => nomatch q)
    have hz2 : (s₁.heap.push { cls := .type "slice", data := .fields #[.none, .int n s₁.toks, .none] }).objs.size = s₁.heap.objs.size + 1 := Heap.size_push ..
    have fr := b1.untracked (fresh_none _)
    rw [show ({ s₁ with heap := s₁.heap.push { cls := .type "slice", data := .fields #[.none, .int n s₁.toks, .none] }, toks := s₁.toks + 1 } : Shared).heap.objs.size = s₁.heap.objs.size + 1 from hz2] at a1 a2 fr
    exact ⟨.obj _, _, a1, (e₁.trans b2).trans a2, rfl, hq _ fr⟩) ht
theorem B_lenS {a : Addr} {vs : List Value} {ns : List Int} (ha : D.base.IsList a (List.toArray vs)) (hi : IntsAre vs ns) (hz : ns.length ≤ 1000) (h : Q (.int ns.length) σ) : TO D c VR [.stat (.ref a)] (fun vs => call (.builtin "len") vs) σ Q X := fun s us r hv => by
  obtain ⟨u, us, rfl, e, e0⟩ := hv
  have e' : u = .ref a := e
  have e0' : us = [] := e0
  subst e' e0'
  obtain ⟨o, ho, hc, n0, hd⟩ := ha
  have hw : VRs s.heap (ns.map .int) vs := of_ints hi
  have ls : vs.length = ns.length := by rw [hw.length, List.length_map]
  have il : s.heap.IsList a vs.toArray := ⟨o, r.base _ _ ho, hc, n0, hd⟩
  exact len_at il (by rw [List.size_toArray, ls]; exact hz) (by rw [List.size_toArray, ls]; exact pI r h)
/-- a pair laid into two names -/
theorem lays_pair {x y : Str} {p q tp : Pos} {k : Nat} {env : Env} {C : Addr} {a b : AV} (hx : env.kindOf x = some .local) (hy : env.kindOf y = some .local) (hk : (env.scope.kind == .class || (env.scope.kind == .module && env.locals != env.globals)) = false) (hC : env.locals = C) :
    Lays D (.Tuple [.Name x p, .Name y q] k tp) env C (.tup [a, b]) [(y, b), (x, a)] := fun A E Q s v m hh hv n h => by
  subst hC
  obtain ⟨t, vs, rfl, ht, hvs⟩ := hv
  obtain ⟨u, us, rfl, hu, w, us', rfl, hw, e0⟩ := hvs
  have e0' : us' = [] := e0
  subst e0'
  refine wpAny_assign_Tuple hh (isTup_of ht) rfl rfl fun h₁ he => ?_
  have kp : ∀ a o, s.heap.get? a = some o → h₁.get? a = some o := fun a o e => he a o (Nat.ne_of_lt (Heap.lt_size e)) e
  show wpAny _ A (assignInOrder [fun v => assign (.Name x p) env v, fun v => assign (.Name y q) env v] [u, w]) _ _ _
  refine wpAny_assignInOrder_more (wpAny_assign_Name (wpAny_storeName_local hx (n.keeps kp) (fun h₂ n₂ hs₂ => ?_) hk))
  refine wpAny_assignInOrder_more (wpAny_assign_Name (wpAny_storeName_local hy n₂ (fun h₃ n₃ hs₃ => ?_) hk))
  refine wpAny_assignInOrder_none ?_
  have k₃ : ∀ b o, b ≠ env.locals → s.heap.get? b = some o → h₃.get? b = some o := fun b o nb e => (hs₃.2 b nb).trans ((hs₂.2 b nb).trans (kp b o e))
  have tk := tk_but n k₃
  refine h h₃ _ _ k₃ n₃ fun z av e => ?_
  rw [lookup_cons'] at e
  split at e
  · rename_i q; cases e
    exact ⟨w, by simp [q], hw.mono tk⟩
  · rename_i q
    rw [lookup_cons'] at e
    split at e
    · rename_i q'; cases e
      exact ⟨u, by subst q'; simp [q], hu.mono tk⟩
    · cases e
end
end Mine

namespace Mine
open PySem PySem.W PySem.Calls PyProof.Rows
set_option maxHeartbeats 8000000
/-- the statements that bind a name -/
noncomputable abbrev Vq : Program := view PySem.Challenge.pw_no0071_01 [0, 2, 3, 4, 6, 7, 8, 9, 11, 12, 13, 14, 15]
theorem left_boot {p q : Program} {loose : List Str} {Xt : Shared → Bool} {α : Type} {Yf : Shared → α} {Ya : World → α} {N : Nat} (e : opening p = plainProg p.main.scope.names) (hN : Nat.ble 600 N = true) (f : ∀ s, fenceModules? p s = some s)
    (h : ∀ (w : World) (os : OsState), (topFrom treeTable p w N ⟨boot_heap w.params, #[], boot_drawn, boot_toks, os⟩).map (fun s => (openSeen q loose (importedModules p.main.body) Xt true s, Yf s)) = some (openGood q loose, Ya w)) : LeftO p q loose Xt Yf Ya N := fun w => by
  obtain ⟨⟨hh, gs, d, k, os⟩, e1, e2⟩ := Option.map_eq_some_iff.mp (boot_open e hN f w)
  obtain ⟨rfl, rfl, rfl, rfl⟩ : hh = boot_heap w.params ∧ gs = #[] ∧ d = boot_drawn ∧ k = boot_toks := by simpa using e2
  unfold openEnds
  rw [e1]
  exact h w os
theorem law_said : PySem.Challenge.rw_no0071_01.wellSaid = true := by
  rw [PySem.W.Fast.te9446332074065402090]
  kernel_rfl
local macro_rules | `(tactic| o_law) => `(tactic| refine holds_law law_said fun said => ?_)
local macro_rules | `(tactic| o_head $H) => `(tactic| (
  refine holds_open (q := Vq) (loose := []) (Xt := fun s => xlAt Vq [] s && recOk (RowW.records (OpenRow.toRowW PySem.Challenge.rw_no0071_01.row)) s) (XP := XL Vq []) (Yf := Hook.obs $H) (Ya := Hook.val $H) (YP := Hook.says $H) (N := 3068) ?hl (Hook.of $H) (Hook.keeps $H) (fun s e => xl_of s (Bool.and_eq_true_iff.mp e).1) XL.keeps (by rfl) (by rfl) (by rfl) (fun s e => recFacts_of (Bool.and_eq_true_iff.mp e).2) (by rfl) (by first | assumption | decide +kernel) (by decide +kernel) ⟨rfl, rfl, rfl, rfl, rfl, by decide +kernel⟩ ?hw ?hc
  (case hl => (
    refine left_boot (by kernel_rfl) (by rfl) (fun s => by kernel_rfl) ?_
    intro w os
    unfold topFrom
    rw [PySem.W.Fast.te14082659384304107361, PySem.W.Fast.te14364793385576792824, PySem.W.Fast.te4187177175401517315]
    kernel_rfl))))
open_top hd for PySem.Challenge.rw_no0071_01
end Mine

namespace Mine
open PySem PySem.W PySem.Calls PyProof.Rows PySem.SeqAt
noncomputable def FnAtK (a : Addr) (fd : FuncData) : Prop := ∀ P, ∃ oc od sl, (hd.heap_1 P).lookup a = some ⟨oc, od, .func fd, sl⟩
noncomputable def BodyIs (fd : FuncData) (b : List Stmt) : Prop := fd.body = .stmts b
/-- the facts of a method of a class -/
structure MF (D : Wd) (C : Addr) (name : Str) (f : Addr) : Prop where
  get : plainGet D.K C name = true
  find : findIn D.K (.ref C) name = some (some (.ref f))
  fn : isFn D.K (.ref f) = true
  keep : keepIn D.K (.ref f) = true
theorem len_succ {α : Type} {vs : List α} {n : Nat} (h : vs.length = n + 1) : ∃ a r, vs = a :: r ∧ r.length = n := by
  cases vs with
  | nil => cases h
  | cons a r => exact ⟨a, r, rfl, Nat.succ.inj h⟩
theorem len_zero {α : Type} {vs : List α} (h : vs.length = 0) : vs = [] := List.length_eq_zero_iff.mp h
structure PF (D : Wd) : Prop where
  K : ∃ P, D.K = hd.heap_1 P
noncomputable def f35 : { fd : FuncData // FnAtK 35 fd } := ⟨_, fun P => ⟨_, _, _, rfl⟩⟩
noncomputable def b35 : { b : List Stmt // BodyIs f35.1 b } := ⟨_, rfl⟩
theorem fn35 {D : Wd} (pf : PF D) : FnOk D 35 f35.1 ["self", "code", "frame_type", "text"] b35.1 where
  at_ := by obtain ⟨P, hK⟩ := pf.K; rw [hK]; exact f35.2 P
  code := by obtain ⟨P, hK⟩ := pf.K; rw [hK]; kernel_rfl
  body := b35.2
  glob := rfl
  blt := rfl
  clo := rfl
  kind := rfl
  co := rfl
  gen := rfl
  bind := fun vs h => by
    obtain ⟨a0, r0, rfl, h0⟩ := len_succ (n := 3) h
    obtain ⟨a1, r1, rfl, h1⟩ := len_succ (n := 2) h0
    obtain ⟨a2, r2, rfl, h2⟩ := len_succ (n := 1) h1
    obtain ⟨a3, r3, rfl, h3⟩ := len_succ (n := 0) h2
    obtain rfl := len_zero h3
    rfl
  kinds := by
    intro n x hx
    rcases List.mem_cons.mp hx with rfl | hx
    · first | exact .inl rfl | exact .inr ⟨rfl, rfl⟩
    rcases List.mem_cons.mp hx with rfl | hx
    · first | exact .inl rfl | exact .inr ⟨rfl, rfl⟩
    rcases List.mem_cons.mp hx with rfl | hx
    · first | exact .inl rfl | exact .inr ⟨rfl, rfl⟩
    rcases List.mem_cons.mp hx with rfl | hx
    · first | exact .inl rfl | exact .inr ⟨rfl, rfl⟩
    cases hx
  nodup := by decide +kernel
noncomputable def f55 : { fd : FuncData // FnAtK 55 fd } := ⟨_, fun P => ⟨_, _, _, rfl⟩⟩
noncomputable def b55 : { b : List Stmt // BodyIs f55.1 b } := ⟨_, rfl⟩
theorem fn55 {D : Wd} (pf : PF D) : FnOk D 55 f55.1 ["self", "first", "limit"] b55.1 where
  at_ := by obtain ⟨P, hK⟩ := pf.K; rw [hK]; exact f55.2 P
  code := by obtain ⟨P, hK⟩ := pf.K; rw [hK]; kernel_rfl
  body := b55.2
  glob := rfl
  blt := rfl
  clo := rfl
  kind := rfl
  co := rfl
  gen := rfl
  bind := fun vs h => by
    obtain ⟨a0, r0, rfl, h0⟩ := len_succ (n := 2) h
    obtain ⟨a1, r1, rfl, h1⟩ := len_succ (n := 1) h0
    obtain ⟨a2, r2, rfl, h2⟩ := len_succ (n := 0) h1
    obtain rfl := len_zero h2
    rfl
  kinds := by
    intro n x hx
    rcases List.mem_cons.mp hx with rfl | hx
    · first | exact .inl rfl | exact .inr ⟨rfl, rfl⟩
    rcases List.mem_cons.mp hx with rfl | hx
    · first | exact .inl rfl | exact .inr ⟨rfl, rfl⟩
    rcases List.mem_cons.mp hx with rfl | hx
    · first | exact .inl rfl | exact .inr ⟨rfl, rfl⟩
    cases hx
  nodup := by decide +kernel
noncomputable def f60 : { fd : FuncData // FnAtK 60 fd } := ⟨_, fun P => ⟨_, _, _, rfl⟩⟩
noncomputable def b60 : { b : List Stmt // BodyIs f60.1 b } := ⟨_, rfl⟩
theorem fn60 {D : Wd} (pf : PF D) : FnOk D 60 f60.1 ["self"] b60.1 where
  at_ := by obtain ⟨P, hK⟩ := pf.K; rw [hK]; exact f60.2 P
  code := by obtain ⟨P, hK⟩ := pf.K; rw [hK]; kernel_rfl
  body := b60.2
  glob := rfl
  blt := rfl
  clo := rfl
  kind := rfl
  co := rfl
  gen := rfl
  bind := fun vs h => by
    obtain ⟨a0, r0, rfl, h0⟩ := len_succ (n := 0) h
    obtain rfl := len_zero h0
    rfl
  kinds := by
    intro n x hx
    rcases List.mem_cons.mp hx with rfl | hx
    · first | exact .inl rfl | exact .inr ⟨rfl, rfl⟩
    cases hx
  nodup := by decide +kernel
noncomputable def f67 : { fd : FuncData // FnAtK 67 fd } := ⟨_, fun P => ⟨_, _, _, rfl⟩⟩
noncomputable def b67 : { b : List Stmt // BodyIs f67.1 b } := ⟨_, rfl⟩
theorem fn67 {D : Wd} (pf : PF D) : FnOk D 67 f67.1 ["self"] b67.1 where
  at_ := by obtain ⟨P, hK⟩ := pf.K; rw [hK]; exact f67.2 P
  code := by obtain ⟨P, hK⟩ := pf.K; rw [hK]; kernel_rfl
  body := b67.2
  glob := rfl
  blt := rfl
  clo := rfl
  kind := rfl
  co := rfl
  gen := rfl
  bind := fun vs h => by
    obtain ⟨a0, r0, rfl, h0⟩ := len_succ (n := 0) h
    obtain rfl := len_zero h0
    rfl
  kinds := by
    intro n x hx
    rcases List.mem_cons.mp hx with rfl | hx
    · first | exact .inl rfl | exact .inr ⟨rfl, rfl⟩
    cases hx
  nodup := by decide +kernel
noncomputable def f74 : { fd : FuncData // FnAtK 74 fd } := ⟨_, fun P => ⟨_, _, _, rfl⟩⟩
noncomputable def b74 : { b : List Stmt // BodyIs f74.1 b } := ⟨_, rfl⟩
theorem fn74 {D : Wd} (pf : PF D) : FnOk D 74 f74.1 ["self", "cid", "token"] b74.1 where
  at_ := by obtain ⟨P, hK⟩ := pf.K; rw [hK]; exact f74.2 P
  code := by obtain ⟨P, hK⟩ := pf.K; rw [hK]; kernel_rfl
  body := b74.2
  glob := rfl
  blt := rfl
  clo := rfl
  kind := rfl
  co := rfl
  gen := rfl
  bind := fun vs h => by
    obtain ⟨a0, r0, rfl, h0⟩ := len_succ (n := 2) h
    obtain ⟨a1, r1, rfl, h1⟩ := len_succ (n := 1) h0
    obtain ⟨a2, r2, rfl, h2⟩ := len_succ (n := 0) h1
    obtain rfl := len_zero h2
    rfl
  kinds := by
    intro n x hx
    rcases List.mem_cons.mp hx with rfl | hx
    · first | exact .inl rfl | exact .inr ⟨rfl, rfl⟩
    rcases List.mem_cons.mp hx with rfl | hx
    · first | exact .inl rfl | exact .inr ⟨rfl, rfl⟩
    rcases List.mem_cons.mp hx with rfl | hx
    · first | exact .inl rfl | exact .inr ⟨rfl, rfl⟩
    cases hx
  nodup := by decide +kernel
noncomputable def f81 : { fd : FuncData // FnAtK 81 fd } := ⟨_, fun P => ⟨_, _, _, rfl⟩⟩
noncomputable def b81 : { b : List Stmt // BodyIs f81.1 b } := ⟨_, rfl⟩
theorem fn81 {D : Wd} (pf : PF D) : FnOk D 81 f81.1 ["self", "prior"] b81.1 where
  at_ := by obtain ⟨P, hK⟩ := pf.K; rw [hK]; exact f81.2 P
  code := by obtain ⟨P, hK⟩ := pf.K; rw [hK]; kernel_rfl
  body := b81.2
  glob := rfl
  blt := rfl
  clo := rfl
  kind := rfl
  co := rfl
  gen := rfl
  bind := fun vs h => by
    obtain ⟨a0, r0, rfl, h0⟩ := len_succ (n := 1) h
    obtain ⟨a1, r1, rfl, h1⟩ := len_succ (n := 0) h0
    obtain rfl := len_zero h1
    rfl
  kinds := by
    intro n x hx
    rcases List.mem_cons.mp hx with rfl | hx
    · first | exact .inl rfl | exact .inr ⟨rfl, rfl⟩
    rcases List.mem_cons.mp hx with rfl | hx
    · first | exact .inl rfl | exact .inr ⟨rfl, rfl⟩
    cases hx
  nodup := by decide +kernel
noncomputable def f88 : { fd : FuncData // FnAtK 88 fd } := ⟨_, fun P => ⟨_, _, _, rfl⟩⟩
noncomputable def b88 : { b : List Stmt // BodyIs f88.1 b } := ⟨_, rfl⟩
theorem fn88 {D : Wd} (pf : PF D) : FnOk D 88 f88.1 ["self", "number", "used"] b88.1 where
  at_ := by obtain ⟨P, hK⟩ := pf.K; rw [hK]; exact f88.2 P
  code := by obtain ⟨P, hK⟩ := pf.K; rw [hK]; kernel_rfl
  body := b88.2
  glob := rfl
  blt := rfl
  clo := rfl
  kind := rfl
  co := rfl
  gen := rfl
  bind := fun vs h => by
    obtain ⟨a0, r0, rfl, h0⟩ := len_succ (n := 2) h
    obtain ⟨a1, r1, rfl, h1⟩ := len_succ (n := 1) h0
    obtain ⟨a2, r2, rfl, h2⟩ := len_succ (n := 0) h1
    obtain rfl := len_zero h2
    rfl
  kinds := by
    intro n x hx
    rcases List.mem_cons.mp hx with rfl | hx
    · first | exact .inl rfl | exact .inr ⟨rfl, rfl⟩
    rcases List.mem_cons.mp hx with rfl | hx
    · first | exact .inl rfl | exact .inr ⟨rfl, rfl⟩
    rcases List.mem_cons.mp hx with rfl | hx
    · first | exact .inl rfl | exact .inr ⟨rfl, rfl⟩
    cases hx
  nodup := by decide +kernel
noncomputable def f95 : { fd : FuncData // FnAtK 95 fd } := ⟨_, fun P => ⟨_, _, _, rfl⟩⟩
noncomputable def b95 : { b : List Stmt // BodyIs f95.1 b } := ⟨_, rfl⟩
theorem fn95 {D : Wd} (pf : PF D) : FnOk D 95 f95.1 ["self", "cid"] b95.1 where
  at_ := by obtain ⟨P, hK⟩ := pf.K; rw [hK]; exact f95.2 P
  code := by obtain ⟨P, hK⟩ := pf.K; rw [hK]; kernel_rfl
  body := b95.2
  glob := rfl
  blt := rfl
  clo := rfl
  kind := rfl
  co := rfl
  gen := rfl
  bind := fun vs h => by
    obtain ⟨a0, r0, rfl, h0⟩ := len_succ (n := 1) h
    obtain ⟨a1, r1, rfl, h1⟩ := len_succ (n := 0) h0
    obtain rfl := len_zero h1
    rfl
  kinds := by
    intro n x hx
    rcases List.mem_cons.mp hx with rfl | hx
    · first | exact .inl rfl | exact .inr ⟨rfl, rfl⟩
    rcases List.mem_cons.mp hx with rfl | hx
    · first | exact .inl rfl | exact .inr ⟨rfl, rfl⟩
    cases hx
  nodup := by decide +kernel
noncomputable def f116 : { fd : FuncData // FnAtK 116 fd } := ⟨_, fun P => ⟨_, _, _, rfl⟩⟩
noncomputable def b116 : { b : List Stmt // BodyIs f116.1 b } := ⟨_, rfl⟩
theorem fn116 {D : Wd} (pf : PF D) : FnOk D 116 f116.1 ["self", "first", "token", "limit"] b116.1 where
  at_ := by obtain ⟨P, hK⟩ := pf.K; rw [hK]; exact f116.2 P
  code := by obtain ⟨P, hK⟩ := pf.K; rw [hK]; kernel_rfl
  body := b116.2
  glob := rfl
  blt := rfl
  clo := rfl
  kind := rfl
  co := rfl
  gen := rfl
  bind := fun vs h => by
    obtain ⟨a0, r0, rfl, h0⟩ := len_succ (n := 3) h
    obtain ⟨a1, r1, rfl, h1⟩ := len_succ (n := 2) h0
    obtain ⟨a2, r2, rfl, h2⟩ := len_succ (n := 1) h1
    obtain ⟨a3, r3, rfl, h3⟩ := len_succ (n := 0) h2
    obtain rfl := len_zero h3
    rfl
  kinds := by
    intro n x hx
    rcases List.mem_cons.mp hx with rfl | hx
    · first | exact .inl rfl | exact .inr ⟨rfl, rfl⟩
    rcases List.mem_cons.mp hx with rfl | hx
    · first | exact .inl rfl | exact .inr ⟨rfl, rfl⟩
    rcases List.mem_cons.mp hx with rfl | hx
    · first | exact .inl rfl | exact .inr ⟨rfl, rfl⟩
    rcases List.mem_cons.mp hx with rfl | hx
    · first | exact .inl rfl | exact .inr ⟨rfl, rfl⟩
    cases hx
  nodup := by decide +kernel
noncomputable def f130 : { fd : FuncData // FnAtK 130 fd } := ⟨_, fun P => ⟨_, _, _, rfl⟩⟩
noncomputable def b130 : { b : List Stmt // BodyIs f130.1 b } := ⟨_, rfl⟩
theorem fn130 {D : Wd} (pf : PF D) : FnOk D 130 f130.1 ["self", "number", "cid", "token"] b130.1 where
  at_ := by obtain ⟨P, hK⟩ := pf.K; rw [hK]; exact f130.2 P
  code := by obtain ⟨P, hK⟩ := pf.K; rw [hK]; kernel_rfl
  body := b130.2
  glob := rfl
  blt := rfl
  clo := rfl
  kind := rfl
  co := rfl
  gen := rfl
  bind := fun vs h => by
    obtain ⟨a0, r0, rfl, h0⟩ := len_succ (n := 3) h
    obtain ⟨a1, r1, rfl, h1⟩ := len_succ (n := 2) h0
    obtain ⟨a2, r2, rfl, h2⟩ := len_succ (n := 1) h1
    obtain ⟨a3, r3, rfl, h3⟩ := len_succ (n := 0) h2
    obtain rfl := len_zero h3
    rfl
  kinds := by
    intro n x hx
    rcases List.mem_cons.mp hx with rfl | hx
    · first | exact .inl rfl | exact .inr ⟨rfl, rfl⟩
    rcases List.mem_cons.mp hx with rfl | hx
    · first | exact .inl rfl | exact .inr ⟨rfl, rfl⟩
    rcases List.mem_cons.mp hx with rfl | hx
    · first | exact .inl rfl | exact .inr ⟨rfl, rfl⟩
    rcases List.mem_cons.mp hx with rfl | hx
    · first | exact .inl rfl | exact .inr ⟨rfl, rfl⟩
    cases hx
  nodup := by decide +kernel
noncomputable def f137 : { fd : FuncData // FnAtK 137 fd } := ⟨_, fun P => ⟨_, _, _, rfl⟩⟩
noncomputable def b137 : { b : List Stmt // BodyIs f137.1 b } := ⟨_, rfl⟩
theorem fn137 {D : Wd} (pf : PF D) : FnOk D 137 f137.1 ["self", "number", "prior", "cid", "token"] b137.1 where
  at_ := by obtain ⟨P, hK⟩ := pf.K; rw [hK]; exact f137.2 P
  code := by obtain ⟨P, hK⟩ := pf.K; rw [hK]; kernel_rfl
  body := b137.2
  glob := rfl
  blt := rfl
  clo := rfl
  kind := rfl
  co := rfl
  gen := rfl
  bind := fun vs h => by
    obtain ⟨a0, r0, rfl, h0⟩ := len_succ (n := 4) h
    obtain ⟨a1, r1, rfl, h1⟩ := len_succ (n := 3) h0
    obtain ⟨a2, r2, rfl, h2⟩ := len_succ (n := 2) h1
    obtain ⟨a3, r3, rfl, h3⟩ := len_succ (n := 1) h2
    obtain ⟨a4, r4, rfl, h4⟩ := len_succ (n := 0) h3
    obtain rfl := len_zero h4
    rfl
  kinds := by
    intro n x hx
    rcases List.mem_cons.mp hx with rfl | hx
    · first | exact .inl rfl | exact .inr ⟨rfl, rfl⟩
    rcases List.mem_cons.mp hx with rfl | hx
    · first | exact .inl rfl | exact .inr ⟨rfl, rfl⟩
    rcases List.mem_cons.mp hx with rfl | hx
    · first | exact .inl rfl | exact .inr ⟨rfl, rfl⟩
    rcases List.mem_cons.mp hx with rfl | hx
    · first | exact .inl rfl | exact .inr ⟨rfl, rfl⟩
    rcases List.mem_cons.mp hx with rfl | hx
    · first | exact .inl rfl | exact .inr ⟨rfl, rfl⟩
    cases hx
  nodup := by decide +kernel
noncomputable def f144 : { fd : FuncData // FnAtK 144 fd } := ⟨_, fun P => ⟨_, _, _, rfl⟩⟩
noncomputable def b144 : { b : List Stmt // BodyIs f144.1 b } := ⟨_, rfl⟩
theorem fn144 {D : Wd} (pf : PF D) : FnOk D 144 f144.1 ["self", "prior"] b144.1 where
  at_ := by obtain ⟨P, hK⟩ := pf.K; rw [hK]; exact f144.2 P
  code := by obtain ⟨P, hK⟩ := pf.K; rw [hK]; kernel_rfl
  body := b144.2
  glob := rfl
  blt := rfl
  clo := rfl
  kind := rfl
  co := rfl
  gen := rfl
  bind := fun vs h => by
    obtain ⟨a0, r0, rfl, h0⟩ := len_succ (n := 1) h
    obtain ⟨a1, r1, rfl, h1⟩ := len_succ (n := 0) h0
    obtain rfl := len_zero h1
    rfl
  kinds := by
    intro n x hx
    rcases List.mem_cons.mp hx with rfl | hx
    · first | exact .inl rfl | exact .inr ⟨rfl, rfl⟩
    rcases List.mem_cons.mp hx with rfl | hx
    · first | exact .inl rfl | exact .inr ⟨rfl, rfl⟩
    cases hx
  nodup := by decide +kernel
noncomputable def f151 : { fd : FuncData // FnAtK 151 fd } := ⟨_, fun P => ⟨_, _, _, rfl⟩⟩
noncomputable def b151 : { b : List Stmt // BodyIs f151.1 b } := ⟨_, rfl⟩
theorem fn151 {D : Wd} (pf : PF D) : FnOk D 151 f151.1 ["self", "number"] b151.1 where
  at_ := by obtain ⟨P, hK⟩ := pf.K; rw [hK]; exact f151.2 P
  code := by obtain ⟨P, hK⟩ := pf.K; rw [hK]; kernel_rfl
  body := b151.2
  glob := rfl
  blt := rfl
  clo := rfl
  kind := rfl
  co := rfl
  gen := rfl
  bind := fun vs h => by
    obtain ⟨a0, r0, rfl, h0⟩ := len_succ (n := 1) h
    obtain ⟨a1, r1, rfl, h1⟩ := len_succ (n := 0) h0
    obtain rfl := len_zero h1
    rfl
  kinds := by
    intro n x hx
    rcases List.mem_cons.mp hx with rfl | hx
    · first | exact .inl rfl | exact .inr ⟨rfl, rfl⟩
    rcases List.mem_cons.mp hx with rfl | hx
    · first | exact .inl rfl | exact .inr ⟨rfl, rfl⟩
    cases hx
  nodup := by decide +kernel
noncomputable def f158 : { fd : FuncData // FnAtK 158 fd } := ⟨_, fun P => ⟨_, _, _, rfl⟩⟩
noncomputable def b158 : { b : List Stmt // BodyIs f158.1 b } := ⟨_, rfl⟩
theorem fn158 {D : Wd} (pf : PF D) : FnOk D 158 f158.1 ["self", "number"] b158.1 where
  at_ := by obtain ⟨P, hK⟩ := pf.K; rw [hK]; exact f158.2 P
  code := by obtain ⟨P, hK⟩ := pf.K; rw [hK]; kernel_rfl
  body := b158.2
  glob := rfl
  blt := rfl
  clo := rfl
  kind := rfl
  co := rfl
  gen := rfl
  bind := fun vs h => by
    obtain ⟨a0, r0, rfl, h0⟩ := len_succ (n := 1) h
    obtain ⟨a1, r1, rfl, h1⟩ := len_succ (n := 0) h0
    obtain rfl := len_zero h1
    rfl
  kinds := by
    intro n x hx
    rcases List.mem_cons.mp hx with rfl | hx
    · first | exact .inl rfl | exact .inr ⟨rfl, rfl⟩
    rcases List.mem_cons.mp hx with rfl | hx
    · first | exact .inl rfl | exact .inr ⟨rfl, rfl⟩
    cases hx
  nodup := by decide +kernel
noncomputable def f165 : { fd : FuncData // FnAtK 165 fd } := ⟨_, fun P => ⟨_, _, _, rfl⟩⟩
noncomputable def b165 : { b : List Stmt // BodyIs f165.1 b } := ⟨_, rfl⟩
theorem fn165 {D : Wd} (pf : PF D) : FnOk D 165 f165.1 ["self"] b165.1 where
  at_ := by obtain ⟨P, hK⟩ := pf.K; rw [hK]; exact f165.2 P
  code := by obtain ⟨P, hK⟩ := pf.K; rw [hK]; kernel_rfl
  body := b165.2
  glob := rfl
  blt := rfl
  clo := rfl
  kind := rfl
  co := rfl
  gen := rfl
  bind := fun vs h => by
    obtain ⟨a0, r0, rfl, h0⟩ := len_succ (n := 0) h
    obtain rfl := len_zero h0
    rfl
  kinds := by
    intro n x hx
    rcases List.mem_cons.mp hx with rfl | hx
    · first | exact .inl rfl | exact .inr ⟨rfl, rfl⟩
    cases hx
  nodup := by decide +kernel
noncomputable def f170 : { fd : FuncData // FnAtK 170 fd } := ⟨_, fun P => ⟨_, _, _, rfl⟩⟩
noncomputable def b170 : { b : List Stmt // BodyIs f170.1 b } := ⟨_, rfl⟩
theorem fn170 {D : Wd} (pf : PF D) : FnOk D 170 f170.1 ["self"] b170.1 where
  at_ := by obtain ⟨P, hK⟩ := pf.K; rw [hK]; exact f170.2 P
  code := by obtain ⟨P, hK⟩ := pf.K; rw [hK]; kernel_rfl
  body := b170.2
  glob := rfl
  blt := rfl
  clo := rfl
  kind := rfl
  co := rfl
  gen := rfl
  bind := fun vs h => by
    obtain ⟨a0, r0, rfl, h0⟩ := len_succ (n := 0) h
    obtain rfl := len_zero h0
    rfl
  kinds := by
    intro n x hx
    rcases List.mem_cons.mp hx with rfl | hx
    · first | exact .inl rfl | exact .inr ⟨rfl, rfl⟩
    cases hx
  nodup := by decide +kernel
noncomputable def f177 : { fd : FuncData // FnAtK 177 fd } := ⟨_, fun P => ⟨_, _, _, rfl⟩⟩
noncomputable def b177 : { b : List Stmt // BodyIs f177.1 b } := ⟨_, rfl⟩
theorem fn177 {D : Wd} (pf : PF D) : FnOk D 177 f177.1 ["self"] b177.1 where
  at_ := by obtain ⟨P, hK⟩ := pf.K; rw [hK]; exact f177.2 P
  code := by obtain ⟨P, hK⟩ := pf.K; rw [hK]; kernel_rfl
  body := b177.2
  glob := rfl
  blt := rfl
  clo := rfl
  kind := rfl
  co := rfl
  gen := rfl
  bind := fun vs h => by
    obtain ⟨a0, r0, rfl, h0⟩ := len_succ (n := 0) h
    obtain rfl := len_zero h0
    rfl
  kinds := by
    intro n x hx
    rcases List.mem_cons.mp hx with rfl | hx
    · first | exact .inl rfl | exact .inr ⟨rfl, rfl⟩
    cases hx
  nodup := by decide +kernel
noncomputable def f182 : { fd : FuncData // FnAtK 182 fd } := ⟨_, fun P => ⟨_, _, _, rfl⟩⟩
noncomputable def b182 : { b : List Stmt // BodyIs f182.1 b } := ⟨_, rfl⟩
theorem fn182 {D : Wd} (pf : PF D) : FnOk D 182 f182.1 ["self"] b182.1 where
  at_ := by obtain ⟨P, hK⟩ := pf.K; rw [hK]; exact f182.2 P
  code := by obtain ⟨P, hK⟩ := pf.K; rw [hK]; kernel_rfl
  body := b182.2
  glob := rfl
  blt := rfl
  clo := rfl
  kind := rfl
  co := rfl
  gen := rfl
  bind := fun vs h => by
    obtain ⟨a0, r0, rfl, h0⟩ := len_succ (n := 0) h
    obtain rfl := len_zero h0
    rfl
  kinds := by
    intro n x hx
    rcases List.mem_cons.mp hx with rfl | hx
    · first | exact .inl rfl | exact .inr ⟨rfl, rfl⟩
    cases hx
  nodup := by decide +kernel
noncomputable def f203 : { fd : FuncData // FnAtK 203 fd } := ⟨_, fun P => ⟨_, _, _, rfl⟩⟩
noncomputable def b203 : { b : List Stmt // BodyIs f203.1 b } := ⟨_, rfl⟩
theorem fn203 {D : Wd} (pf : PF D) : FnOk D 203 f203.1 ["work"] b203.1 where
  at_ := by obtain ⟨P, hK⟩ := pf.K; rw [hK]; exact f203.2 P
  code := by obtain ⟨P, hK⟩ := pf.K; rw [hK]; kernel_rfl
  body := b203.2
  glob := rfl
  blt := rfl
  clo := rfl
  kind := rfl
  co := rfl
  gen := rfl
  bind := fun vs h => by
    obtain ⟨a0, r0, rfl, h0⟩ := len_succ (n := 0) h
    obtain rfl := len_zero h0
    rfl
  kinds := by
    intro n x hx
    rcases List.mem_cons.mp hx with rfl | hx
    · first | exact .inl rfl | exact .inr ⟨rfl, rfl⟩
    cases hx
  nodup := by decide +kernel
noncomputable def f210 : { fd : FuncData // FnAtK 210 fd } := ⟨_, fun P => ⟨_, _, _, rfl⟩⟩
noncomputable def b210 : { b : List Stmt // BodyIs f210.1 b } := ⟨_, rfl⟩
theorem fn210 {D : Wd} (pf : PF D) : FnOk D 210 f210.1 ["number"] b210.1 where
  at_ := by obtain ⟨P, hK⟩ := pf.K; rw [hK]; exact f210.2 P
  code := by obtain ⟨P, hK⟩ := pf.K; rw [hK]; kernel_rfl
  body := b210.2
  glob := rfl
  blt := rfl
  clo := rfl
  kind := rfl
  co := rfl
  gen := rfl
  bind := fun vs h => by
    obtain ⟨a0, r0, rfl, h0⟩ := len_succ (n := 0) h
    obtain rfl := len_zero h0
    rfl
  kinds := by
    intro n x hx
    rcases List.mem_cons.mp hx with rfl | hx
    · first | exact .inl rfl | exact .inr ⟨rfl, rfl⟩
    cases hx
  nodup := by decide +kernel
noncomputable def f217 : { fd : FuncData // FnAtK 217 fd } := ⟨_, fun P => ⟨_, _, _, rfl⟩⟩
noncomputable def b217 : { b : List Stmt // BodyIs f217.1 b } := ⟨_, rfl⟩
theorem fn217 {D : Wd} (pf : PF D) : FnOk D 217 f217.1 ["issuer", "user"] b217.1 where
  at_ := by obtain ⟨P, hK⟩ := pf.K; rw [hK]; exact f217.2 P
  code := by obtain ⟨P, hK⟩ := pf.K; rw [hK]; kernel_rfl
  body := b217.2
  glob := rfl
  blt := rfl
  clo := rfl
  kind := rfl
  co := rfl
  gen := rfl
  bind := fun vs h => by
    obtain ⟨a0, r0, rfl, h0⟩ := len_succ (n := 1) h
    obtain ⟨a1, r1, rfl, h1⟩ := len_succ (n := 0) h0
    obtain rfl := len_zero h1
    rfl
  kinds := by
    intro n x hx
    rcases List.mem_cons.mp hx with rfl | hx
    · first | exact .inl rfl | exact .inr ⟨rfl, rfl⟩
    rcases List.mem_cons.mp hx with rfl | hx
    · first | exact .inl rfl | exact .inr ⟨rfl, rfl⟩
    cases hx
  nodup := by decide +kernel
noncomputable def f222 : { fd : FuncData // FnAtK 222 fd } := ⟨_, fun P => ⟨_, _, _, rfl⟩⟩
noncomputable def b222 : { b : List Stmt // BodyIs f222.1 b } := ⟨_, rfl⟩
theorem fn222 {D : Wd} (pf : PF D) : FnOk D 222 f222.1 ["issuer", "user", "mine", "has", "asked"] b222.1 where
  at_ := by obtain ⟨P, hK⟩ := pf.K; rw [hK]; exact f222.2 P
  code := by obtain ⟨P, hK⟩ := pf.K; rw [hK]; kernel_rfl
  body := b222.2
  glob := rfl
  blt := rfl
  clo := rfl
  kind := rfl
  co := rfl
  gen := rfl
  bind := fun vs h => by
    obtain ⟨a0, r0, rfl, h0⟩ := len_succ (n := 4) h
    obtain ⟨a1, r1, rfl, h1⟩ := len_succ (n := 3) h0
    obtain ⟨a2, r2, rfl, h2⟩ := len_succ (n := 2) h1
    obtain ⟨a3, r3, rfl, h3⟩ := len_succ (n := 1) h2
    obtain ⟨a4, r4, rfl, h4⟩ := len_succ (n := 0) h3
    obtain rfl := len_zero h4
    rfl
  kinds := by
    intro n x hx
    rcases List.mem_cons.mp hx with rfl | hx
    · first | exact .inl rfl | exact .inr ⟨rfl, rfl⟩
    rcases List.mem_cons.mp hx with rfl | hx
    · first | exact .inl rfl | exact .inr ⟨rfl, rfl⟩
    rcases List.mem_cons.mp hx with rfl | hx
    · first | exact .inl rfl | exact .inr ⟨rfl, rfl⟩
    rcases List.mem_cons.mp hx with rfl | hx
    · first | exact .inl rfl | exact .inr ⟨rfl, rfl⟩
    rcases List.mem_cons.mp hx with rfl | hx
    · first | exact .inl rfl | exact .inr ⟨rfl, rfl⟩
    cases hx
  nodup := by decide +kernel
theorem sa98_limit {D : Wd} (pf : PF D) : SA D 98 "limit" := by
  obtain ⟨P, hK⟩ := pf.K
  exact ⟨by rw [hK]; kernel_rfl, by rw [hK]; kernel_rfl, by rw [hK]; kernel_rfl⟩
theorem ss98_limit {D : Wd} (pf : PF D) : SS D 98 "limit" := by
  obtain ⟨P, hK⟩ := pf.K
  exact ⟨by rw [hK]; kernel_rfl, by rw [hK]; kernel_rfl, by rw [hK]; kernel_rfl, by rw [hK]; kernel_rfl⟩
theorem sa98_issued {D : Wd} (pf : PF D) : SA D 98 "issued" := by
  obtain ⟨P, hK⟩ := pf.K
  exact ⟨by rw [hK]; kernel_rfl, by rw [hK]; kernel_rfl, by rw [hK]; kernel_rfl⟩
theorem ss98_issued {D : Wd} (pf : PF D) : SS D 98 "issued" := by
  obtain ⟨P, hK⟩ := pf.K
  exact ⟨by rw [hK]; kernel_rfl, by rw [hK]; kernel_rfl, by rw [hK]; kernel_rfl, by rw [hK]; kernel_rfl⟩
theorem sa98_next_sequence {D : Wd} (pf : PF D) : SA D 98 "next_sequence" := by
  obtain ⟨P, hK⟩ := pf.K
  exact ⟨by rw [hK]; kernel_rfl, by rw [hK]; kernel_rfl, by rw [hK]; kernel_rfl⟩
theorem ss98_next_sequence {D : Wd} (pf : PF D) : SS D 98 "next_sequence" := by
  obtain ⟨P, hK⟩ := pf.K
  exact ⟨by rw [hK]; kernel_rfl, by rw [hK]; kernel_rfl, by rw [hK]; kernel_rfl, by rw [hK]; kernel_rfl⟩
theorem sa98_retire_prior {D : Wd} (pf : PF D) : SA D 98 "retire_prior" := by
  obtain ⟨P, hK⟩ := pf.K
  exact ⟨by rw [hK]; kernel_rfl, by rw [hK]; kernel_rfl, by rw [hK]; kernel_rfl⟩
theorem ss98_retire_prior {D : Wd} (pf : PF D) : SS D 98 "retire_prior" := by
  obtain ⟨P, hK⟩ := pf.K
  exact ⟨by rw [hK]; kernel_rfl, by rw [hK]; kernel_rfl, by rw [hK]; kernel_rfl, by rw [hK]; kernel_rfl⟩
theorem sa98_is_empty {D : Wd} (pf : PF D) : SA D 98 "is_empty" := by
  obtain ⟨P, hK⟩ := pf.K
  exact ⟨by rw [hK]; kernel_rfl, by rw [hK]; kernel_rfl, by rw [hK]; kernel_rfl⟩
theorem ss98_is_empty {D : Wd} (pf : PF D) : SS D 98 "is_empty" := by
  obtain ⟨P, hK⟩ := pf.K
  exact ⟨by rw [hK]; kernel_rfl, by rw [hK]; kernel_rfl, by rw [hK]; kernel_rfl, by rw [hK]; kernel_rfl⟩
theorem sa192_limit {D : Wd} (pf : PF D) : SA D 192 "limit" := by
  obtain ⟨P, hK⟩ := pf.K
  exact ⟨by rw [hK]; kernel_rfl, by rw [hK]; kernel_rfl, by rw [hK]; kernel_rfl⟩
theorem ss192_limit {D : Wd} (pf : PF D) : SS D 192 "limit" := by
  obtain ⟨P, hK⟩ := pf.K
  exact ⟨by rw [hK]; kernel_rfl, by rw [hK]; kernel_rfl, by rw [hK]; kernel_rfl, by rw [hK]; kernel_rfl⟩
theorem sa192_known {D : Wd} (pf : PF D) : SA D 192 "known" := by
  obtain ⟨P, hK⟩ := pf.K
  exact ⟨by rw [hK]; kernel_rfl, by rw [hK]; kernel_rfl, by rw [hK]; kernel_rfl⟩
theorem ss192_known {D : Wd} (pf : PF D) : SS D 192 "known" := by
  obtain ⟨P, hK⟩ := pf.K
  exact ⟨by rw [hK]; kernel_rfl, by rw [hK]; kernel_rfl, by rw [hK]; kernel_rfl, by rw [hK]; kernel_rfl⟩
theorem sa192_current {D : Wd} (pf : PF D) : SA D 192 "current" := by
  obtain ⟨P, hK⟩ := pf.K
  exact ⟨by rw [hK]; kernel_rfl, by rw [hK]; kernel_rfl, by rw [hK]; kernel_rfl⟩
theorem ss192_current {D : Wd} (pf : PF D) : SS D 192 "current" := by
  obtain ⟨P, hK⟩ := pf.K
  exact ⟨by rw [hK]; kernel_rfl, by rw [hK]; kernel_rfl, by rw [hK]; kernel_rfl, by rw [hK]; kernel_rfl⟩
theorem sa192_used {D : Wd} (pf : PF D) : SA D 192 "used" := by
  obtain ⟨P, hK⟩ := pf.K
  exact ⟨by rw [hK]; kernel_rfl, by rw [hK]; kernel_rfl, by rw [hK]; kernel_rfl⟩
theorem ss192_used {D : Wd} (pf : PF D) : SS D 192 "used" := by
  obtain ⟨P, hK⟩ := pf.K
  exact ⟨by rw [hK]; kernel_rfl, by rw [hK]; kernel_rfl, by rw [hK]; kernel_rfl, by rw [hK]; kernel_rfl⟩
theorem sa192_retire_prior {D : Wd} (pf : PF D) : SA D 192 "retire_prior" := by
  obtain ⟨P, hK⟩ := pf.K
  exact ⟨by rw [hK]; kernel_rfl, by rw [hK]; kernel_rfl, by rw [hK]; kernel_rfl⟩
theorem ss192_retire_prior {D : Wd} (pf : PF D) : SS D 192 "retire_prior" := by
  obtain ⟨P, hK⟩ := pf.K
  exact ⟨by rw [hK]; kernel_rfl, by rw [hK]; kernel_rfl, by rw [hK]; kernel_rfl, by rw [hK]; kernel_rfl⟩
theorem sa192_told {D : Wd} (pf : PF D) : SA D 192 "told" := by
  obtain ⟨P, hK⟩ := pf.K
  exact ⟨by rw [hK]; kernel_rfl, by rw [hK]; kernel_rfl, by rw [hK]; kernel_rfl⟩
theorem ss192_told {D : Wd} (pf : PF D) : SS D 192 "told" := by
  obtain ⟨P, hK⟩ := pf.K
  exact ⟨by rw [hK]; kernel_rfl, by rw [hK]; kernel_rfl, by rw [hK]; kernel_rfl, by rw [hK]; kernel_rfl⟩
theorem sa192_to_retire {D : Wd} (pf : PF D) : SA D 192 "to_retire" := by
  obtain ⟨P, hK⟩ := pf.K
  exact ⟨by rw [hK]; kernel_rfl, by rw [hK]; kernel_rfl, by rw [hK]; kernel_rfl⟩
theorem ss192_to_retire {D : Wd} (pf : PF D) : SS D 192 "to_retire" := by
  obtain ⟨P, hK⟩ := pf.K
  exact ⟨by rw [hK]; kernel_rfl, by rw [hK]; kernel_rfl, by rw [hK]; kernel_rfl, by rw [hK]; kernel_rfl⟩
theorem sa192_is_empty {D : Wd} (pf : PF D) : SA D 192 "is_empty" := by
  obtain ⟨P, hK⟩ := pf.K
  exact ⟨by rw [hK]; kernel_rfl, by rw [hK]; kernel_rfl, by rw [hK]; kernel_rfl⟩
theorem ss192_is_empty {D : Wd} (pf : PF D) : SS D 192 "is_empty" := by
  obtain ⟨P, hK⟩ := pf.K
  exact ⟨by rw [hK]; kernel_rfl, by rw [hK]; kernel_rfl, by rw [hK]; kernel_rfl, by rw [hK]; kernel_rfl⟩
theorem mf98_kept_count {D : Wd} (pf : PF D) : MF D 98 "kept_count" 60 := by
  obtain ⟨P, hK⟩ := pf.K
  exact ⟨by rw [hK]; kernel_rfl, by rw [hK]; kernel_rfl, by rw [hK]; kernel_rfl, by rw [hK]; kernel_rfl⟩
theorem mf98_may_issue {D : Wd} (pf : PF D) : MF D 98 "may_issue" 67 := by
  obtain ⟨P, hK⟩ := pf.K
  exact ⟨by rw [hK]; kernel_rfl, by rw [hK]; kernel_rfl, by rw [hK]; kernel_rfl, by rw [hK]; kernel_rfl⟩
theorem mf98_issue {D : Wd} (pf : PF D) : MF D 98 "issue" 74 := by
  obtain ⟨P, hK⟩ := pf.K
  exact ⟨by rw [hK]; kernel_rfl, by rw [hK]; kernel_rfl, by rw [hK]; kernel_rfl, by rw [hK]; kernel_rfl⟩
theorem mf98_ask_to_retire {D : Wd} (pf : PF D) : MF D 98 "ask_to_retire" 81 := by
  obtain ⟨P, hK⟩ := pf.K
  exact ⟨by rw [hK]; kernel_rfl, by rw [hK]; kernel_rfl, by rw [hK]; kernel_rfl, by rw [hK]; kernel_rfl⟩
theorem mf98_on_retire {D : Wd} (pf : PF D) : MF D 98 "on_retire" 88 := by
  obtain ⟨P, hK⟩ := pf.K
  exact ⟨by rw [hK]; kernel_rfl, by rw [hK]; kernel_rfl, by rw [hK]; kernel_rfl, by rw [hK]; kernel_rfl⟩
theorem mf98_sequence_of {D : Wd} (pf : PF D) : MF D 98 "sequence_of" 95 := by
  obtain ⟨P, hK⟩ := pf.K
  exact ⟨by rw [hK]; kernel_rfl, by rw [hK]; kernel_rfl, by rw [hK]; kernel_rfl, by rw [hK]; kernel_rfl⟩
theorem mf192_check_new {D : Wd} (pf : PF D) : MF D 192 "check_new" 130 := by
  obtain ⟨P, hK⟩ := pf.K
  exact ⟨by rw [hK]; kernel_rfl, by rw [hK]; kernel_rfl, by rw [hK]; kernel_rfl, by rw [hK]; kernel_rfl⟩
theorem mf192_on_new {D : Wd} (pf : PF D) : MF D 192 "on_new" 137 := by
  obtain ⟨P, hK⟩ := pf.K
  exact ⟨by rw [hK]; kernel_rfl, by rw [hK]; kernel_rfl, by rw [hK]; kernel_rfl, by rw [hK]; kernel_rfl⟩
theorem mf192_retire_below {D : Wd} (pf : PF D) : MF D 192 "retire_below" 144 := by
  obtain ⟨P, hK⟩ := pf.K
  exact ⟨by rw [hK]; kernel_rfl, by rw [hK]; kernel_rfl, by rw [hK]; kernel_rfl, by rw [hK]; kernel_rfl⟩
theorem mf192_retire {D : Wd} (pf : PF D) : MF D 192 "retire" 151 := by
  obtain ⟨P, hK⟩ := pf.K
  exact ⟨by rw [hK]; kernel_rfl, by rw [hK]; kernel_rfl, by rw [hK]; kernel_rfl, by rw [hK]; kernel_rfl⟩
theorem mf192_use {D : Wd} (pf : PF D) : MF D 192 "use" 158 := by
  obtain ⟨P, hK⟩ := pf.K
  exact ⟨by rw [hK]; kernel_rfl, by rw [hK]; kernel_rfl, by rw [hK]; kernel_rfl, by rw [hK]; kernel_rfl⟩
theorem mf192_present {D : Wd} (pf : PF D) : MF D 192 "present" 165 := by
  obtain ⟨P, hK⟩ := pf.K
  exact ⟨by rw [hK]; kernel_rfl, by rw [hK]; kernel_rfl, by rw [hK]; kernel_rfl, by rw [hK]; kernel_rfl⟩
theorem mf192_fresh {D : Wd} (pf : PF D) : MF D 192 "fresh" 170 := by
  obtain ⟨P, hK⟩ := pf.K
  exact ⟨by rw [hK]; kernel_rfl, by rw [hK]; kernel_rfl, by rw [hK]; kernel_rfl, by rw [hK]; kernel_rfl⟩
theorem mf192_change {D : Wd} (pf : PF D) : MF D 192 "change" 177 := by
  obtain ⟨P, hK⟩ := pf.K
  exact ⟨by rw [hK]; kernel_rfl, by rw [hK]; kernel_rfl, by rw [hK]; kernel_rfl, by rw [hK]; kernel_rfl⟩
theorem mf192_frames {D : Wd} (pf : PF D) : MF D 192 "frames" 182 := by
  obtain ⟨P, hK⟩ := pf.K
  exact ⟨by rw [hK]; kernel_rfl, by rw [hK]; kernel_rfl, by rw [hK]; kernel_rfl, by rw [hK]; kernel_rfl⟩
theorem g_law_code {D : Wd} (pf : PF D) : nsIn D.K mainGlobals "_law_code" = some (some (.ref 203)) := by
  obtain ⟨P, hK⟩ := pf.K
  rw [hK]; kernel_rfl
theorem kp_law_code {D : Wd} (pf : PF D) : keepIn D.K (.ref 203) = true := by
  obtain ⟨P, hK⟩ := pf.K
  rw [hK]; kernel_rfl
theorem g_law_id {D : Wd} (pf : PF D) : nsIn D.K mainGlobals "_law_id" = some (some (.ref 210)) := by
  obtain ⟨P, hK⟩ := pf.K
  rw [hK]; kernel_rfl
theorem kp_law_id {D : Wd} (pf : PF D) : keepIn D.K (.ref 210) = true := by
  obtain ⟨P, hK⟩ := pf.K
  rw [hK]; kernel_rfl
theorem g_law_wrong_right {D : Wd} (pf : PF D) : nsIn D.K mainGlobals "_law_wrong_right" = some (some (.ref 217)) := by
  obtain ⟨P, hK⟩ := pf.K
  rw [hK]; kernel_rfl
theorem kp_law_wrong_right {D : Wd} (pf : PF D) : keepIn D.K (.ref 217) = true := by
  obtain ⟨P, hK⟩ := pf.K
  rw [hK]; kernel_rfl
theorem g_law_stands {D : Wd} (pf : PF D) : nsIn D.K mainGlobals "_law_stands" = some (some (.ref 222)) := by
  obtain ⟨P, hK⟩ := pf.K
  rw [hK]; kernel_rfl
theorem kp_law_stands {D : Wd} (pf : PF D) : keepIn D.K (.ref 222) = true := by
  obtain ⟨P, hK⟩ := pf.K
  rw [hK]; kernel_rfl
theorem gLocalIds {D : Wd} (pf : PF D) : nsIn D.K mainGlobals "LocalIds" = some (some (.ref 98)) := by
  obtain ⟨P, hK⟩ := pf.K
  rw [hK]; kernel_rfl
theorem kpLocalIds {D : Wd} (pf : PF D) : keepIn D.K (.ref 98) = true := by
  obtain ⟨P, hK⟩ := pf.K
  rw [hK]; kernel_rfl
theorem gRemoteIds {D : Wd} (pf : PF D) : nsIn D.K mainGlobals "RemoteIds" = some (some (.ref 192)) := by
  obtain ⟨P, hK⟩ := pf.K
  rw [hK]; kernel_rfl
theorem kpRemoteIds {D : Wd} (pf : PF D) : keepIn D.K (.ref 192) = true := by
  obtain ⟨P, hK⟩ := pf.K
  rw [hK]; kernel_rfl
theorem gQuicError {D : Wd} (pf : PF D) : nsIn D.K mainGlobals "QuicError" = some (some (.ref quicErr)) := by
  obtain ⟨P, hK⟩ := pf.K
  rw [hK]; kernel_rfl
theorem kpQuicError {D : Wd} (pf : PF D) : keepIn D.K (.ref quicErr) = true := by
  obtain ⟨P, hK⟩ := pf.K
  rw [hK]; kernel_rfl
theorem gCONNECTION_ID_LIMIT_ERROR {D : Wd} (pf : PF D) : ∃ t, nsIn D.K mainGlobals "CONNECTION_ID_LIMIT_ERROR" = some (some (.int 9 t)) := by
  obtain ⟨P, hK⟩ := pf.K
  rw [hK]; exact ⟨_, rfl⟩
theorem gPROTOCOL_VIOLATION {D : Wd} (pf : PF D) : ∃ t, nsIn D.K mainGlobals "PROTOCOL_VIOLATION" = some (some (.int 10 t)) := by
  obtain ⟨P, hK⟩ := pf.K
  rw [hK]; exact ⟨_, rfl⟩
theorem gFRAME_NEW {D : Wd} (pf : PF D) : ∃ t, nsIn D.K mainGlobals "FRAME_NEW" = some (some (.int 24 t)) := by
  obtain ⟨P, hK⟩ := pf.K
  rw [hK]; exact ⟨_, rfl⟩
theorem gFRAME_RETIRE {D : Wd} (pf : PF D) : ∃ t, nsIn D.K mainGlobals "FRAME_RETIRE" = some (some (.int 25 t)) := by
  obtain ⟨P, hK⟩ := pf.K
  rw [hK]; exact ⟨_, rfl⟩
theorem glen {D : Wd} (pf : PF D) : nsIn D.K mainGlobals "len" = some none := by
  obtain ⟨P, hK⟩ := pf.K
  rw [hK]; kernel_rfl
theorem vlen : bootBuiltins "len" = some (.builtin "len") := by kernel_rfl
theorem gmax {D : Wd} (pf : PF D) : nsIn D.K mainGlobals "max" = some none := by
  obtain ⟨P, hK⟩ := pf.K
  rw [hK]; kernel_rfl
theorem vmax : bootBuiltins "max" = some (.builtin "max") := by kernel_rfl
theorem gmin {D : Wd} (pf : PF D) : nsIn D.K mainGlobals "min" = some none := by
  obtain ⟨P, hK⟩ := pf.K
  rw [hK]; kernel_rfl
theorem vmin : bootBuiltins "min" = some (.builtin "min") := by kernel_rfl
theorem gsorted {D : Wd} (pf : PF D) : nsIn D.K mainGlobals "sorted" = some none := by
  obtain ⟨P, hK⟩ := pf.K
  rw [hK]; kernel_rfl
theorem vsorted : bootBuiltins "sorted" = some (.builtin "sorted") := by kernel_rfl
theorem gabs {D : Wd} (pf : PF D) : nsIn D.K mainGlobals "abs" = some none := by
  obtain ⟨P, hK⟩ := pf.K
  rw [hK]; kernel_rfl
theorem vabs : bootBuiltins "abs" = some (.builtin "abs") := by kernel_rfl
theorem gdict {D : Wd} (pf : PF D) : nsIn D.K mainGlobals "dict" = some none := by
  obtain ⟨P, hK⟩ := pf.K
  rw [hK]; kernel_rfl
theorem vdict : bootBuiltins "dict" = some (.type "dict") := by kernel_rfl
theorem glist {D : Wd} (pf : PF D) : nsIn D.K mainGlobals "list" = some none := by
  obtain ⟨P, hK⟩ := pf.K
  rw [hK]; kernel_rfl
theorem vlist : bootBuiltins "list" = some (.type "list") := by kernel_rfl
theorem gbytes {D : Wd} (pf : PF D) : nsIn D.K mainGlobals "bytes" = some none := by
  obtain ⟨P, hK⟩ := pf.K
  rw [hK]; kernel_rfl
theorem vbytes : bootBuiltins "bytes" = some (.type "bytes") := by kernel_rfl
theorem gstr {D : Wd} (pf : PF D) : nsIn D.K mainGlobals "str" = some none := by
  obtain ⟨P, hK⟩ := pf.K
  rw [hK]; kernel_rfl
theorem vstr : bootBuiltins "str" = some (.type "str") := by kernel_rfl
theorem gException {D : Wd} (pf : PF D) : nsIn D.K mainGlobals "Exception" = some none := by
  obtain ⟨P, hK⟩ := pf.K
  rw [hK]; kernel_rfl
theorem vException : bootBuiltins "Exception" = some (.type "Exception") := by kernel_rfl
theorem xf98 {D : Wd} (pf : PF D) : makesIn D.K 98 = true ∧ findIn D.K (.ref 98) "__init__" = some (some (.ref 55)) ∧ isFn D.K (.ref 55) = true := by
  obtain ⟨P, hK⟩ := pf.K
  exact ⟨by rw [hK]; kernel_rfl, by rw [hK]; kernel_rfl, by rw [hK]; kernel_rfl⟩
theorem xf192 {D : Wd} (pf : PF D) : makesIn D.K 192 = true ∧ findIn D.K (.ref 192) "__init__" = some (some (.ref 116)) ∧ isFn D.K (.ref 116) = true := by
  obtain ⟨P, hK⟩ := pf.K
  exact ⟨by rw [hK]; kernel_rfl, by rw [hK]; kernel_rfl, by rw [hK]; kernel_rfl⟩
end Mine

namespace Mine
open PySem PySem.W PySem.Calls PyProof.Rows PySem.SeqAt
theorem strKeys_of {es : Array DictEntry} (h : es.all (fun e => match e.key with | .str _ _ => true | _ => false) = true) : StrKeys es := fun e he => by
  have := (Array.all_eq_true_iff_forall_mem.mp h) e he
  cases hk : e.key with
  | str n t => exact ⟨n, t, rfl⟩
  | _ => rw [hk] at this; cases this
theorem xfD {D : Wd} (pf : PF D) : XF D := by
  obtain ⟨P, hK⟩ := pf.K
  refine ⟨?_, by rw [hK]; kernel_rfl, by rw [hK]; kernel_rfl, by rw [hK]; kernel_rfl, by rw [hK]; kernel_rfl, by rw [hK]; kernel_rfl, by rw [hK]; kernel_rfl, by rw [hK]; kernel_rfl, ?_⟩
  · rw [hK]
    exact ⟨_, _, _, _, _, _, _, _, _, _, _, _, _, _, rfl, _, _, _, rfl, rfl, strKeys_of (by kernel_rfl), by kernel_rfl⟩
  · intro n hn
    rw [hK]
    rcases List.mem_cons.mp hn with rfl | hn
    · kernel_rfl
    rcases List.mem_cons.mp hn with rfl | hn
    · kernel_rfl
    rcases List.mem_cons.mp hn with rfl | hn
    · kernel_rfl
    cases hn
end Mine

namespace Mine
open PySem PySem.W PySem.Calls PyProof.Rows PySem.SeqAt
section
variable {D : Wd} {c : Cx} {σ : St} {Q : AV → St → Prop} {X : Int → St → Prop} {pos : Pos}
theorem n__law_code (pf : PF D) (hk : c.env.kindOf "_law_code" = some .globalImplicit) (h : Q (.stat (.ref 203)) σ) : TE D c (eval (.Name "_law_code" pos) c.env) σ Q X := TE_glob (av := .stat (.ref 203)) hk (g_law_code pf) (fun _ => rfl) h
theorem n__law_id (pf : PF D) (hk : c.env.kindOf "_law_id" = some .globalImplicit) (h : Q (.stat (.ref 210)) σ) : TE D c (eval (.Name "_law_id" pos) c.env) σ Q X := TE_glob (av := .stat (.ref 210)) hk (g_law_id pf) (fun _ => rfl) h
theorem n__law_wrong_right (pf : PF D) (hk : c.env.kindOf "_law_wrong_right" = some .globalImplicit) (h : Q (.stat (.ref 217)) σ) : TE D c (eval (.Name "_law_wrong_right" pos) c.env) σ Q X := TE_glob (av := .stat (.ref 217)) hk (g_law_wrong_right pf) (fun _ => rfl) h
theorem n__law_stands (pf : PF D) (hk : c.env.kindOf "_law_stands" = some .globalImplicit) (h : Q (.stat (.ref 222)) σ) : TE D c (eval (.Name "_law_stands" pos) c.env) σ Q X := TE_glob (av := .stat (.ref 222)) hk (g_law_stands pf) (fun _ => rfl) h
theorem n_LocalIds (pf : PF D) (hk : c.env.kindOf "LocalIds" = some .globalImplicit) (h : Q (.stat (.ref 98)) σ) : TE D c (eval (.Name "LocalIds" pos) c.env) σ Q X := TE_glob (av := .stat (.ref 98)) hk (gLocalIds pf) (fun _ => rfl) h
theorem n_RemoteIds (pf : PF D) (hk : c.env.kindOf "RemoteIds" = some .globalImplicit) (h : Q (.stat (.ref 192)) σ) : TE D c (eval (.Name "RemoteIds" pos) c.env) σ Q X := TE_glob (av := .stat (.ref 192)) hk (gRemoteIds pf) (fun _ => rfl) h
theorem n_QuicError (pf : PF D) (hk : c.env.kindOf "QuicError" = some .globalImplicit) (h : Q (.stat (.ref quicErr)) σ) : TE D c (eval (.Name "QuicError" pos) c.env) σ Q X := TE_glob (av := .stat (.ref quicErr)) hk (gQuicError pf) (fun _ => rfl) h
theorem n_CONNECTION_ID_LIMIT_ERROR (pf : PF D) (hk : c.env.kindOf "CONNECTION_ID_LIMIT_ERROR" = some .globalImplicit) (h : Q (.int 9) σ) : TE D c (eval (.Name "CONNECTION_ID_LIMIT_ERROR" pos) c.env) σ Q X := by
  obtain ⟨t, e⟩ := gCONNECTION_ID_LIMIT_ERROR pf
  exact TE_glob (av := .int 9) hk e (fun _ => ⟨t, rfl⟩) h
theorem n_PROTOCOL_VIOLATION (pf : PF D) (hk : c.env.kindOf "PROTOCOL_VIOLATION" = some .globalImplicit) (h : Q (.int 10) σ) : TE D c (eval (.Name "PROTOCOL_VIOLATION" pos) c.env) σ Q X := by
  obtain ⟨t, e⟩ := gPROTOCOL_VIOLATION pf
  exact TE_glob (av := .int 10) hk e (fun _ => ⟨t, rfl⟩) h
theorem n_FRAME_NEW (pf : PF D) (hk : c.env.kindOf "FRAME_NEW" = some .globalImplicit) (h : Q (.int 24) σ) : TE D c (eval (.Name "FRAME_NEW" pos) c.env) σ Q X := by
  obtain ⟨t, e⟩ := gFRAME_NEW pf
  exact TE_glob (av := .int 24) hk e (fun _ => ⟨t, rfl⟩) h
theorem n_FRAME_RETIRE (pf : PF D) (hk : c.env.kindOf "FRAME_RETIRE" = some .globalImplicit) (h : Q (.int 25) σ) : TE D c (eval (.Name "FRAME_RETIRE" pos) c.env) σ Q X := by
  obtain ⟨t, e⟩ := gFRAME_RETIRE pf
  exact TE_glob (av := .int 25) hk e (fun _ => ⟨t, rfl⟩) h
theorem n_len (pf : PF D) (hk : c.env.kindOf "len" = some .globalImplicit) (h : Q (.stat (.builtin "len")) σ) : TE D c (eval (.Name "len" pos) c.env) σ Q X := TE_boot hk (glen pf) vlen (by decide) h
theorem n_max (pf : PF D) (hk : c.env.kindOf "max" = some .globalImplicit) (h : Q (.stat (.builtin "max")) σ) : TE D c (eval (.Name "max" pos) c.env) σ Q X := TE_boot hk (gmax pf) vmax (by decide) h
theorem n_min (pf : PF D) (hk : c.env.kindOf "min" = some .globalImplicit) (h : Q (.stat (.builtin "min")) σ) : TE D c (eval (.Name "min" pos) c.env) σ Q X := TE_boot hk (gmin pf) vmin (by decide) h
theorem n_sorted (pf : PF D) (hk : c.env.kindOf "sorted" = some .globalImplicit) (h : Q (.stat (.builtin "sorted")) σ) : TE D c (eval (.Name "sorted" pos) c.env) σ Q X := TE_boot hk (gsorted pf) vsorted (by decide) h
theorem n_abs (pf : PF D) (hk : c.env.kindOf "abs" = some .globalImplicit) (h : Q (.stat (.builtin "abs")) σ) : TE D c (eval (.Name "abs" pos) c.env) σ Q X := TE_boot hk (gabs pf) vabs (by decide) h
theorem n_dict (pf : PF D) (hk : c.env.kindOf "dict" = some .globalImplicit) (h : Q (.stat (.type "dict")) σ) : TE D c (eval (.Name "dict" pos) c.env) σ Q X := TE_boot hk (gdict pf) vdict (by decide) h
theorem n_list (pf : PF D) (hk : c.env.kindOf "list" = some .globalImplicit) (h : Q (.stat (.type "list")) σ) : TE D c (eval (.Name "list" pos) c.env) σ Q X := TE_boot hk (glist pf) vlist (by decide) h
theorem n_bytes (pf : PF D) (hk : c.env.kindOf "bytes" = some .globalImplicit) (h : Q (.stat (.type "bytes")) σ) : TE D c (eval (.Name "bytes" pos) c.env) σ Q X := TE_boot hk (gbytes pf) vbytes (by decide) h
theorem n_str (pf : PF D) (hk : c.env.kindOf "str" = some .globalImplicit) (h : Q (.stat (.type "str")) σ) : TE D c (eval (.Name "str" pos) c.env) σ Q X := TE_boot hk (gstr pf) vstr (by decide) h
theorem n_Exception (pf : PF D) (hk : c.env.kindOf "Exception" = some .globalImplicit) (h : Q (.stat (.type "Exception")) σ) : TE D c (eval (.Name "Exception" pos) c.env) σ Q X := TE_boot hk (gException pf) vException (by decide) h
end
end Mine

namespace Mine
open PySem PySem.W PySem.Calls PyProof.Rows PySem.SeqAt
/-- within a function of the text's own -/
structure In (fd : FuncData) (f L : Addr) (room : Nat) (c : Cx) : Prop where
  env : c.env = callEnvC fd L f
  pur : c.pur = false
  room : c.room = room
  frames : ∃ o, c.frames = c.env :: o
  frame : c.env.frame = some c.env.locals
theorem In.kd {fd : FuncData} {f L : Addr} {room : Nat} {c : Cx} (i : In fd f L room c) {x : Str} {k : NameKind} (h : fd.scope.names.lookup x = some k) : c.env.kindOf x = some k := by rw [i.env]; exact h
section
variable {D : Wd} {c : Cx} {σ : St} {X : Int → St → Prop} {Q : AV → St → Prop}
theorem TO_fn' {f : Addr} {fd : FuncData} {xs : List Str} {body : List Stmt} {as : List AV} {room : Nat} (ok : FnOk D f fd xs body) (hl : as.length = xs.length) (hpu : c.pur = false) (hr : room < c.room)
    (h : ∀ L c', In fd f L room c' → TF D c' (execs body c'.env) ⟨bindV xs as [], σ.hp⟩ (fun fl σ' => Q (retOf fl) ⟨σ.vars, σ'.hp⟩) (fun k σ' => X k ⟨σ.vars, σ'.hp⟩)) :
    TO D c VR as (fun vs => call (.ref f) vs) σ Q X := TO_fn ok hl hpu hr fun L => h L _ ⟨rfl, rfl, rfl, ⟨_, rfl⟩, rfl⟩
theorem TO_inst' {C fI : Addr} {fd : FuncData} {xs : List Str} {body : List Stmt} {as : List AV} {room : Nat} (hm : makesIn D.K C = true ∧ findIn D.K (.ref C) "__init__" = some (some (.ref fI)) ∧ isFn D.K (.ref fI) = true) (ok : FnOk D fI fd xs body) (hl : as.length + 1 = xs.length) (hpu : c.pur = false) (hr : room + 1 < c.room)
    (h : ∀ L x dx c', In fd fI L room c' → σ.hp x = none → σ.hp dx = none → x ≠ dx → TF D c' (execs body c'.env) ⟨bindV xs (.obj x :: as) [], (σ.hp.set dx (.ns [])).set x (.inst C dx)⟩ (fun fl σ' => retOf fl = .none ∧ Q (.obj x) ⟨σ.vars, σ'.hp⟩) (fun k σ' => X k ⟨σ.vars, σ'.hp⟩)) :
    TO D c VR as (fun vs => call (.ref C) vs) σ Q X := TO_inst hm.1 hm.2.1 hm.2.2 ok hl hpu hr fun A' L x dx h1 h2 h3 => h L x dx _ ⟨rfl, rfl, rfl, ⟨_, rfl⟩, rfl⟩ h1 h2 h3
theorem TO_exc' {fd : FuncData} {xs : List Str} {body : List Stmt} {as : List AV} {room : Nat} (xf : XF D) (ok : FnOk D 35 fd xs body) (hl : as.length + 1 = xs.length) (hz : xs.length ≤ 20) (hpu : c.pur = false) (hr : room + 1 < c.room)
    (h : ∀ L x t c', In fd 35 L room c' → σ.hp x = none → TF D c' (execs body c'.env) ⟨bindV xs (.obj x :: as) [], σ.hp.set x (.raw (exc0 t))⟩ (fun fl σ' => retOf fl = .none ∧ Q (.obj x) ⟨σ.vars, σ'.hp⟩) (fun k σ' => X k ⟨σ.vars, σ'.hp⟩)) :
    TO D c VR as (fun vs => call (.ref quicErr) vs) σ Q X := TO_exc xf ok hl hz hpu hr fun A' L x t h1 => h L x t _ ⟨rfl, rfl, rfl, ⟨_, rfl⟩, rfl⟩ h1
theorem TEs_cons {e : Expr} {es : List Expr} {Q : List AV → St → Prop} (h : TE D c (eval e c.env) σ (fun a σ' => TEs D c es σ' (fun as σ'' => Q (a :: as) σ'') X) X) : TEs D c (e :: es) σ Q X := h
theorem TEs_nil {Q : List AV → St → Prop} (h : Q [] σ) : TEs D c [] σ Q X := h
/-- a call by a global name -/
theorem TE_callB {x : Str} {np pos : Pos} {args : List Expr} (f : Value) (hk : Kp D c σ f → Kp D c σ f) (hp : Plain c.env args) (hn : (backTo pos (starEach args c.env)).any (·.1) = false) (kp : ∀ σ, Kp D c σ f)
    (h : TE D c (eval (.Name x np) c.env) σ (fun a σ₁ => a = .stat f ∧ TEs D c args σ₁ (fun as σ₂ => TO D c VR as (fun vs => call f vs) σ₂ Q X) X) X) : TE D c (eval (.Call (.Name x np) args [] pos) c.env) σ Q X :=
  TE_call hp hn (T.mono h (fun a σ₁ ⟨e, q⟩ => ⟨f, fun h v hv => by subst e; exact hv, by
    have up : ∀ {es : List Expr} {σ : St} {Q Q' : List AV → St → Prop}, TEs D c es σ Q X → (∀ as σ, Q as σ → Q' as σ) → TEs D c es σ Q' X := by
      intro es
      induction es with
      | nil => intro σ Q Q' h k; exact k _ _ h
      | cons e es ih => intro σ Q Q' h k; exact T.mono h (fun a σ' z => ih z fun as σ'' z => k _ _ z) fun _ _ z => z
    exact up q fun as σ z => ⟨kp σ, z⟩⟩) fun _ _ h => h)
theorem TE_callF {x : Str} {np pos : Pos} {args : List Expr} {f : Addr} (kp : keepIn D.K (.ref f) = true) (hp : Plain c.env args) (hn : (backTo pos (starEach args c.env)).any (·.1) = false)
    (h : TE D c (eval (.Name x np) c.env) σ (fun a σ₁ => a = .stat (.ref f) ∧ TEs D c args σ₁ (fun as σ₂ => TO D c VR as (fun vs => call (.ref f) vs) σ₂ Q X) X) X) : TE D c (eval (.Call (.Name x np) args [] pos) c.env) σ Q X :=
  TE_callB (.ref f) (fun h => h) hp hn (fun σ => Kp_K kp) h
theorem TE_callM {x : Str} {np pos : Pos} {args : List Expr} {id : String} (hp : Plain c.env args) (hn : (backTo pos (starEach args c.env)).any (·.1) = false)
    (h : TE D c (eval (.Name x np) c.env) σ (fun a σ₁ => a = .stat (.builtin id) ∧ TEs D c args σ₁ (fun as σ₂ => TO D c VR as (fun vs => call (.builtin id) vs) σ₂ Q X) X) X) : TE D c (eval (.Call (.Name x np) args [] pos) c.env) σ Q X :=
  TE_callB (.builtin id) (fun h => h) hp hn (fun σ => Kp_b) h
theorem TE_callT {x : Str} {np pos : Pos} {args : List Expr} {id : String} (hp : Plain c.env args) (hn : (backTo pos (starEach args c.env)).any (·.1) = false)
    (h : TE D c (eval (.Name x np) c.env) σ (fun a σ₁ => a = .stat (.type id) ∧ TEs D c args σ₁ (fun as σ₂ => TO D c VR as (fun vs => call (.type id) vs) σ₂ Q X) X) X) : TE D c (eval (.Call (.Name x np) args [] pos) c.env) σ Q X :=
  TE_callB (.type id) (fun h => h) hp hn (fun σ => Kp_t) h
theorem TEs.up {es : List Expr} : ∀ {σ : St} {Q Q' : List AV → St → Prop}, TEs D c es σ Q X → (∀ as σ, Q as σ → Q' as σ) → TEs D c es σ Q' X := by
  induction es with
  | nil => intro σ Q Q' h k; exact k _ _ h
  | cons e es ih => intro σ Q Q' h k; exact T.mono h (fun a σ' z => ih z fun as σ'' z => k _ _ z) fun _ _ z => z
/-- a method of an object of the text's own -/
theorem TE_meth {o : Expr} {name : Str} {apos pos : Pos} {args : List Expr} {C f : Addr} (mf : MF D C name f) (hb : attributeBase o name c.env (eval o c.env) = eval o c.env) (hform : methodCallForm (args.length + ([] : List Keyword).length) (backTo pos (starEach args c.env)) (backToKw pos (keywordEach [] c.env)) = true) (hline : (apos.endLine == pos.line) = true)
    (hp : Plain c.env args) (hn : (backTo pos (starEach args c.env)).any (·.1) = false)
    (h : TE D c (eval o c.env) σ (fun a σ₁ => ∃ x d l, a = .obj x ∧ σ₁.hp x = some (.inst C d) ∧ σ₁.hp d = some (.ns l) ∧ l.lookup name = none ∧ TEs D c args σ₁ (fun as σ₂ => TO D c VR (.obj x :: as) (fun vs => call (.ref f) vs) σ₂ Q X) X) X) : TE D c (eval (.Call (.Attribute o name apos) args [] pos) c.env) σ Q X :=
  TE_method hb hform hline hp hn (T.mono h (fun a σ₁ ⟨x, d, l, e, h1, h2, h3, q⟩ => by
    subst e
    exact ⟨.ref f, M_inst h1 h2 h3 mf.get mf.find mf.fn, TEs.up q fun as σ z => ⟨Kp_K mf.keep, z⟩⟩) fun _ _ h => h)
/-- a method of a list or a dict -/
theorem TE_methL {o : Expr} {name : Str} {apos pos : Pos} {args : List Expr} {id : String} (sl : Slot "list" name id) (ht : typeOf (.builtin id) = pure (.type "method_descriptor")) (hb : attributeBase o name c.env (eval o c.env) = eval o c.env) (hform : methodCallForm (args.length + ([] : List Keyword).length) (backTo pos (starEach args c.env)) (backToKw pos (keywordEach [] c.env)) = true) (hline : (apos.endLine == pos.line) = true)
    (hp : Plain c.env args) (hn : (backTo pos (starEach args c.env)).any (·.1) = false)
    (h : TE D c (eval o c.env) σ (fun a σ₁ => ∃ l xs, a = .obj l ∧ σ₁.hp l = some (.list xs) ∧ TEs D c args σ₁ (fun as σ₂ => TO D c VR (.obj l :: as) (fun vs => call (.builtin id) vs) σ₂ Q X) X) X) : TE D c (eval (.Call (.Attribute o name apos) args [] pos) c.env) σ Q X :=
  TE_method hb hform hline hp hn (T.mono h (fun a σ₁ ⟨l, xs, e, h1, q⟩ => by
    subst e
    exact ⟨.builtin id, M_list h1 sl ht, TEs.up q fun as σ z => ⟨Kp_b, z⟩⟩) fun _ _ h => h)
theorem TE_methD {o : Expr} {name : Str} {apos pos : Pos} {args : List Expr} {id : String} (sl : Slot "dict" name id) (ht : typeOf (.builtin id) = pure (.type "method_descriptor")) (hb : attributeBase o name c.env (eval o c.env) = eval o c.env) (hform : methodCallForm (args.length + ([] : List Keyword).length) (backTo pos (starEach args c.env)) (backToKw pos (keywordEach [] c.env)) = true) (hline : (apos.endLine == pos.line) = true)
    (hp : Plain c.env args) (hn : (backTo pos (starEach args c.env)).any (·.1) = false)
    (h : TE D c (eval o c.env) σ (fun a σ₁ => ∃ l xs, a = .obj l ∧ σ₁.hp l = some (.dict xs) ∧ TEs D c args σ₁ (fun as σ₂ => TO D c VR (.obj l :: as) (fun vs => call (.builtin id) vs) σ₂ Q X) X) X) : TE D c (eval (.Call (.Attribute o name apos) args [] pos) c.env) σ Q X :=
  TE_method hb hform hline hp hn (T.mono h (fun a σ₁ ⟨l, xs, e, h1, q⟩ => by
    subst e
    exact ⟨.builtin id, M_dict h1 sl ht, TEs.up q fun as σ z => ⟨Kp_b, z⟩⟩) fun _ _ h => h)
end
/-! the abstract heap -/
noncomputable def AO.tag : AO → Nat
  | .list _ => 0 | .dict _ => 1 | .inst _ _ => 2 | .ns _ => 3 | .view _ => 4 | .tab => 5 | .raw _ => 6 | .cell _ => 7 | .dictx _ _ => 8
theorem Hp.set_eq {H : Hp} {a : Addr} {o : AO} : (H.set a o) a = some o := by unfold Hp.set; rw [if_pos rfl]
theorem Hp.set_ne {H : Hp} {a b : Addr} {o : AO} {p : Option AO} (n : a ≠ b) (h : H a = p) : (H.set b o) a = p := by unfold Hp.set; rw [if_neg n]; exact h
theorem Hp.set_new {H : Hp} {a b : Addr} {o p : AO} (n : H b = none) (h : H a = some p) : (H.set b o) a = some p := Hp.set_ne (fun q => by subst q; rw [n] at h; cases h) h
theorem Hp.ne_tag {H : Hp} {a b : Addr} {o p : AO} (h : H a = some o) (h' : H b = some p) (n : (o.tag == p.tag) = false) : a ≠ b := fun q => by
  subst q; rw [h] at h'; cases h'; rw [beq_self_eq_true] at n; cases n
theorem Hp.ne_new {H : Hp} {a b : Addr} {o : AO} (h : H a = some o) (h' : H b = none) : a ≠ b := fun q => by subst q; rw [h] at h'; cases h'
/-- all that is known stays so, but at some addresses -/
noncomputable def Hp.But (H H' : Hp) (m : List Addr) : Prop := ∀ a o, a ∉ m → H a = some o → H' a = some o
theorem Hp.But.refl (H : Hp) (m : List Addr) : H.But H m := fun _ _ _ h => h
theorem Hp.But.new {H H' : Hp} {m : List Addr} {z : Addr} {o : AO} (x : H.But H' m) (hz : H' z = none) : H.But (H'.set z o) m := fun a p n h => Hp.set_new hz (x a p n h)
theorem Hp.But.set {H H' : Hp} {m : List Addr} {z : Addr} {o : AO} (x : H.But H' m) (hz : z ∈ m) : H.But (H'.set z o) m := fun a p n h => Hp.set_ne (fun q => n (q ▸ hz)) (x a p n h)
theorem Hp.But.trans {H H' H'' : Hp} {m : List Addr} (x : H.But H' m) (y : H'.But H'' m) : H.But H'' m := fun a o n h => y a o n (x a o n h)
theorem Hp.But.mono {H H' : Hp} {m m' : List Addr} (x : H.But H' m) (s : ∀ a ∈ m, a ∈ m') : H.But H' m' := fun a o n h => x a o (fun q => n (s a q)) h
end Mine

namespace Mine
open PySem PySem.W PySem.Calls PyProof.Rows PySem.SeqAt
section
variable {D : Wd} {c : Cx} {σ : St} {Q : AV → St → Prop} {X : Int → St → Prop} {pos np apos : Pos} {args : List Expr} {ob : Expr}
theorem c__law_code (pf : PF D) (hk : c.env.kindOf "_law_code" = some .globalImplicit) (hp : Plain c.env args) (hn : (backTo pos (starEach args c.env)).any (·.1) = false)
    (h : TEs D c args σ (fun as σ₂ => TO D c VR as (fun vs => call (.ref 203) vs) σ₂ Q X) X) : TE D c (eval (.Call (.Name "_law_code" np) args [] pos) c.env) σ Q X := TE_callF (kp_law_code pf) hp hn (n__law_code pf hk ⟨rfl, h⟩)
theorem c__law_id (pf : PF D) (hk : c.env.kindOf "_law_id" = some .globalImplicit) (hp : Plain c.env args) (hn : (backTo pos (starEach args c.env)).any (·.1) = false)
    (h : TEs D c args σ (fun as σ₂ => TO D c VR as (fun vs => call (.ref 210) vs) σ₂ Q X) X) : TE D c (eval (.Call (.Name "_law_id" np) args [] pos) c.env) σ Q X := TE_callF (kp_law_id pf) hp hn (n__law_id pf hk ⟨rfl, h⟩)
theorem c__law_wrong_right (pf : PF D) (hk : c.env.kindOf "_law_wrong_right" = some .globalImplicit) (hp : Plain c.env args) (hn : (backTo pos (starEach args c.env)).any (·.1) = false)
    (h : TEs D c args σ (fun as σ₂ => TO D c VR as (fun vs => call (.ref 217) vs) σ₂ Q X) X) : TE D c (eval (.Call (.Name "_law_wrong_right" np) args [] pos) c.env) σ Q X := TE_callF (kp_law_wrong_right pf) hp hn (n__law_wrong_right pf hk ⟨rfl, h⟩)
theorem c__law_stands (pf : PF D) (hk : c.env.kindOf "_law_stands" = some .globalImplicit) (hp : Plain c.env args) (hn : (backTo pos (starEach args c.env)).any (·.1) = false)
    (h : TEs D c args σ (fun as σ₂ => TO D c VR as (fun vs => call (.ref 222) vs) σ₂ Q X) X) : TE D c (eval (.Call (.Name "_law_stands" np) args [] pos) c.env) σ Q X := TE_callF (kp_law_stands pf) hp hn (n__law_stands pf hk ⟨rfl, h⟩)
theorem c_LocalIds (pf : PF D) (hk : c.env.kindOf "LocalIds" = some .globalImplicit) (hp : Plain c.env args) (hn : (backTo pos (starEach args c.env)).any (·.1) = false)
    (h : TEs D c args σ (fun as σ₂ => TO D c VR as (fun vs => call (.ref 98) vs) σ₂ Q X) X) : TE D c (eval (.Call (.Name "LocalIds" np) args [] pos) c.env) σ Q X := TE_callF (kpLocalIds pf) hp hn (n_LocalIds pf hk ⟨rfl, h⟩)
theorem c_RemoteIds (pf : PF D) (hk : c.env.kindOf "RemoteIds" = some .globalImplicit) (hp : Plain c.env args) (hn : (backTo pos (starEach args c.env)).any (·.1) = false)
    (h : TEs D c args σ (fun as σ₂ => TO D c VR as (fun vs => call (.ref 192) vs) σ₂ Q X) X) : TE D c (eval (.Call (.Name "RemoteIds" np) args [] pos) c.env) σ Q X := TE_callF (kpRemoteIds pf) hp hn (n_RemoteIds pf hk ⟨rfl, h⟩)
theorem c_QuicError (pf : PF D) (hk : c.env.kindOf "QuicError" = some .globalImplicit) (hp : Plain c.env args) (hn : (backTo pos (starEach args c.env)).any (·.1) = false)
    (h : TEs D c args σ (fun as σ₂ => TO D c VR as (fun vs => call (.ref quicErr) vs) σ₂ Q X) X) : TE D c (eval (.Call (.Name "QuicError" np) args [] pos) c.env) σ Q X := TE_callF (kpQuicError pf) hp hn (n_QuicError pf hk ⟨rfl, h⟩)
theorem c_len (pf : PF D) (hk : c.env.kindOf "len" = some .globalImplicit) (hp : Plain c.env args) (hn : (backTo pos (starEach args c.env)).any (·.1) = false)
    (h : TEs D c args σ (fun as σ₂ => TO D c VR as (fun vs => call (.builtin "len") vs) σ₂ Q X) X) : TE D c (eval (.Call (.Name "len" np) args [] pos) c.env) σ Q X := TE_callM hp hn (n_len pf hk ⟨rfl, h⟩)
theorem c_max (pf : PF D) (hk : c.env.kindOf "max" = some .globalImplicit) (hp : Plain c.env args) (hn : (backTo pos (starEach args c.env)).any (·.1) = false)
    (h : TEs D c args σ (fun as σ₂ => TO D c VR as (fun vs => call (.builtin "max") vs) σ₂ Q X) X) : TE D c (eval (.Call (.Name "max" np) args [] pos) c.env) σ Q X := TE_callM hp hn (n_max pf hk ⟨rfl, h⟩)
theorem c_min (pf : PF D) (hk : c.env.kindOf "min" = some .globalImplicit) (hp : Plain c.env args) (hn : (backTo pos (starEach args c.env)).any (·.1) = false)
    (h : TEs D c args σ (fun as σ₂ => TO D c VR as (fun vs => call (.builtin "min") vs) σ₂ Q X) X) : TE D c (eval (.Call (.Name "min" np) args [] pos) c.env) σ Q X := TE_callM hp hn (n_min pf hk ⟨rfl, h⟩)
theorem c_sorted (pf : PF D) (hk : c.env.kindOf "sorted" = some .globalImplicit) (hp : Plain c.env args) (hn : (backTo pos (starEach args c.env)).any (·.1) = false)
    (h : TEs D c args σ (fun as σ₂ => TO D c VR as (fun vs => call (.builtin "sorted") vs) σ₂ Q X) X) : TE D c (eval (.Call (.Name "sorted" np) args [] pos) c.env) σ Q X := TE_callM hp hn (n_sorted pf hk ⟨rfl, h⟩)
theorem c_abs (pf : PF D) (hk : c.env.kindOf "abs" = some .globalImplicit) (hp : Plain c.env args) (hn : (backTo pos (starEach args c.env)).any (·.1) = false)
    (h : TEs D c args σ (fun as σ₂ => TO D c VR as (fun vs => call (.builtin "abs") vs) σ₂ Q X) X) : TE D c (eval (.Call (.Name "abs" np) args [] pos) c.env) σ Q X := TE_callM hp hn (n_abs pf hk ⟨rfl, h⟩)
theorem c_dict (pf : PF D) (hk : c.env.kindOf "dict" = some .globalImplicit) (hp : Plain c.env args) (hn : (backTo pos (starEach args c.env)).any (·.1) = false)
    (h : TEs D c args σ (fun as σ₂ => TO D c VR as (fun vs => call (.type "dict") vs) σ₂ Q X) X) : TE D c (eval (.Call (.Name "dict" np) args [] pos) c.env) σ Q X := TE_callT hp hn (n_dict pf hk ⟨rfl, h⟩)
theorem c_list (pf : PF D) (hk : c.env.kindOf "list" = some .globalImplicit) (hp : Plain c.env args) (hn : (backTo pos (starEach args c.env)).any (·.1) = false)
    (h : TEs D c args σ (fun as σ₂ => TO D c VR as (fun vs => call (.type "list") vs) σ₂ Q X) X) : TE D c (eval (.Call (.Name "list" np) args [] pos) c.env) σ Q X := TE_callT hp hn (n_list pf hk ⟨rfl, h⟩)
theorem c_bytes (pf : PF D) (hk : c.env.kindOf "bytes" = some .globalImplicit) (hp : Plain c.env args) (hn : (backTo pos (starEach args c.env)).any (·.1) = false)
    (h : TEs D c args σ (fun as σ₂ => TO D c VR as (fun vs => call (.type "bytes") vs) σ₂ Q X) X) : TE D c (eval (.Call (.Name "bytes" np) args [] pos) c.env) σ Q X := TE_callT hp hn (n_bytes pf hk ⟨rfl, h⟩)
theorem c_str (pf : PF D) (hk : c.env.kindOf "str" = some .globalImplicit) (hp : Plain c.env args) (hn : (backTo pos (starEach args c.env)).any (·.1) = false)
    (h : TEs D c args σ (fun as σ₂ => TO D c VR as (fun vs => call (.type "str") vs) σ₂ Q X) X) : TE D c (eval (.Call (.Name "str" np) args [] pos) c.env) σ Q X := TE_callT hp hn (n_str pf hk ⟨rfl, h⟩)
theorem m_kept_count (pf : PF D) (hb : attributeBase ob "kept_count" c.env (eval ob c.env) = eval ob c.env) (hform : methodCallForm (args.length + ([] : List Keyword).length) (backTo pos (starEach args c.env)) (backToKw pos (keywordEach [] c.env)) = true) (hline : (apos.endLine == pos.line) = true)
    (hp : Plain c.env args) (hn : (backTo pos (starEach args c.env)).any (·.1) = false)
    (h : TE D c (eval ob c.env) σ (fun a σ₁ => ∃ x d l, a = .obj x ∧ σ₁.hp x = some (.inst 98 d) ∧ σ₁.hp d = some (.ns l) ∧ l.lookup (Str.ofString "kept_count") = none ∧ TEs D c args σ₁ (fun as σ₂ => TO D c VR (.obj x :: as) (fun vs => call (.ref 60) vs) σ₂ Q X) X) X) : TE D c (eval (.Call (.Attribute ob "kept_count" apos) args [] pos) c.env) σ Q X :=
  TE_meth (mf98_kept_count pf) hb hform hline hp hn h
theorem m_may_issue (pf : PF D) (hb : attributeBase ob "may_issue" c.env (eval ob c.env) = eval ob c.env) (hform : methodCallForm (args.length + ([] : List Keyword).length) (backTo pos (starEach args c.env)) (backToKw pos (keywordEach [] c.env)) = true) (hline : (apos.endLine == pos.line) = true)
    (hp : Plain c.env args) (hn : (backTo pos (starEach args c.env)).any (·.1) = false)
    (h : TE D c (eval ob c.env) σ (fun a σ₁ => ∃ x d l, a = .obj x ∧ σ₁.hp x = some (.inst 98 d) ∧ σ₁.hp d = some (.ns l) ∧ l.lookup (Str.ofString "may_issue") = none ∧ TEs D c args σ₁ (fun as σ₂ => TO D c VR (.obj x :: as) (fun vs => call (.ref 67) vs) σ₂ Q X) X) X) : TE D c (eval (.Call (.Attribute ob "may_issue" apos) args [] pos) c.env) σ Q X :=
  TE_meth (mf98_may_issue pf) hb hform hline hp hn h
theorem m_issue (pf : PF D) (hb : attributeBase ob "issue" c.env (eval ob c.env) = eval ob c.env) (hform : methodCallForm (args.length + ([] : List Keyword).length) (backTo pos (starEach args c.env)) (backToKw pos (keywordEach [] c.env)) = true) (hline : (apos.endLine == pos.line) = true)
    (hp : Plain c.env args) (hn : (backTo pos (starEach args c.env)).any (·.1) = false)
    (h : TE D c (eval ob c.env) σ (fun a σ₁ => ∃ x d l, a = .obj x ∧ σ₁.hp x = some (.inst 98 d) ∧ σ₁.hp d = some (.ns l) ∧ l.lookup (Str.ofString "issue") = none ∧ TEs D c args σ₁ (fun as σ₂ => TO D c VR (.obj x :: as) (fun vs => call (.ref 74) vs) σ₂ Q X) X) X) : TE D c (eval (.Call (.Attribute ob "issue" apos) args [] pos) c.env) σ Q X :=
  TE_meth (mf98_issue pf) hb hform hline hp hn h
theorem m_ask_to_retire (pf : PF D) (hb : attributeBase ob "ask_to_retire" c.env (eval ob c.env) = eval ob c.env) (hform : methodCallForm (args.length + ([] : List Keyword).length) (backTo pos (starEach args c.env)) (backToKw pos (keywordEach [] c.env)) = true) (hline : (apos.endLine == pos.line) = true)
    (hp : Plain c.env args) (hn : (backTo pos (starEach args c.env)).any (·.1) = false)
    (h : TE D c (eval ob c.env) σ (fun a σ₁ => ∃ x d l, a = .obj x ∧ σ₁.hp x = some (.inst 98 d) ∧ σ₁.hp d = some (.ns l) ∧ l.lookup (Str.ofString "ask_to_retire") = none ∧ TEs D c args σ₁ (fun as σ₂ => TO D c VR (.obj x :: as) (fun vs => call (.ref 81) vs) σ₂ Q X) X) X) : TE D c (eval (.Call (.Attribute ob "ask_to_retire" apos) args [] pos) c.env) σ Q X :=
  TE_meth (mf98_ask_to_retire pf) hb hform hline hp hn h
theorem m_on_retire (pf : PF D) (hb : attributeBase ob "on_retire" c.env (eval ob c.env) = eval ob c.env) (hform : methodCallForm (args.length + ([] : List Keyword).length) (backTo pos (starEach args c.env)) (backToKw pos (keywordEach [] c.env)) = true) (hline : (apos.endLine == pos.line) = true)
    (hp : Plain c.env args) (hn : (backTo pos (starEach args c.env)).any (·.1) = false)
    (h : TE D c (eval ob c.env) σ (fun a σ₁ => ∃ x d l, a = .obj x ∧ σ₁.hp x = some (.inst 98 d) ∧ σ₁.hp d = some (.ns l) ∧ l.lookup (Str.ofString "on_retire") = none ∧ TEs D c args σ₁ (fun as σ₂ => TO D c VR (.obj x :: as) (fun vs => call (.ref 88) vs) σ₂ Q X) X) X) : TE D c (eval (.Call (.Attribute ob "on_retire" apos) args [] pos) c.env) σ Q X :=
  TE_meth (mf98_on_retire pf) hb hform hline hp hn h
theorem m_sequence_of (pf : PF D) (hb : attributeBase ob "sequence_of" c.env (eval ob c.env) = eval ob c.env) (hform : methodCallForm (args.length + ([] : List Keyword).length) (backTo pos (starEach args c.env)) (backToKw pos (keywordEach [] c.env)) = true) (hline : (apos.endLine == pos.line) = true)
    (hp : Plain c.env args) (hn : (backTo pos (starEach args c.env)).any (·.1) = false)
    (h : TE D c (eval ob c.env) σ (fun a σ₁ => ∃ x d l, a = .obj x ∧ σ₁.hp x = some (.inst 98 d) ∧ σ₁.hp d = some (.ns l) ∧ l.lookup (Str.ofString "sequence_of") = none ∧ TEs D c args σ₁ (fun as σ₂ => TO D c VR (.obj x :: as) (fun vs => call (.ref 95) vs) σ₂ Q X) X) X) : TE D c (eval (.Call (.Attribute ob "sequence_of" apos) args [] pos) c.env) σ Q X :=
  TE_meth (mf98_sequence_of pf) hb hform hline hp hn h
theorem m_check_new (pf : PF D) (hb : attributeBase ob "check_new" c.env (eval ob c.env) = eval ob c.env) (hform : methodCallForm (args.length + ([] : List Keyword).length) (backTo pos (starEach args c.env)) (backToKw pos (keywordEach [] c.env)) = true) (hline : (apos.endLine == pos.line) = true)
    (hp : Plain c.env args) (hn : (backTo pos (starEach args c.env)).any (·.1) = false)
    (h : TE D c (eval ob c.env) σ (fun a σ₁ => ∃ x d l, a = .obj x ∧ σ₁.hp x = some (.inst 192 d) ∧ σ₁.hp d = some (.ns l) ∧ l.lookup (Str.ofString "check_new") = none ∧ TEs D c args σ₁ (fun as σ₂ => TO D c VR (.obj x :: as) (fun vs => call (.ref 130) vs) σ₂ Q X) X) X) : TE D c (eval (.Call (.Attribute ob "check_new" apos) args [] pos) c.env) σ Q X :=
  TE_meth (mf192_check_new pf) hb hform hline hp hn h
theorem m_on_new (pf : PF D) (hb : attributeBase ob "on_new" c.env (eval ob c.env) = eval ob c.env) (hform : methodCallForm (args.length + ([] : List Keyword).length) (backTo pos (starEach args c.env)) (backToKw pos (keywordEach [] c.env)) = true) (hline : (apos.endLine == pos.line) = true)
    (hp : Plain c.env args) (hn : (backTo pos (starEach args c.env)).any (·.1) = false)
    (h : TE D c (eval ob c.env) σ (fun a σ₁ => ∃ x d l, a = .obj x ∧ σ₁.hp x = some (.inst 192 d) ∧ σ₁.hp d = some (.ns l) ∧ l.lookup (Str.ofString "on_new") = none ∧ TEs D c args σ₁ (fun as σ₂ => TO D c VR (.obj x :: as) (fun vs => call (.ref 137) vs) σ₂ Q X) X) X) : TE D c (eval (.Call (.Attribute ob "on_new" apos) args [] pos) c.env) σ Q X :=
  TE_meth (mf192_on_new pf) hb hform hline hp hn h
theorem m_retire_below (pf : PF D) (hb : attributeBase ob "retire_below" c.env (eval ob c.env) = eval ob c.env) (hform : methodCallForm (args.length + ([] : List Keyword).length) (backTo pos (starEach args c.env)) (backToKw pos (keywordEach [] c.env)) = true) (hline : (apos.endLine == pos.line) = true)
    (hp : Plain c.env args) (hn : (backTo pos (starEach args c.env)).any (·.1) = false)
    (h : TE D c (eval ob c.env) σ (fun a σ₁ => ∃ x d l, a = .obj x ∧ σ₁.hp x = some (.inst 192 d) ∧ σ₁.hp d = some (.ns l) ∧ l.lookup (Str.ofString "retire_below") = none ∧ TEs D c args σ₁ (fun as σ₂ => TO D c VR (.obj x :: as) (fun vs => call (.ref 144) vs) σ₂ Q X) X) X) : TE D c (eval (.Call (.Attribute ob "retire_below" apos) args [] pos) c.env) σ Q X :=
  TE_meth (mf192_retire_below pf) hb hform hline hp hn h
theorem m_retire (pf : PF D) (hb : attributeBase ob "retire" c.env (eval ob c.env) = eval ob c.env) (hform : methodCallForm (args.length + ([] : List Keyword).length) (backTo pos (starEach args c.env)) (backToKw pos (keywordEach [] c.env)) = true) (hline : (apos.endLine == pos.line) = true)
    (hp : Plain c.env args) (hn : (backTo pos (starEach args c.env)).any (·.1) = false)
    (h : TE D c (eval ob c.env) σ (fun a σ₁ => ∃ x d l, a = .obj x ∧ σ₁.hp x = some (.inst 192 d) ∧ σ₁.hp d = some (.ns l) ∧ l.lookup (Str.ofString "retire") = none ∧ TEs D c args σ₁ (fun as σ₂ => TO D c VR (.obj x :: as) (fun vs => call (.ref 151) vs) σ₂ Q X) X) X) : TE D c (eval (.Call (.Attribute ob "retire" apos) args [] pos) c.env) σ Q X :=
  TE_meth (mf192_retire pf) hb hform hline hp hn h
theorem m_use (pf : PF D) (hb : attributeBase ob "use" c.env (eval ob c.env) = eval ob c.env) (hform : methodCallForm (args.length + ([] : List Keyword).length) (backTo pos (starEach args c.env)) (backToKw pos (keywordEach [] c.env)) = true) (hline : (apos.endLine == pos.line) = true)
    (hp : Plain c.env args) (hn : (backTo pos (starEach args c.env)).any (·.1) = false)
    (h : TE D c (eval ob c.env) σ (fun a σ₁ => ∃ x d l, a = .obj x ∧ σ₁.hp x = some (.inst 192 d) ∧ σ₁.hp d = some (.ns l) ∧ l.lookup (Str.ofString "use") = none ∧ TEs D c args σ₁ (fun as σ₂ => TO D c VR (.obj x :: as) (fun vs => call (.ref 158) vs) σ₂ Q X) X) X) : TE D c (eval (.Call (.Attribute ob "use" apos) args [] pos) c.env) σ Q X :=
  TE_meth (mf192_use pf) hb hform hline hp hn h
theorem m_present (pf : PF D) (hb : attributeBase ob "present" c.env (eval ob c.env) = eval ob c.env) (hform : methodCallForm (args.length + ([] : List Keyword).length) (backTo pos (starEach args c.env)) (backToKw pos (keywordEach [] c.env)) = true) (hline : (apos.endLine == pos.line) = true)
    (hp : Plain c.env args) (hn : (backTo pos (starEach args c.env)).any (·.1) = false)
    (h : TE D c (eval ob c.env) σ (fun a σ₁ => ∃ x d l, a = .obj x ∧ σ₁.hp x = some (.inst 192 d) ∧ σ₁.hp d = some (.ns l) ∧ l.lookup (Str.ofString "present") = none ∧ TEs D c args σ₁ (fun as σ₂ => TO D c VR (.obj x :: as) (fun vs => call (.ref 165) vs) σ₂ Q X) X) X) : TE D c (eval (.Call (.Attribute ob "present" apos) args [] pos) c.env) σ Q X :=
  TE_meth (mf192_present pf) hb hform hline hp hn h
theorem m_fresh (pf : PF D) (hb : attributeBase ob "fresh" c.env (eval ob c.env) = eval ob c.env) (hform : methodCallForm (args.length + ([] : List Keyword).length) (backTo pos (starEach args c.env)) (backToKw pos (keywordEach [] c.env)) = true) (hline : (apos.endLine == pos.line) = true)
    (hp : Plain c.env args) (hn : (backTo pos (starEach args c.env)).any (·.1) = false)
    (h : TE D c (eval ob c.env) σ (fun a σ₁ => ∃ x d l, a = .obj x ∧ σ₁.hp x = some (.inst 192 d) ∧ σ₁.hp d = some (.ns l) ∧ l.lookup (Str.ofString "fresh") = none ∧ TEs D c args σ₁ (fun as σ₂ => TO D c VR (.obj x :: as) (fun vs => call (.ref 170) vs) σ₂ Q X) X) X) : TE D c (eval (.Call (.Attribute ob "fresh" apos) args [] pos) c.env) σ Q X :=
  TE_meth (mf192_fresh pf) hb hform hline hp hn h
theorem m_change (pf : PF D) (hb : attributeBase ob "change" c.env (eval ob c.env) = eval ob c.env) (hform : methodCallForm (args.length + ([] : List Keyword).length) (backTo pos (starEach args c.env)) (backToKw pos (keywordEach [] c.env)) = true) (hline : (apos.endLine == pos.line) = true)
    (hp : Plain c.env args) (hn : (backTo pos (starEach args c.env)).any (·.1) = false)
    (h : TE D c (eval ob c.env) σ (fun a σ₁ => ∃ x d l, a = .obj x ∧ σ₁.hp x = some (.inst 192 d) ∧ σ₁.hp d = some (.ns l) ∧ l.lookup (Str.ofString "change") = none ∧ TEs D c args σ₁ (fun as σ₂ => TO D c VR (.obj x :: as) (fun vs => call (.ref 177) vs) σ₂ Q X) X) X) : TE D c (eval (.Call (.Attribute ob "change" apos) args [] pos) c.env) σ Q X :=
  TE_meth (mf192_change pf) hb hform hline hp hn h
theorem m_frames (pf : PF D) (hb : attributeBase ob "frames" c.env (eval ob c.env) = eval ob c.env) (hform : methodCallForm (args.length + ([] : List Keyword).length) (backTo pos (starEach args c.env)) (backToKw pos (keywordEach [] c.env)) = true) (hline : (apos.endLine == pos.line) = true)
    (hp : Plain c.env args) (hn : (backTo pos (starEach args c.env)).any (·.1) = false)
    (h : TE D c (eval ob c.env) σ (fun a σ₁ => ∃ x d l, a = .obj x ∧ σ₁.hp x = some (.inst 192 d) ∧ σ₁.hp d = some (.ns l) ∧ l.lookup (Str.ofString "frames") = none ∧ TEs D c args σ₁ (fun as σ₂ => TO D c VR (.obj x :: as) (fun vs => call (.ref 182) vs) σ₂ Q X) X) X) : TE D c (eval (.Call (.Attribute ob "frames" apos) args [] pos) c.env) σ Q X :=
  TE_meth (mf192_frames pf) hb hform hline hp hn h
theorem m_append (hb : attributeBase ob "append" c.env (eval ob c.env) = eval ob c.env) (hform : methodCallForm (args.length + ([] : List Keyword).length) (backTo pos (starEach args c.env)) (backToKw pos (keywordEach [] c.env)) = true) (hline : (apos.endLine == pos.line) = true)
    (hp : Plain c.env args) (hn : (backTo pos (starEach args c.env)).any (·.1) = false)
    (h : TE D c (eval ob c.env) σ (fun a σ₁ => ∃ l xs, a = .obj l ∧ σ₁.hp l = some (.list xs) ∧ TEs D c args σ₁ (fun as σ₂ => TO D c VR (.obj l :: as) (fun vs => call (.builtin "list.append") vs) σ₂ Q X) X) X) : TE D c (eval (.Call (.Attribute ob "append" apos) args [] pos) c.env) σ Q X :=
  TE_methL PySem.F.slot_list_append PySem.F.type_list_append hb hform hline hp hn h
theorem m_pop (hb : attributeBase ob "pop" c.env (eval ob c.env) = eval ob c.env) (hform : methodCallForm (args.length + ([] : List Keyword).length) (backTo pos (starEach args c.env)) (backToKw pos (keywordEach [] c.env)) = true) (hline : (apos.endLine == pos.line) = true)
    (hp : Plain c.env args) (hn : (backTo pos (starEach args c.env)).any (·.1) = false)
    (h : TE D c (eval ob c.env) σ (fun a σ₁ => ∃ l xs, a = .obj l ∧ σ₁.hp l = some (.dict xs) ∧ TEs D c args σ₁ (fun as σ₂ => TO D c VR (.obj l :: as) (fun vs => call (.builtin "dict.pop") vs) σ₂ Q X) X) X) : TE D c (eval (.Call (.Attribute ob "pop" apos) args [] pos) c.env) σ Q X :=
  TE_methD PySem.F.slot_dict_pop PySem.F.type_dict_pop hb hform hline hp hn h
theorem m_items (hb : attributeBase ob "items" c.env (eval ob c.env) = eval ob c.env) (hform : methodCallForm (args.length + ([] : List Keyword).length) (backTo pos (starEach args c.env)) (backToKw pos (keywordEach [] c.env)) = true) (hline : (apos.endLine == pos.line) = true)
    (hp : Plain c.env args) (hn : (backTo pos (starEach args c.env)).any (·.1) = false)
    (h : TE D c (eval ob c.env) σ (fun a σ₁ => ∃ l xs, a = .obj l ∧ σ₁.hp l = some (.dict xs) ∧ TEs D c args σ₁ (fun as σ₂ => TO D c VR (.obj l :: as) (fun vs => call (.builtin "dict.items") vs) σ₂ Q X) X) X) : TE D c (eval (.Call (.Attribute ob "items" apos) args [] pos) c.env) σ Q X :=
  TE_methD PySem.F.slot_dict_items PySem.F.type_dict_items hb hform hline hp hn h
theorem m_values (hb : attributeBase ob "values" c.env (eval ob c.env) = eval ob c.env) (hform : methodCallForm (args.length + ([] : List Keyword).length) (backTo pos (starEach args c.env)) (backToKw pos (keywordEach [] c.env)) = true) (hline : (apos.endLine == pos.line) = true)
    (hp : Plain c.env args) (hn : (backTo pos (starEach args c.env)).any (·.1) = false)
    (h : TE D c (eval ob c.env) σ (fun a σ₁ => ∃ l xs, a = .obj l ∧ σ₁.hp l = some (.dict xs) ∧ TEs D c args σ₁ (fun as σ₂ => TO D c VR (.obj l :: as) (fun vs => call (.builtin "dict.values") vs) σ₂ Q X) X) X) : TE D c (eval (.Call (.Attribute ob "values" apos) args [] pos) c.env) σ Q X :=
  TE_methD PySem.F.slot_dict_values PySem.F.type_dict_values hb hform hline hp hn h
end


noncomputable def plainVar (fd : FuncData) (x : Str) : Bool := (match fd.scope.names.lookup x with | some .local => true | some .cell => true | some .free => true | _ => false) && !(x == ("__debug__" : Str)) && !(x == ("__classdict__" : Str))
theorem TE_v {D : Wd} {c : Cx} {σ : St} {Q : AV → St → Prop} {X : Int → St → Prop} {pos : Pos} {x : Str} {av : AV} {fd : FuncData} {f L : Addr} {room : Nat} (i : In fd f L room c) (hx : plainVar fd x = true) (hv : σ.vars.lookup x = some av) (h : Q av σ) : TE D c (eval (.Name x pos) c.env) σ Q X := by
  unfold plainVar at hx
  simp only [Bool.and_eq_true, Bool.not_eq_true'] at hx
  obtain ⟨⟨h1, h2⟩, h3⟩ := hx
  refine TE_name hv ?_ h h2 h3
  cases q : fd.scope.names.lookup x with
  | none => rw [q] at h1; cases h1
  | some k =>
    rw [q] at h1
    cases k with
    | «local» => exact .inl (i.kd q)
    | cell => exact .inr (.inl (i.kd q))
    | free => exact .inr (.inr (i.kd q))
    | _ => cases h1
end Mine

namespace Mine
open PySem PySem.W PySem.Calls PyProof.Rows PySem.SeqAt
/-! comprehensions, by what they say of each item -/
noncomputable def relN (scope : Scope) (fd : FuncData) : List (Str × NameKind) := scope.names.map fun (n, k) => if (k == NameKind.free && fd.scope.kind == .function && fd.scope.names.lookup n == some .cell) then (n, NameKind.cell) else (n, k)
structure InC (fd : FuncData) (scope : Scope) (c : Cx) : Prop where
  kd : ∀ y, c.env.kindOf y = (relN scope fd).lookup y
noncomputable def plainVarC (fd : FuncData) (scope : Scope) (x : Str) : Bool := (match (relN scope fd).lookup x with | some .local => true | some .cell => true | some .free => true | _ => false) && !(x == ("__debug__" : Str)) && !(x == ("__classdict__" : Str))
noncomputable def compOk (fd : FuncData) (scope : Scope) : Bool := (match scope.kind with | .function => true | _ => false) && scope.names.all (fun y => match y.2 with | .cell => false | _ => true) && scope.names.all (fun y => match y.2 with | .local => scope.names.lookup y.1 == some .local | _ => true)
noncomputable def capName (fd : FuncData) (scope : Scope) (x : Str) : Bool := (fd.scope.names.lookup x == some .cell || fd.scope.names.lookup x == some .free) && !((relN scope fd).lookup x == some .local)
noncomputable def CapsAre (fd : FuncData) (L : Addr) (scope : Scope) (cl : List (Str × Addr)) (vars : List (Str × AV)) : List (Str × AV) → Prop
  | [] => True
  | p :: r => (vars.lookup p.1 = some p.2 ∧ capName fd scope p.1 = true ∧ (cellsFrom (L + 1) fd.scope.names []).lookup p.1 = cl.lookup p.1) ∧ CapsAre fd L scope cl vars r
theorem CapsAre.get {fd : FuncData} {L : Addr} {scope : Scope} {cl : List (Str × Addr)} {vars : List (Str × AV)} : ∀ {caps : List (Str × AV)}, CapsAre fd L scope cl vars caps → ∀ p ∈ caps, vars.lookup p.1 = some p.2 ∧ capName fd scope p.1 = true ∧ (cellsFrom (L + 1) fd.scope.names []).lookup p.1 = cl.lookup p.1
  | [], _, p, h => nomatch h
  | q :: r, h, p, hp => by
    rcases List.mem_cons.mp hp with rfl | hp
    · exact h.1
    · exact h.2.get p hp
section
variable {D : Wd} {c : Cx} {σ : St} {X : Int → St → Prop} {fd : FuncData} {f L : Addr} {room : Nat} {scope : Scope} {cl : List (Str × Addr)}
theorem TE_vC {Q : AV → St → Prop} {pos : Pos} {x : Str} {av : AV} (i : InC fd scope c) (hx : plainVarC fd scope x = true) (hv : σ.vars.lookup x = some av) (h : Q av σ) : TE D c (eval (.Name x pos) c.env) σ Q X := by
  unfold plainVarC at hx
  simp only [Bool.and_eq_true, Bool.not_eq_true'] at hx
  obtain ⟨⟨h1, h2⟩, h3⟩ := hx
  refine TE_name hv ?_ h h2 h3
  rw [i.kd]
  cases q : (relN scope fd).lookup x with
  | none => rw [q] at h1; cases h1
  | some k =>
    rw [q] at h1
    cases k with
    | «local» => exact .inl rfl
    | cell => exact .inr (.inl rfl)
    | free => exact .inr (.inr rfl)
    | _ => cases h1
theorem InC.kd' {k : NameKind} {x : Str} (i : InC fd scope c) (h : (relN scope fd).lookup x = some k) : c.env.kindOf x = some k := (i.kd x).trans h
theorem tests_one (e : Expr) (env : Env) : tests [e] env = isTrue e env (eval e env) := by
  unfold tests
  simp
theorem T_tests0 {b : Bool} (h : b = true) : T D c EqR (tests [] c.env) σ (fun ok _ => ok = b) (fun _ _ => False) := fun s r => by
  subst h
  exact wpAny_pure ⟨true, σ, r, Ext.refl .., rfl, rfl⟩
theorem T_tests1 {e : Expr} {b : Bool} (h : TB D c (isTrue e c.env (eval e c.env)) σ (fun ok _ => ok = b) (fun _ _ => False)) : T D c EqR (tests [e] c.env) σ (fun ok _ => ok = b) (fun _ _ => False) := fun s r => by
  rw [tests_one]
  exact h s r
theorem rel_eq (i : In fd f L room c) : (relabel scope c.env).names = relN scope fd := by
  rw [i.env]; rfl
theorem inC (i : In fd f L room c) (C : Addr) : InC fd scope (compCx c scope cl C) := ⟨fun y => by
  show (relabel scope c.env).names.lookup y = _
  rw [rel_eq i]⟩
theorem compOk_of (h : compOk fd scope = true) : scope.kind = .function ∧ (∀ y ∈ scope.names, y.2 ≠ .cell) ∧ ∀ x ∈ scope.names, x.2 = .local → scope.names.lookup x.1 = some .local := by
  unfold compOk at h
  simp only [Bool.and_eq_true, List.all_eq_true] at h
  obtain ⟨⟨h1, h2⟩, h3⟩ := h
  refine ⟨?_, fun y hy e => ?_, fun x hx e => ?_⟩
  · cases q : scope.kind <;> rw [q] at h1 <;> first | rfl | cases h1
  · have := h2 y hy
    rw [e] at this; cases this
  · have := h3 x hx
    rw [e] at this
    exact beq_iff_eq.mp this
theorem capOk_of {caps : List (Str × AV)} (i : In fd f L room c) (ok : compOk fd scope = true) (hsub : ∀ p ∈ cl, p ∈ cellsFrom (L + 1) fd.scope.names []) (hap : (cl.map (·.2)).Pairwise (· ≠ ·)) (hc : CapsAre fd L scope cl σ.vars caps) : CapOk c scope cl σ caps := by
  obtain ⟨k1, k2, k3⟩ := compOk_of ok
  have ec : c.env.cells = cellsFrom (L + 1) fd.scope.names [] := by rw [i.env]; rfl
  refine ⟨k1, k2, fun p hp => by rw [ec]; exact hsub p hp, hap, fun p hp => ?_⟩
  obtain ⟨h1, h2, h3⟩ := hc.get p hp
  unfold capName at h2
  simp only [Bool.and_eq_true, Bool.or_eq_true, beq_iff_eq, Bool.not_eq_true', beq_eq_false_iff_ne] at h2
  refine ⟨h1, ?_, by rw [ec]; exact h3, by rw [rel_eq i]; exact h2.2⟩
  rcases h2.1 with q | q
  · exact .inl (i.kd q)
  · exact .inr (i.kd q)
/-- what is asked of a comprehension into a name -/
noncomputable def CompN (ι : Type) (D : Wd) (fd : FuncData) (L : Addr) (scope : Scope) (cl : List (Str × Addr)) (elt : Expr) (ifs : List Expr) (x : Str) (a : AV) (σ : St) (K : List AV → Prop) : Prop :=
  ∃ (items : List ι) (g f : ι → AV) (p : ι → Bool) (b : Bool) (caps : List (Str × AV)), Src σ g items a b ∧ items.length ≤ 1000 ∧ CapsAre fd L scope cl σ.vars caps ∧
    (∀ c'' y, InC fd scope c'' → y ∈ items → T D c'' EqR (tests ifs c''.env) ⟨(x, g y) :: caps, σ.hp⟩ (fun ok _ => ok = p y) (fun _ _ => False) ∧ (p y = true → TE D c'' (eval elt c''.env) ⟨(x, g y) :: caps, σ.hp⟩ (fun z _ => z = f y) (fun _ _ => False))) ∧
    K ((items.filter p).map f)
theorem compSays_of {ι : Type} {items : List ι} {g f' : ι → AV} {p : ι → Bool} {elt : Expr} {ifs : List Expr} {x : Str} {xp : Pos} {caps : List (Str × AV)} (i : In fd f L room c) (ok : compOk fd scope = true) (hx : (relN scope fd).lookup x = some .local) (hsub : ∀ p ∈ cl, p ∈ cellsFrom (L + 1) fd.scope.names []) (hap : (cl.map (·.2)).Pairwise (· ≠ ·)) (hc : CapsAre fd L scope cl σ.vars caps)
    (hq : ∀ c'' y, InC fd scope c'' → y ∈ items → T D c'' EqR (tests ifs c''.env) ⟨(x, g y) :: caps, σ.hp⟩ (fun ok _ => ok = p y) (fun _ _ => False) ∧ (p y = true → TE D c'' (eval elt c''.env) ⟨(x, g y) :: caps, σ.hp⟩ (fun z _ => z = f' y) (fun _ _ => False))) :
    CompSays D c scope cl caps σ (.Name x xp) elt ifs items g f' p (fun y => [(x, g y)]) := by
  refine ⟨capOk_of i ok hsub hap hc, fun C y hy => ⟨lays_name ?_ ?_ rfl, fun z av e => ?_⟩, fun C y hy => hq (compCx c scope cl C) y (inC i C) hy⟩
  · show (relabel scope c.env).names.lookup x = _
    rw [rel_eq i]; exact hx
  · show (scope.kind == .class || (scope.kind == .module && _)) = false
    rw [(compOk_of ok).1]; rfl
  · rw [rel_eq i]
    rw [lookup_cons'] at e
    split at e
    · rename_i q; rw [q]; exact hx
    · cases e
theorem TE_compN (ι : Type) {Q : AV → St → Prop} {elt iter : Expr} {ifs : List Expr} {x : Str} {xp pos : Pos} (i : In fd f L room c) (ok : compOk fd scope = true) (hx : (relN scope fd).lookup x = some .local) (hs : ∀ x, foldedSetIterable iter c.env x = pure x) (hcl : closureFor scope (callEnvC fd L f) = pure cl)
    (hsub : ∀ p ∈ cl, p ∈ cellsFrom (L + 1) fd.scope.names []) (hap : (cl.map (·.2)).Pairwise (· ≠ ·))
    (h : TE D c (eval iter c.env) σ (fun a σ₁ => CompN ι D fd L scope cl elt ifs x a σ₁ fun out => ∀ z, σ₁.hp z = none → Q (.obj z) { σ₁ with hp := σ₁.hp.set z (.list out) }) X) : TE D c (eval (.ListComp elt [⟨.Name x xp, iter, ifs, 0⟩] scope pos) c.env) σ Q X := by
  obtain ⟨k1, k2, k3⟩ := compOk_of ok
  intro s r
  rw [eval_ListComp]
  refine wpAny_comprehension_free (use := none) rfl hs (by rw [i.env]; exact hcl) k1 k3 (h.use r (Ext.refl ..) fun u s₁ a σ₁ r₁ _ e₁ v₁ q₁ => ?_)
  obtain ⟨items, g, f', p, b, caps, src, hz, hc, hq, hK⟩ := q₁
  refine comp_src (caps := caps) (tv := fun y => [(x, g y)]) (RR := fun acc C => compPost (model D.prog D.w) c.A (XP D c σ s X) none (fun v s' => ∃ b σ', Rep D c σ' s' ∧ Ext c σ s σ' s' ∧ VR s'.heap b v ∧ Q b σ') acc C) r₁ v₁ src hz (fun _ => ⟨_, _, rfl⟩) goes_name (compSays_of i ok hx hsub hap hc hq) fun Dl C h' tk m' ys n hD hC hDC hn hg hv kp => ⟨m', hn, fun h'' hs'' => ?_⟩
  have kp'' : ∀ a o, s₁.heap.get? a = some o → h''.get? a = some o := fun a o e => (hs''.2 a (fun q => by subst q; rw [hC] at e; cases e)).trans (kp a o e)
  obtain ⟨a1, a2⟩ := r₁.alloc (tk := tk) (o := .list ((items.filter p).map f')) kp'' hD ((hs''.2 Dl hDC).trans hg) ⟨ys, n, rfl, hv.mono (tk_but hn fun b o nb e => (hs''.2 b nb).trans e)⟩ (fun _ q => nomatch q)
  exact ⟨.obj Dl, _, a1, e₁.trans a2, rfl, hK Dl (r₁.untracked hD)⟩
end
/-! names within a lambda's body -/
structure InL (scope : Scope) (room : Nat) (c : Cx) : Prop where
  kd : ∀ y, c.env.kindOf y = scope.names.lookup y
  pur : c.pur = false
  room : c.room = room
noncomputable def plainVarL (scope : Scope) (x : Str) : Bool := (match scope.names.lookup x with | some .local => true | some .cell => true | some .free => true | _ => false) && !(x == ("__debug__" : Str)) && !(x == ("__classdict__" : Str))
section
variable {D : Wd} {c : Cx} {σ : St} {X : Int → St → Prop} {Q : AV → St → Prop}
theorem TE_vL {scope : Scope} {room : Nat} {pos : Pos} {x : Str} {av : AV} (i : InL scope room c) (hx : plainVarL scope x = true) (hv : σ.vars.lookup x = some av) (h : Q av σ) : TE D c (eval (.Name x pos) c.env) σ Q X := by
  unfold plainVarL at hx
  simp only [Bool.and_eq_true, Bool.not_eq_true'] at hx
  obtain ⟨⟨h1, h2⟩, h3⟩ := hx
  refine TE_name hv ?_ h h2 h3
  rw [i.kd]
  cases q : scope.names.lookup x with
  | none => rw [q] at h1; cases h1
  | some k =>
    rw [q] at h1
    cases k with
    | «local» => exact .inl rfl
    | cell => exact .inr (.inl rfl)
    | free => exact .inr (.inr rfl)
    | _ => cases h1
end
end Mine

namespace Mine
open PySem PySem.W PySem.Calls PyProof.Rows PySem.SeqAt
local macro_rules | `(tactic| walk_at "kd") => `(tactic| first | exact In.kd ‹In _ _ _ _ _› rfl | exact InC.kd' ‹InC _ _ _› rfl | exact (InL.kd ‹InL _ _ _› _).trans rfl)
local macro_rules | `(tactic| walk_at "var") => `(tactic| first | exact .inl (In.kd ‹In _ _ _ _ _› rfl) | exact .inr (.inl (In.kd ‹In _ _ _ _ _› rfl)) | exact .inr (.inr (In.kd ‹In _ _ _ _ _› rfl)))
local macro_rules | `(tactic| walk_at "sto") => `(tactic| first | exact .inl (In.kd ‹In _ _ _ _ _› rfl) | exact .inr ⟨In.kd ‹In _ _ _ _ _› rfl, by rw [In.env ‹In _ _ _ _ _›]; rfl⟩)
local macro_rules | `(tactic| walk_at "pl") => `(tactic| (repeat (first | exact trivial | refine ⟨rfl, ?_⟩)))
local macro_rules | `(tactic| walk_at "ne") => `(tactic| first | assumption | (apply Ne.symm; assumption) | exact Hp.ne_tag (by assumption) (by assumption) (by decide))
local macro_rules | `(tactic| walk_at "hp") => `(tactic| first | assumption | exact Hp.set_eq | ((with_reducible refine Hp.set_new ?_ ?_); assumption; walk_at "hp") | ((with_reducible refine Hp.set_ne ?_ ?_); walk_at "ne"; walk_at "hp"))
local macro_rules | `(tactic| walk_at "W") => `(tactic| first
  | with_reducible refine TF_cons ?_
  | with_reducible refine TF_nil ?_
  | with_reducible refine TF_if ?_
  | with_reducible refine TF_return ?_
  | with_reducible refine TF_return0 ?_
  | ((with_reducible refine TF_expr ?_ ?_); rfl)
  | ((with_reducible refine TF_assign ?_ ?_ ?_ ?_); rfl; rfl; rfl)
  | with_reducible refine TE_int ?_
  | with_reducible refine TE_none ?_
  | with_reducible refine TE_bool ?_
  | with_reducible refine TE_str ?_
  | with_reducible refine TE_bytes ?_
  | ((with_reducible refine TE_v (av := ?av) ‹In _ _ _ _ _› ?hx ?hv ?h); (case hx => decide +kernel); (case hv => rfl))
  | ((with_reducible refine TE_vC (av := ?av) ‹InC _ _ _› ?hx ?hv ?h); (case hx => decide +kernel); (case hv => rfl))
  | ((with_reducible refine TE_vL (av := ?av) ‹InL _ _ _› ?hx ?hv ?h); (case hx => decide +kernel); (case hv => rfl))
  | with_reducible refine T_tests0 ?_
  | with_reducible refine T_tests1 ?_
  | with_reducible refine TE_binop ?_
  | ((with_reducible refine TE_cmp ?_ ?_); rfl)
  | ((with_reducible refine TB_cmp ?_ ?_); rfl)
  | with_reducible refine TB_not ?_
  | with_reducible refine TB_bool ?_
  | with_reducible refine TB_and ?_
  | with_reducible refine TB_or ?_
  | with_reducible refine TB_and_nil ?_
  | with_reducible refine TB_or_nil ?_
  | ((with_reducible refine TB_val ?_ ?_); exact fun _ _ => rfl)
  | with_reducible refine TE_ifexp ?_
  | with_reducible refine TE_not ?_
  | with_reducible refine TE_and ?_
  | ((with_reducible refine TE_attr ?_ ?_); rfl)
  | with_reducible refine TE_sub ?_
  | with_reducible refine TEs_cons ?_
  | with_reducible refine TEs_nil ?_
  | ((with_reducible refine TE_tuple ?_ ?_ ?_); walk_at "pl"; exact Nat.le_of_ble_eq_true rfl)
  | ((with_reducible refine TE_list ?_ ?_ ?_); walk_at "pl"; exact Nat.le_of_ble_eq_true rfl)
  | with_reducible refine O_add ?_
  | with_reducible refine O_sub ?_
  | with_reducible refine O_eq ?_
  | with_reducible refine O_ne ?_
  | with_reducible refine O_lt ?_
  | with_reducible refine O_le ?_
  | with_reducible refine O_gt ?_
  | with_reducible refine O_ge ?_
  | with_reducible refine O_iadd ?_
  | ((with_reducible refine TA_name ?_ ?_ ?_); exact In.pur ‹In _ _ _ _ _›; walk_at "sto")
  | with_reducible refine TA_attr ?_
  | ((with_reducible refine TA_item ?_ ?_); exact fun _ _ _ h => nomatch h)
  | with_reducible refine TF_augAttr ?_
  | with_reducible refine ⟨_, rfl, ?_⟩
  | dsimp only [thenDo, St.put]
  | fail "W: no rule")
local macro_rules | `(tactic| walk_at "C") => `(tactic| first
  | ((with_reducible (first | refine c__law_code ‹PF _› ?_ ?_ ?_ ?_ | refine c__law_id ‹PF _› ?_ ?_ ?_ ?_ | refine c__law_wrong_right ‹PF _› ?_ ?_ ?_ ?_ | refine c__law_stands ‹PF _› ?_ ?_ ?_ ?_ | refine c_LocalIds ‹PF _› ?_ ?_ ?_ ?_ | refine c_RemoteIds ‹PF _› ?_ ?_ ?_ ?_ | refine c_QuicError ‹PF _› ?_ ?_ ?_ ?_ | refine c_len ‹PF _› ?_ ?_ ?_ ?_ | refine c_max ‹PF _› ?_ ?_ ?_ ?_ | refine c_min ‹PF _› ?_ ?_ ?_ ?_ | refine c_sorted ‹PF _› ?_ ?_ ?_ ?_ | refine c_abs ‹PF _› ?_ ?_ ?_ ?_ | refine c_dict ‹PF _› ?_ ?_ ?_ ?_ | refine c_list ‹PF _› ?_ ?_ ?_ ?_ | refine c_bytes ‹PF _› ?_ ?_ ?_ ?_ | refine c_str ‹PF _› ?_ ?_ ?_ ?_)); walk_at "kd"; walk_at "pl"; rfl)
  | ((with_reducible (first | refine m_kept_count ‹PF _› ?_ ?_ ?_ ?_ ?_ ?_ | refine m_may_issue ‹PF _› ?_ ?_ ?_ ?_ ?_ ?_ | refine m_issue ‹PF _› ?_ ?_ ?_ ?_ ?_ ?_ | refine m_ask_to_retire ‹PF _› ?_ ?_ ?_ ?_ ?_ ?_ | refine m_on_retire ‹PF _› ?_ ?_ ?_ ?_ ?_ ?_ | refine m_sequence_of ‹PF _› ?_ ?_ ?_ ?_ ?_ ?_ | refine m_check_new ‹PF _› ?_ ?_ ?_ ?_ ?_ ?_ | refine m_on_new ‹PF _› ?_ ?_ ?_ ?_ ?_ ?_ | refine m_retire_below ‹PF _› ?_ ?_ ?_ ?_ ?_ ?_ | refine m_retire ‹PF _› ?_ ?_ ?_ ?_ ?_ ?_ | refine m_use ‹PF _› ?_ ?_ ?_ ?_ ?_ ?_ | refine m_present ‹PF _› ?_ ?_ ?_ ?_ ?_ ?_ | refine m_fresh ‹PF _› ?_ ?_ ?_ ?_ ?_ ?_ | refine m_change ‹PF _› ?_ ?_ ?_ ?_ ?_ ?_ | refine m_frames ‹PF _› ?_ ?_ ?_ ?_ ?_ ?_ | refine m_append ?_ ?_ ?_ ?_ ?_ ?_ | refine m_pop ?_ ?_ ?_ ?_ ?_ ?_ | refine m_items ?_ ?_ ?_ ?_ ?_ ?_ | refine m_values ?_ ?_ ?_ ?_ ?_ ?_)); rfl; rfl; rfl; walk_at "pl"; rfl)
  | ((with_reducible (first | refine n_CONNECTION_ID_LIMIT_ERROR ‹PF _› ?_ ?_ | refine n_PROTOCOL_VIOLATION ‹PF _› ?_ ?_ | refine n_FRAME_NEW ‹PF _› ?_ ?_ | refine n_FRAME_RETIRE ‹PF _› ?_ ?_)); walk_at "kd"))
local macro_rules | `(tactic| walk_at "T") => `(tactic| refine ⟨fun _ => ?_, fun q => nomatch q⟩)
local macro_rules | `(tactic| walk_at "F") => `(tactic| refine ⟨fun q => (nomatch q), fun _ => ?_⟩)
local macro_rules | `(tactic| walk_at "WW") => `(tactic| repeat (first | walk_at "W" | walk_at "C"))
/-! the issuer -/
structure IA where
  (x d i : Addr)
structure IV where
  (limit next prior : Int)
  (issued : List (Int × Array UInt8))
  (empty : Bool)
noncomputable def byts (l : List (Int × Array UInt8)) : List (Int × AV) := l.map fun p => (p.1, .bytes p.2)
noncomputable def IV.ns (a : IA) (v : IV) : List (Str × AV) := [("limit", .int v.limit), ("issued", .obj a.i), ("next_sequence", .int v.next), ("retire_prior", .int v.prior), ("is_empty", .bool v.empty)]
structure Iss (H : Hp) (a : IA) (v : IV) : Prop where
  x : H a.x = some (.inst 98 a.d)
  d : H a.d = some (.ns (v.ns a))
  i : H a.i = some (.dict (byts v.issued))
theorem Iss.but {H H' : Hp} {a : IA} {v : IV} {m : List Addr} (h : Iss H a v) (b : H.But H' m) (n : a.x ∉ m ∧ a.d ∉ m ∧ a.i ∉ m) : Iss H' a v := ⟨b _ _ n.1 h.x, b _ _ n.2.1 h.d, b _ _ n.2.2 h.i⟩
theorem byts_length (l : List (Int × Array UInt8)) : (byts l).length = l.length := List.length_map ..
noncomputable def keptOf (v : IV) : Nat := (v.issued.filter fun p => decide (v.prior ≤ p.1)).length

section
variable {D : Wd} {c : Cx} {σ : St} {X : Int → St → Prop} {Q : AV → St → Prop}
theorem kept_count_ok (pf : PF D) {a : IA} {v : IV} (hi : Iss σ.hp a v) (hz : v.issued.length ≤ 1000) (hpu : c.pur = false) (hr : 2 < c.room) (h : ∀ H', σ.hp.But H' [] → Q (.int (keptOf v)) ⟨σ.vars, H'⟩) :
    TO D c VR [.obj a.x] (fun vs => call (.ref 60) vs) σ Q X := by
  have h1 := hi.x
  have h2 := hi.d
  have h3 := hi.i
  refine TO_fn' (room := 0) (fn60 pf) rfl hpu (by omega) fun L c' i => ?_
  unfold b60
  walk_at "W"
  walk_at "W"
  walk_at "C"
  walk_at "W"
  refine TE_compN (Int × Array UInt8) i rfl rfl (fun _ => rfl) rfl (fun p hp => by rcases List.mem_cons.mp hp with rfl | hp; exact mem_of_lookup rfl; cases hp) (List.pairwise_singleton ..) ?_
  walk_at "W"
  walk_at "W"
  refine O_attr h1 h2 rfl (sa98_issued pf) rfl ?_
  refine ⟨v.issued, fun p => .int p.1, fun p => .int p.1, fun p => decide (v.prior ≤ p.1), false, [("self", .obj a.x)], .dict h3 (by simp [byts]), hz, ⟨⟨rfl, by kernel_rfl, rfl⟩, trivial⟩, fun c'' y ic hy => ⟨?_, fun hp => ?_⟩, fun z hz => ?_⟩
  · walk_at "W"
    walk_at "W"
    walk_at "W"
    walk_at "W"
    walk_at "W"
    refine O_attr h1 h2 rfl (sa98_retire_prior pf) rfl ?_
    walk_at "W"
    exact ⟨_, rfl, rfl⟩
  · walk_at "W"
    rfl
  · walk_at "W"
    refine B_len_list Hp.set_eq (by rw [List.length_map]; exact Nat.le_trans (List.length_filter_le ..) ‹_›) ?_
    rw [List.length_map]
    exact h _ ((Hp.But.refl _ _).new hz)

noncomputable def mayOf (v : IV) : Bool := !v.empty && decide ((keptOf v : Int) < v.limit)
theorem may_issue_ok (pf : PF D) {a : IA} {v : IV} (hi : Iss σ.hp a v) (hz : v.issued.length ≤ 1000) (hpu : c.pur = false) (hr : 5 < c.room) (h : ∀ H', σ.hp.But H' [] → Q (.bool (mayOf v)) ⟨σ.vars, H'⟩) :
    TO D c VR [.obj a.x] (fun vs => call (.ref 67) vs) σ Q X := by
  have h1 := hi.x
  have h2 := hi.d
  have h3 := hi.i
  refine TO_fn' (room := 3) (fn67 pf) rfl hpu (by omega) fun L c' i => ?_
  unfold b67
  walk_at "W"
  walk_at "W"
  walk_at "W"
  walk_at "W"
  walk_at "W"
  walk_at "W"
  refine O_attr h1 h2 rfl (sa98_is_empty pf) rfl ?_
  walk_at "W"
  walk_at "W"
  refine ⟨fun hb => ?_, fun hb => ?_⟩
  · walk_at "W"
    walk_at "C"
    walk_at "W"
    refine ⟨_, _, _, rfl, h1, h2, rfl, ?_⟩
    walk_at "W"
    refine kept_count_ok pf hi hz i.pur (by rw [i.room]; omega) fun H' bt => ?_
    walk_at "W"
    walk_at "W"
    have hi' := hi.but bt (by simp)
    refine O_attr hi'.x hi'.d rfl (sa98_limit pf) rfl ?_
    walk_at "W"
    have e : mayOf v = decide ((keptOf v : Int) < v.limit) := by unfold mayOf; rw [hb]; rfl
    rw [← e]
    exact h _ bt
  · have e : mayOf v = false := by unfold mayOf; rw [hb]; rfl
    have := h _ (Hp.But.refl _ _)
    rw [e] at this
    exact this

theorem put98_issued (a : IA) (v : IV) (n : Addr) : nsPut "issued" (.obj n) (v.ns a) = v.ns { a with i := n } := by kernel_rfl
theorem put98_next (a : IA) (v : IV) (n : Int) : nsPut "next_sequence" (.int n) (v.ns a) = ({ v with next := n } : IV).ns a := by kernel_rfl
theorem put98_prior (a : IA) (v : IV) (n : Int) : nsPut "retire_prior" (.int n) (v.ns a) = ({ v with prior := n } : IV).ns a := by kernel_rfl
theorem byts_put {l : List (Int × Array UInt8)} {k : Int} {b : Array UInt8} (h : k ∉ l.map (·.1)) : dPut (byts l) k (.bytes b) = byts (l ++ [(k, b)]) := by
  unfold dPut
  rw [if_neg]
  · simp [byts]
  · simp only [byts, List.any_map, List.any_eq_true, not_exists, not_and]
    intro p hp e
    exact h (List.mem_map.mpr ⟨p, hp, by simpa using e⟩)
theorem byts_any (l : List (Int × Array UInt8)) (b : Array UInt8) : ((byts l).any fun p => isBytes b p.2) = l.any fun p => p.2 == b := by
  simp only [byts, List.any_map]; rfl
theorem byts_all (l : List (Int × Array UInt8)) : ∀ p ∈ byts l, ∃ a, p.2 = .bytes a := fun p hp => by
  obtain ⟨q, _, rfl⟩ := List.mem_map.mp hp
  exact ⟨_, rfl⟩
noncomputable def issueOf (v : IV) (b : Array UInt8) : Bool := mayOf v && !(v.issued.any fun p => p.2 == b)
noncomputable def frameName : Str := "new_connection_id"
theorem issue_ok (pf : PF D) {a : IA} {v : IV} {b t : Array UInt8} (hi : Iss σ.hp a v) (hz : v.issued.length ≤ 500) (hn : v.next ∉ v.issued.map (·.1)) (hpu : c.pur = false) (hr : 9 < c.room)
    (h1 : issueOf v b = false → ∀ H', σ.hp.But H' [] → Q .none ⟨σ.vars, H'⟩)
    (h2 : issueOf v b = true → ∀ H', σ.hp.But H' [a.d, a.i] → Iss H' a { v with issued := v.issued ++ [(v.next, b)], next := v.next + 1 } → Q (.tup [.str frameName, .int v.next, .int v.prior, .bytes b, .bytes t]) ⟨σ.vars, H'⟩) :
    TO D c VR [.obj a.x, .bytes b, .bytes t] (fun vs => call (.ref 74) vs) σ Q X := by
  refine TO_fn' (room := 7) (fn74 pf) rfl hpu (by omega) fun L c' i => ?_
  unfold b74
  walk_at "WW"
  refine ⟨_, _, _, rfl, hi.x, hi.d, rfl, ?_⟩
  walk_at "WW"
  refine may_issue_ok pf hi (by omega) i.pur (by rw [i.room]; omega) fun H₁ b1 => ?_
  have i1 := hi.but b1 (by simp)
  walk_at "WW"
  refine ⟨fun hb => ?_, fun hb => ?_⟩
  · walk_at "T"
    walk_at "WW"
    exact h1 (by unfold issueOf; revert hb; cases mayOf v <;> simp) _ b1
  · walk_at "WW"
    refine O_attr i1.x i1.d rfl (sa98_issued pf) rfl ?_
    refine ⟨_, _, rfl, i1.i, ?_⟩
    walk_at "WW"
    refine B_values i1.i fun z hz1 => ?_
    refine O_in_view Hp.set_eq (Hp.set_new hz1 i1.i) (byts_all _) ?_
    rw [byts_any]
    walk_at "WW"
    refine ⟨fun hb2 => ?_, fun hb2 => ?_⟩
    · walk_at "T"
      walk_at "WW"
      exact h1 (by unfold issueOf; rw [hb2]; cases mayOf v <;> rfl) _ (b1.new hz1)
    · walk_at "WW"
      walk_at "F"
      walk_at "WW"
      have b2 : σ.hp.But _ [a.d, a.i] := (b1.new hz1 (o := .view a.i)).mono (fun _ h => nomatch h)
      have i2 := hi.but (b1.new hz1 (o := .view a.i)) (by simp)
      have nx : a.x ≠ a.i := Hp.ne_tag i2.x i2.i rfl
      have nd : a.d ≠ a.i := Hp.ne_tag i2.d i2.i rfl
      have nxd : a.x ≠ a.d := Hp.ne_tag i2.x i2.d rfl
      refine O_attr i2.x i2.d rfl (sa98_next_sequence pf) rfl ?_
      walk_at "WW"
      refine O_attr i2.x i2.d rfl (sa98_issued pf) rfl ?_
      walk_at "WW"
      refine O_setitem i.pur i2.i (by rw [byts_length]; omega) ?_
      walk_at "WW"
      rw [byts_put hn]
      refine O_attr (Hp.set_ne nx i2.x) (Hp.set_ne nd i2.d) rfl (sa98_next_sequence pf) rfl ?_
      walk_at "WW"
      refine O_setattr i.pur (Hp.set_ne nx i2.x) (Hp.set_ne nd i2.d) (ss98_next_sequence pf) (by show 5 ≤ 900; omega) ?_
      rw [put98_next]
      walk_at "WW"
      refine O_attr (Hp.set_ne nxd (Hp.set_ne nx i2.x)) Hp.set_eq rfl (sa98_retire_prior pf) rfl ?_
      walk_at "WW"
      refine h2 (by unfold issueOf; rw [hb2]; revert hb; cases mayOf v <;> simp) _ ((b2.set (by simp)).set (by simp)) ⟨Hp.set_ne nxd (Hp.set_ne nx i2.x), Hp.set_eq, Hp.set_ne (Ne.symm nd) Hp.set_eq⟩
theorem ifmax (a b : Int) : (if b > a then b else a) = max a b := by omega
theorem ifmin (a b : Int) : (if b < a then b else a) = min a b := by omega
theorem ask_ok (pf : PF D) {a : IA} {v : IV} {p : Int} (hi : Iss σ.hp a v) (hpu : c.pur = false) (hr : 2 < c.room)
    (h : ∀ H', σ.hp.But H' [a.d] → Iss H' a { v with prior := max v.prior (min p v.next) } → Q .none ⟨σ.vars, H'⟩) :
    TO D c VR [.obj a.x, .int p] (fun vs => call (.ref 81) vs) σ Q X := by
  refine TO_fn' (room := 0) (fn81 pf) rfl hpu (by omega) fun L c' i => ?_
  unfold b81
  walk_at "WW"
  refine O_attr hi.x hi.d rfl (sa98_retire_prior pf) rfl ?_
  walk_at "WW"
  refine O_attr hi.x hi.d rfl (sa98_next_sequence pf) rfl ?_
  walk_at "WW"
  refine B_min i.pur ?_
  rw [ifmin]
  walk_at "WW"
  refine B_max i.pur ?_
  rw [ifmax]
  walk_at "WW"
  refine O_setattr i.pur hi.x hi.d (ss98_retire_prior pf) (by show 5 ≤ 900; omega) ?_
  rw [put98_prior]
  walk_at "WW"
  have nxd : a.x ≠ a.d := Hp.ne_tag hi.x hi.d rfl
  have nid : a.i ≠ a.d := Hp.ne_tag hi.i hi.d rfl
  exact h _ ((Hp.But.refl _ _).set (by simp)) ⟨Hp.set_ne nxd hi.x, Hp.set_eq, Hp.set_ne nid hi.i⟩
end
/-! fewer names known -/
noncomputable def Sub (v' v : List (Str × AV)) : Prop := ∀ x av, v'.lookup x = some av → v.lookup x = some av
theorem Sub.refl (v : List (Str × AV)) : Sub v v := fun _ _ h => h
theorem Sub.trans {a b c : List (Str × AV)} (x : Sub a b) (y : Sub b c) : Sub a c := fun n av h => y n av (x n av h)
theorem Sub.new {v : List (Str × AV)} {n : Str} {a : AV} (h : v.lookup n = none) : Sub v ((n, a) :: v) := fun x av e => by
  rw [lookup_cons']
  rw [if_neg (fun q => by subst q; rw [h] at e; cases e)]
  exact e
theorem Sub.both {v v' : List (Str × AV)} {p : Str × AV} (h : Sub v' v) : Sub (p :: v') (p :: v) := fun x av e => by
  obtain ⟨n, a⟩ := p
  rw [lookup_cons'] at e ⊢
  split
  · rename_i q; rw [if_pos q] at e; exact e
  · rename_i q; rw [if_neg q] at e; exact h x av e
theorem Sub.nil (v : List (Str × AV)) : Sub [] v := fun _ _ h => nomatch h
theorem Sub.cons {v' v : List (Str × AV)} {n : Str} {a : AV} (h : v.lookup n = some a) (t : Sub v' v) : Sub ((n, a) :: v') v := fun x av e => by
  rw [lookup_cons'] at e
  split at e
  · rename_i q; cases e; rw [q]; exact h
  · exact t x av e
section
variable {D : Wd} {c : Cx} {H : Hp} {vars vars' : List (Str × AV)} {X : Int → St → Prop}
theorem FrRep.sub {env : Env} {h : Heap} (s : Sub vars' vars) (x : FrRep env vars h) : FrRep env vars' h :=
  ⟨let ⟨m, n, hl⟩ := x.loc; ⟨m, n, fun y av e1 e2 => hl y av (s y av e1) e2⟩, fun y av e1 e2 => x.cell y av (s y av e1) e2, x.cells⟩
theorem Rep.sub {s : Shared} (b : Sub vars' vars) (r : Rep D c ⟨vars, H⟩ s) : Rep D c ⟨vars', H⟩ s :=
  ⟨r.st, r.ok, r.hp, r.fresh, r.apart, r.fr.sub b, r.base, r.baseA, r.same, r.ff, r.fapart, r.nm⟩
theorem Ext.sub {s s' : Shared} {σ' : St} (x : Ext c ⟨vars', H⟩ s σ' s') : Ext c ⟨vars, H⟩ s σ' s' := ⟨x.keep, x.trk, x.ex, x.tk, x.pur⟩
theorem XP.sub {s s' : Shared} {e : Value} (x : XP D c ⟨vars', H⟩ s X e s') : XP D c ⟨vars, H⟩ s X e s' :=
  let ⟨σ', ea, k, e1, r, y, i, q⟩ := x; ⟨σ', ea, k, e1, r, y.sub, i, q⟩
theorem T.sub {α β : Type} {R : Heap → β → α → Prop} {t : Sem α} {Q : β → St → Prop} (b : Sub vars' vars) (h : T D c R t ⟨vars', H⟩ Q X) : T D c R t ⟨vars, H⟩ Q X := fun s r =>
  wpAny_mono (h s (r.sub b)) (fun _ _ ⟨b, σ', a1, a2, a3, a4⟩ => ⟨b, σ', a1, a2.sub, a3, a4⟩) fun _ _ y => y.sub
theorem TO1.sub {α β : Type} {R : Heap → β → α → Prop} {a : AV} {t : Value → Sem α} {Q : β → St → Prop} (b : Sub vars' vars) (h : TO1 D c R a t ⟨vars', H⟩ Q X) : TO1 D c R a t ⟨vars, H⟩ Q X := fun s u r v =>
  wpAny_mono (h s u (r.sub b) v) (fun _ _ ⟨b, σ', a1, a2, a3, a4⟩ => ⟨b, σ', a1, a2.sub, a3, a4⟩) fun _ _ y => y.sub
theorem LoopD_nil {target : Expr} {body : List Stmt} {d : Addr} {kvs : List (Int × AV)} {ob : Obj} {σ : St} {Q : AF → St → Prop} (h : Q .next (σ.at d (.dict kvs))) : LoopD D c target body d kvs ob [] σ Q X := h
theorem LoopD_cons {target : Expr} {body : List Stmt} {d : Addr} {kvs : List (Int × AV)} {ob : Obj} {k : Int} {r : List Int} {σ : St} {Q : AF → St → Prop} (h : TO1 D c EqR (.int k) (fun v => assign target c.env v) σ (fun _ σ₂ => TF D c (execs body c.env) σ₂ (fun fl σ₃ => σ₃.hp d = some (.dictx kvs ob) ∧ match fl with
      | .ret v => Q (.ret v) (σ₃.at d (.dict kvs))
      | .brk => Q .next (σ₃.at d (.dict kvs))
      | _ => LoopD D c target body d kvs ob r σ₃ Q X) (fun k σ' => σ'.hp d = some (.dictx kvs ob) ∧ X k (σ'.at d (.dict kvs)))) (fun k σ' => σ'.hp d = some (.dictx kvs ob) ∧ X k (σ'.at d (.dict kvs)))) : LoopD D c target body d kvs ob (k :: r) σ Q X := h
theorem LoopL_nil {target : Expr} {body : List Stmt} {l : Addr} {all : List AV} {σ : St} {Q : AF → St → Prop} (h : Q .next σ) : LoopL D c target body l all [] σ Q X := h
theorem LoopL_cons {target : Expr} {body : List Stmt} {l : Addr} {all r : List AV} {x : AV} {σ : St} {Q : AF → St → Prop} (h : TO1 D c EqR x (fun v => assign target c.env v) σ (fun _ σ₂ => TF D c (execs body c.env) σ₂ (fun fl σ₃ => match fl with
      | .ret v => Q (.ret v) σ₃
      | .brk => Q .next σ₃
      | _ => σ₃.hp l = some (.list all) ∧ LoopL D c target body l all r σ₃ Q X) X) X) : LoopL D c target body l all (x :: r) σ Q X := h
end
theorem Hp.set_set {H : Hp} {a : Addr} {o p : AO} : (H.set a o).set a p = H.set a p := by
  funext b; unfold Hp.set; split <;> rfl
theorem Hp.set_same {H : Hp} {a : Addr} {o : AO} (h : H a = some o) : H.set a o = H := by
  funext b; unfold Hp.set; split
  · rename_i q; rw [q, h]
  · rfl
section
variable {D : Wd} {c : Cx} {σ : St} {X : Int → St → Prop} {Q : AV → St → Prop}
theorem byts_keys (l : List (Int × Array UInt8)) : (byts l).map (·.1) = l.map (·.1) := by simp only [byts, List.map_map]; rfl
noncomputable def seqOf (v : IV) (b : Array UInt8) : AV := match v.issued.find? fun p => p.2 == b with
  | some p => .int p.1
  | none => .none
theorem seq_ok (pf : PF D) {a : IA} {v : IV} {b : Array UInt8} (hi : Iss σ.hp a v) (hn : (v.issued.map (·.1)).Nodup) (hpu : c.pur = false) (hr : 2 < c.room) (h : ∀ H', σ.hp.But H' [] → Q (seqOf v b) ⟨σ.vars, H'⟩) :
    TO D c VR [.obj a.x, .bytes b] (fun vs => call (.ref 95) vs) σ Q X := by
  refine TO_fn' (room := 0) (fn95 pf) rfl hpu (by omega) fun L c' i => ?_
  unfold b95
  obtain ⟨o, fr⟩ := i.frames
  walk_at "W"
  refine TF_for_dict (fun _ => rfl) i.pur fr i.frame ?_
  walk_at "WW"
  refine O_attr hi.x hi.d rfl (sa98_issued pf) rfl ?_
  refine ⟨_, _, rfl, hi.i, fun ob => ?_⟩
  have nx : a.x ≠ a.i := Hp.ne_tag hi.x hi.i rfl
  have nd : a.d ≠ a.i := Hp.ne_tag hi.d hi.i rfl
  have back : ∀ vars, (St.at ⟨vars, σ.hp.set a.i (.dictx (byts v.issued) ob)⟩ a.i (.dict (byts v.issued))) = ⟨vars, σ.hp⟩ := fun vars => by
    unfold St.at; rw [Hp.set_set, Hp.set_same hi.i]
  suffices go : ∀ (r : List (Int × Array UInt8)) (vars : List (Str × AV)), Sub [("self", .obj a.x), ("cid", .bytes b)] vars → (∃ pre, v.issued = pre ++ r ∧ ∀ p ∈ pre, (p.2 == b) = false) →
      LoopD D c' _ _ a.i (byts v.issued) ob (r.map (·.1)) ⟨vars, σ.hp.set a.i (.dictx (byts v.issued) ob)⟩ _ _ by
    have := go v.issued _ (Sub.cons rfl (Sub.cons rfl (Sub.nil (bindV ["self", "cid"] [.obj a.x, .bytes b] [])))) ⟨[], rfl, fun _ h => nomatch h⟩
    rw [← byts_keys] at this
    exact this
  intro r
  induction r with
  | nil =>
    intro vars sub ⟨pre, e, hp⟩
    refine LoopD_nil ?_
    rw [back]
    walk_at "WW"
    have : seqOf v b = .none := by
      unfold seqOf
      rw [e, List.append_nil, List.find?_eq_none.mpr (fun p hp' => by rw [hp p hp']; simp)]
    rw [← this]
    exact h _ (Hp.But.refl _ _)
  | cons p r ih =>
    intro vars sub ⟨pre, e, hp⟩
    refine LoopD_cons ?_
    refine TO1.sub sub ?_
    walk_at "WW"
    refine O_attr (Hp.set_ne nx hi.x) (Hp.set_ne nd hi.d) rfl (sa98_issued pf) rfl ?_
    walk_at "WW"
    have hl : (byts v.issued).lookup p.1 = some (.bytes p.2) := by
      have : (p.1, AV.bytes p.2) ∈ byts v.issued := List.mem_map.mpr ⟨p, by rw [e]; simp, rfl⟩
      exact lookup_nodup (by rw [byts_keys]; exact hn) this
    refine O_item_dictx (fun _ _ => rfl) Hp.set_eq hl ?_
    walk_at "WW"
    refine O_eq_bytes ?_
    walk_at "WW"
    refine ⟨fun hb => ?_, fun hb => ?_⟩
    · walk_at "WW"
      refine ⟨Hp.set_eq, ?_⟩
      rw [back]
      have : seqOf v b = .int p.1 := by
        unfold seqOf
        rw [e, List.find?_append, List.find?_eq_none.mpr (fun p hp' => by rw [hp p hp']; simp), List.find?_cons, hb]; rfl
      rw [← this]
      exact h _ (Hp.But.refl _ _)
    · walk_at "WW"
      refine ⟨Hp.set_eq, ih _ (Sub.new rfl) ⟨pre ++ [p], by rw [e]; simp, fun q hq => ?_⟩⟩
      rcases List.mem_append.mp hq with hq | hq
      · exact hp q hq
      · rw [List.mem_singleton.mp hq]; exact hb
end
theorem Hp.But.del {H H' : Hp} {m : List Addr} {z : Addr} (x : H.But H' m) (hz : H z = none) : H.But (H'.del z) m := fun a o n h => by
  unfold Hp.del
  rw [if_neg (fun q => by subst q; rw [hz] at h; cases h)]
  exact x a o n h
theorem Hp.But.fresh {H H' : Hp} {m : List Addr} {z : Addr} {o : AO} (x : H.But H' m) (hz : H z = none) : H.But (H'.set z o) m := fun a p n h => Hp.set_ne (fun q => by subst q; rw [hz] at h; cases h) (x a p n h)
section
variable {D : Wd} {c : Cx} {σ : St} {X : Int → St → Prop}
theorem str_len (k : Int) (h : k = 9 ∨ k = 10) : (toString k : Str).length ≤ 10 := by
  rcases h with rfl | rfl <;> decide +kernel
theorem exc_type : typeOf (.type "Exception") = pure (.type "type") := by first | rfl | kernel_rfl
theorem exc_stub : Manifest.isStub "Exception" = false := by first | decide +kernel | kernel_rfl
theorem exc_find : findCls [] (.type "Exception") (.type "type") "__init__" = some (.val (.builtin "Exception.__init__")) := by kernel_rfl
theorem exc_init (pf : PF D) {code ft : Int} {text : Str} (hc : code = 9 ∨ code = 10) (ht : text.length ≤ 500) {Q : AV → St → Prop} (hpu : c.pur = false) (hr : 3 < c.room)
    (h : ∀ x d ob vs l H', σ.hp x = none → σ.hp d = none → x ≠ d → H' x = some (.raw ob) → ob.cls = .ref quicErr → ob.data = .fields vs → vs[1]? = some .none → ob.dict = some d → H' d = some (.ns l) → l.lookup (Str.ofString "code") = some (.int code) → σ.hp.But H' [] → Q (.obj x) ⟨σ.vars, H'⟩) :
    TO D c VR [.int code, .int ft, .str text] (fun vs => call (.ref quicErr) vs) σ Q X := by
  refine TO_exc' (room := 0) (xfD pf) (fn35 pf) rfl (by decide) hpu (by omega) fun L x t c' i hx => ?_
  unfold b35
  walk_at "W"
  walk_at "W"
  refine TE_methodT (f := .builtin "Exception.__init__") rfl rfl rfl ⟨rfl, rfl, trivial⟩ rfl ?_
  refine n_Exception pf (i.kd rfl) ⟨_, rfl, exc_type, exc_stub, exc_find, rfl, ?_⟩
  walk_at "WW"
  refine B_str_int (by rcases hc with rfl | rfl <;> decide +kernel) ?_
  walk_at "WW"
  refine O_add_str (by have := str_len code hc; show _ + 2 ≤ 1000; omega) ?_
  walk_at "WW"
  refine O_add_str (by
    have := str_len code hc
    have e : ∀ a b : Str, (a ++ b).length = a.length + b.length := fun a b => by
      show (a.cps ++ b.cps).size = _
      rw [Array.size_append]; rfl
    rw [e]
    show _ + 2 + _ ≤ 1000
    omega) ?_
  walk_at "WW"
  refine ⟨Kp_b, ?_⟩
  refine B_excinit (xfD pf) i.pur Hp.set_eq rfl rfl rfl fun t' => ?_
  rw [Hp.set_set]
  walk_at "WW"
  refine O_setattr_exc0 (xfD pf) i.pur Hp.set_eq rfl rfl rfl (xfD pf).code fun d hd hne => ?_
  rw [Hp.set_set]
  walk_at "WW"
  refine O_setattr_exc (xfD pf) i.pur (Hp.set_ne (Ne.symm hne) Hp.set_eq) rfl rfl Hp.set_eq (xfD pf).ft (Nat.le_of_ble_eq_true (by kernel_rfl)) ?_
  rw [Hp.set_set]
  walk_at "WW"
  refine O_setattr_exc (xfD pf) i.pur (Hp.set_ne (Ne.symm hne) Hp.set_eq) rfl rfl Hp.set_eq (xfD pf).text (Nat.le_of_ble_eq_true (by kernel_rfl)) ?_
  rw [Hp.set_set]
  walk_at "WW"
  have hd0 : σ.hp d = none := by
    have hd' : (σ.hp.set x _) d = none := hd
    unfold Hp.set at hd'
    rw [if_neg hne] at hd'
    exact hd'
  refine ⟨rfl, h x d _ _ _ _ hx hd0 (Ne.symm hne) (Hp.set_ne (Ne.symm hne) Hp.set_eq) rfl rfl rfl rfl Hp.set_eq rfl (((Hp.But.refl _ _).fresh hx).fresh hd0)⟩
theorem quic_raise (pf : PF D) {Q : AF → St → Prop} {code ft : Int} {text n1 n2 : Str} {np cp p1 p2 p3 pos : Pos} {k : Nat} (h1 : ∀ {Q : AV → St → Prop}, Q (.int code) σ → TE D c (eval (.Name n1 p1) c.env) σ Q X) (h2 : ∀ {Q : AV → St → Prop}, Q (.int ft) σ → TE D c (eval (.Name n2 p2) c.env) σ Q X)
    (hc : code = 9 ∨ code = 10) (ht : text.length ≤ 500) (hpu : c.pur = false) (hr : 3 < c.room) (hk : c.env.kindOf "QuicError" = some .globalImplicit)
    (hX : ∀ H', σ.hp.But H' [] → X code ⟨σ.vars, H'⟩) : TF D c (exec (.Raise (some (.Call (.Name "QuicError" np) [.Name n1 p1, .Name n2 p2, .Constant (.str text) k p3] [] cp)) none pos) c.env) σ Q X := by
  refine TF_raise (xfD pf) (c_QuicError pf hk ⟨rfl, rfl, rfl, trivial⟩ rfl (TEs_cons (h1 (TEs_cons (h2 (TEs_cons (TE_str (TEs_nil ?_))))))))
  refine exc_init pf hc ht hpu hr fun x d ob vs l H' h1 h2 h3 h4 h5 h6 h7 h8 h9 h10 h11 => ?_
  exact ⟨x, d, ob, vs, l, code, rfl, h1, h2, h3, h4, h5, h6, h7, h8, h9, h10, hX _ ((h11.del h1).del h2)⟩
end
theorem byts_lookup (l : List (Int × Array UInt8)) (k : Int) : (byts l).lookup k = (l.lookup k).map .bytes := by
  induction l with
  | nil => rfl
  | cons p l ih =>
    show List.lookup k ((p.1, AV.bytes p.2) :: byts l) = _
    rw [List.lookup_cons, List.lookup_cons]
    cases k == p.1 with
    | true => rfl
    | false => exact ih
theorem byts_del (l : List (Int × Array UInt8)) (k : Int) : dDel (byts l) k = byts (l.filter fun p => decide (p.1 ≠ k)) := by
  unfold dDel byts
  rw [List.filter_map]; rfl
theorem filter_none {α : Type} {l : List (Int × α)} {k : Int} (h : l.lookup k = none) : (l.filter fun p => decide (p.1 ≠ k)) = l := by
  induction l with
  | nil => rfl
  | cons p l ih =>
    rw [List.lookup_cons] at h
    by_cases q : k = p.1
    · subst q; rw [beq_self_eq_true] at h; cases h
    · rw [beq_eq_false_iff_ne.mpr q] at h
      rw [List.filter_cons, if_pos (by simpa using fun z => q z.symm), ih h]
section
variable {D : Wd} {c : Cx} {σ : St} {X : Int → St → Prop} {Q : AV → St → Prop}
theorem retire_tail (pf : PF D) {a : IA} {v : IV} {n : Int} {b : Array UInt8} {L : Addr} {room : Nat} (i : In f88.1 88 L room c) (hi : Iss σ.hp a v) (hz : v.issued.length ≤ 500) {Q : AF → St → Prop}
    (hok : ∀ H', σ.hp.But H' [a.i] → Iss H' a { v with issued := v.issued.filter fun p => decide (p.1 ≠ n) } → Q .next ⟨bindV ["self", "number", "used"] [.obj a.x, .int n, .bytes b] [], H'⟩) :
    TF D c (execs (b88.1.drop 3) c.env) ⟨bindV ["self", "number", "used"] [.obj a.x, .int n, .bytes b] [], σ.hp⟩ Q X := by
  unfold b88
  change TF D c (execs [_] c.env) _ Q X
  walk_at "WW"
  refine O_attr hi.x hi.d rfl (sa98_issued pf) rfl ?_
  refine ⟨_, _, rfl, hi.i, ?_⟩
  walk_at "WW"
  refine B_popd i.pur hi.i (by rw [byts_length]; omega) (fun x hx => ?_) (fun hx => ?_)
  · walk_at "WW"
    rw [byts_del]
    have nx : a.x ≠ a.i := Hp.ne_tag hi.x hi.i rfl
    have nd : a.d ≠ a.i := Hp.ne_tag hi.d hi.i rfl
    exact hok _ ((Hp.But.refl _ _).set (by simp)) ⟨Hp.set_ne nx hi.x, Hp.set_ne nd hi.d, Hp.set_eq⟩
  · walk_at "WW"
    rw [byts_lookup] at hx
    have hx' : v.issued.lookup n = none := by
      cases q : v.issued.lookup n with
      | none => rfl
      | some _ => rw [q] at hx; cases hx
    refine hok _ (Hp.But.refl _ _) ?_
    rw [filter_none hx']
    exact ⟨hi.x, hi.d, hi.i⟩
theorem on_retire_ok (pf : PF D) {a : IA} {v : IV} {n : Int} {b : Array UInt8} (hi : Iss σ.hp a v) (hz : v.issued.length ≤ 500) (hpu : c.pur = false) (hr : 9 < c.room)
    (hbad : (v.next ≤ n ∨ v.empty = true ∨ v.issued.lookup n = some b) → ∀ H', σ.hp.But H' [] → X 10 ⟨σ.vars, H'⟩)
    (hok : n < v.next → v.empty = false → v.issued.lookup n ≠ some b → ∀ H', σ.hp.But H' [a.i] → Iss H' a { v with issued := v.issued.filter fun p => decide (p.1 ≠ n) } → Q .none ⟨σ.vars, H'⟩) :
    TO D c VR [.obj a.x, .int n, .bytes b] (fun vs => call (.ref 88) vs) σ Q X := by
  refine TO_fn' (room := 7) (fn88 pf) rfl hpu (by omega) fun L c' i => ?_
  have hrm := i.room
  unfold b88
  walk_at "WW"
  refine O_attr hi.x hi.d rfl (sa98_next_sequence pf) rfl ?_
  walk_at "WW"
  refine ⟨fun hb => ?_, fun hb => ?_⟩
  · have hb' : v.next ≤ n := of_decide_eq_true hb
    walk_at "WW"
    exact quic_raise pf (n_PROTOCOL_VIOLATION pf (i.kd rfl)) (n_FRAME_RETIRE pf (i.kd rfl)) (.inr rfl) (by decide +kernel) i.pur (by rw [i.room]; omega) (i.kd rfl) fun H' bt => hbad (.inl hb') H' bt
  have hb1 : n < v.next := Int.not_le.mp (of_decide_eq_false hb)
  walk_at "WW"
  refine O_attr hi.x hi.d rfl (sa98_is_empty pf) rfl ?_
  walk_at "WW"
  refine ⟨fun hb => ?_, fun hb => ?_⟩
  · walk_at "WW"
    exact quic_raise pf (n_PROTOCOL_VIOLATION pf (i.kd rfl)) (n_FRAME_RETIRE pf (i.kd rfl)) (.inr rfl) (by decide +kernel) i.pur (by rw [i.room]; omega) (i.kd rfl) fun H' bt => hbad (.inr (.inl hb)) H' bt
  walk_at "WW"
  refine O_attr hi.x hi.d rfl (sa98_issued pf) rfl ?_
  refine O_in_dict hi.i ?_
  rw [byts_lookup]
  walk_at "W"
  refine ⟨fun hq => ?_, fun hq => ?_⟩
  · walk_at "WW"
    refine O_attr hi.x hi.d rfl (sa98_issued pf) rfl ?_
    walk_at "WW"
    obtain ⟨y, hy⟩ : ∃ y, v.issued.lookup n = some y := by
      cases q : v.issued.lookup n with
      | none => rw [q] at hq; cases hq
      | some y => exact ⟨y, rfl⟩
    refine O_item_dict (fun _ _ => rfl) hi.i (by rw [byts_lookup, hy]; rfl) ?_
    walk_at "WW"
    refine O_eq_bytes ?_
    walk_at "WW"
    refine ⟨fun he => ?_, fun he => ?_⟩
    · walk_at "WW"
      walk_at "T"
      have : y = b := eq_of_beq he
      subst this
      walk_at "WW"
      exact quic_raise pf (n_PROTOCOL_VIOLATION pf (i.kd rfl)) (n_FRAME_RETIRE pf (i.kd rfl)) (.inr rfl) (by decide +kernel) i.pur (by rw [i.room]; omega) (i.kd rfl) fun H' bt => hbad (.inr (.inr hy)) H' bt
    · walk_at "F"
      walk_at "W"
      walk_at "W"
      refine retire_tail pf i hi hz (b := b) fun H' b1 i1 => hok hb1 hb (fun z => ?_) H' b1 i1
      rw [hy] at z
      cases z
      rw [beq_self_eq_true] at he; cases he
  · walk_at "F"
    walk_at "W"
    walk_at "W"
    refine retire_tail pf i hi hz (b := b) fun H' b1 i1 => hok hb1 hb (fun z => ?_) H' b1 i1
    rw [z] at hq; cases hq
end
theorem Hp.none_of {H : Hp} {a z : Addr} {o : AO} (h : (H.set a o) z = none) : a ≠ z ∧ H z = none := by
  unfold Hp.set at h
  split at h
  · cases h
  · rename_i q; exact ⟨fun e => q e.symm, h⟩
noncomputable def cidOf (n : Int) : Array UInt8 := byteArr [100 + n, 7]
noncomputable def tokOf (n : Int) : Array UInt8 := byteArr (List.replicate 16 n)
section
variable {D : Wd} {c : Cx} {σ : St} {X : Int → St → Prop} {Q : AV → St → Prop}
theorem law_id_ok (pf : PF D) {n : Int} (h0 : 0 ≤ n) (h1 : n ≤ 100) (hpu : c.pur = false) (hr : 2 < c.room) (h : ∀ H', σ.hp.But H' [] → Q (.tup [.bytes (cidOf n), .bytes (tokOf n)]) ⟨σ.vars, H'⟩) :
    TO D c VR [.int n] (fun vs => call (.ref 210) vs) σ Q X := by
  refine TO_fn' (room := 0) (fn210 pf) rfl hpu (by omega) fun L c' i => ?_
  unfold b210
  walk_at "WW"
  intro z hz
  walk_at "WW"
  refine B_bytes_ints (ns := [100 + n, 7]) Hp.set_eq (fun m hm => ?_) (Nat.le_of_ble_eq_true rfl) ?_
  · rcases List.mem_cons.mp hm with rfl | hm
    · omega
    · rw [List.mem_singleton.mp hm]; omega
  walk_at "WW"
  intro z2 hz2
  walk_at "WW"
  refine O_mul1 i.pur Hp.set_eq (by omega) fun z3 hz3 => ?_
  walk_at "WW"
  refine B_bytes_ints (ns := List.replicate 16 n) (Hp.set_eq.trans (by rw [List.map_replicate]; rfl)) (fun m hm => ?_) (by rw [List.length_replicate]; omega) ?_
  · rw [List.eq_of_mem_replicate hm]; omega
  walk_at "WW"
  exact h _ ((((Hp.But.refl _ _).new hz).new hz2).new hz3)
theorem LocalIds_ok (pf : PF D) {b : Array UInt8} {lim : Int} (hb : b.size ≤ 1000) (hpu : c.pur = false) (hr : 3 < c.room)
    (h : ∀ (a : IA) H', σ.hp a.x = none → σ.hp a.d = none → σ.hp a.i = none → σ.hp.But H' [] → Iss H' a { limit := lim, next := 1, prior := 0, issued := [(0, b)], empty := b.size == 0 } → Q (.obj a.x) ⟨σ.vars, H'⟩) :
    TO D c VR [.bytes b, .int lim] (fun vs => call (.ref 98) vs) σ Q X := by
  refine TO_inst' (room := 0) (xf98 pf) (fn55 pf) rfl hpu (by omega) fun L x dx c' i hx hdx hne => ?_
  unfold b55
  walk_at "WW"
  refine O_setattr i.pur Hp.set_eq (Hp.set_ne (Ne.symm hne) Hp.set_eq) (ss98_limit pf) (by decide) ?_
  walk_at "WW"
  refine TE_dict1 (fun z hz => ?_) i.pur
  walk_at "WW"
  refine ⟨Hp.set_eq, ?_⟩
  rw [Hp.set_set]
  walk_at "WW"
  obtain ⟨zd, hz1⟩ := Hp.none_of hz
  obtain ⟨zx, hz2⟩ := Hp.none_of hz1
  obtain ⟨_, hz0⟩ := Hp.none_of hz2
  refine O_setattr i.pur (Hp.set_ne zx (Hp.set_ne hne Hp.set_eq)) (Hp.set_ne zd Hp.set_eq) (ss98_issued pf) (Nat.le_of_ble_eq_true (by kernel_rfl)) ?_
  walk_at "WW"
  refine O_setattr i.pur (Hp.set_ne hne (Hp.set_ne zx (Hp.set_ne hne Hp.set_eq))) Hp.set_eq (ss98_next_sequence pf) (Nat.le_of_ble_eq_true (by kernel_rfl)) ?_
  walk_at "WW"
  rw [Hp.set_set]
  refine O_setattr i.pur (Hp.set_ne hne (Hp.set_ne zx (Hp.set_ne hne Hp.set_eq))) Hp.set_eq (ss98_retire_prior pf) (Nat.le_of_ble_eq_true (by kernel_rfl)) ?_
  walk_at "WW"
  rw [Hp.set_set]
  refine B_len_bytes hb ?_
  walk_at "WW"
  refine O_setattr i.pur (Hp.set_ne hne (Hp.set_ne zx (Hp.set_ne hne Hp.set_eq))) Hp.set_eq (ss98_is_empty pf) (Nat.le_of_ble_eq_true (by kernel_rfl)) ?_
  rw [Hp.set_set]
  walk_at "WW"
  have e : ((b.size : Int) == 0) = (b.size == 0) := by
    rw [Bool.eq_iff_iff, beq_iff_eq, beq_iff_eq]; omega
  rw [e]
  refine ⟨rfl, h ⟨x, dx, z⟩ _ hx hdx hz0 ((((((Hp.But.refl _ _).fresh hdx).fresh hx).fresh hdx).fresh hz0).fresh hdx) ⟨Hp.set_ne hne (Hp.set_ne zx (Hp.set_ne hne Hp.set_eq)), Hp.set_eq.trans ?_, Hp.set_ne (Ne.symm zd) Hp.set_eq⟩⟩
  show some (AO.ns _) = some (AO.ns _)
  congr 2
end
/-! the user -/
structure UA where
  (x d k u t w : Addr)
noncomputable abbrev Pr := Array UInt8 × Option (Array UInt8)
noncomputable def tokAV : Option (Array UInt8) → AV
  | none => .none
  | some b => .bytes b
noncomputable def prAV (p : Pr) : AV := .tup [.bytes p.1, tokAV p.2]
noncomputable def prs (l : List (Int × Pr)) : List (Int × AV) := l.map fun p => (p.1, prAV p.2)
structure UV where
  (limit cur prior : Int)
  (known told : List (Int × Pr))
  (used word : List Int)
  (empty : Bool)
noncomputable def UV.ns (a : UA) (v : UV) : List (Str × AV) := [("limit", .int v.limit), ("known", .obj a.k), ("current", .int v.cur), ("used", .obj a.u), ("retire_prior", .int v.prior), ("told", .obj a.t), ("to_retire", .obj a.w), ("is_empty", .bool v.empty)]
structure Usr (H : Hp) (a : UA) (v : UV) : Prop where
  x : H a.x = some (.inst 192 a.d)
  d : H a.d = some (.ns (v.ns a))
  k : H a.k = some (.dict (prs v.known))
  u : H a.u = some (.list (v.used.map .int))
  t : H a.t = some (.dict (prs v.told))
  w : H a.w = some (.list (v.word.map .int))
  kt : a.k ≠ a.t
  uw : a.u ≠ a.w
theorem Usr.but {H H' : Hp} {a : UA} {v : UV} {m : List Addr} (h : Usr H a v) (b : H.But H' m) (n : a.x ∉ m ∧ a.d ∉ m ∧ a.k ∉ m ∧ a.u ∉ m ∧ a.t ∉ m ∧ a.w ∉ m) : Usr H' a v :=
  ⟨b _ _ n.1 h.x, b _ _ n.2.1 h.d, b _ _ n.2.2.1 h.k, b _ _ n.2.2.2.1 h.u, b _ _ n.2.2.2.2.1 h.t, b _ _ n.2.2.2.2.2 h.w, h.kt, h.uw⟩
structure Usr.Ne (a : UA) : Prop where
  xd : a.x ≠ a.d
  xk : a.x ≠ a.k
  xu : a.x ≠ a.u
  xt : a.x ≠ a.t
  xw : a.x ≠ a.w
  dk : a.d ≠ a.k
  du : a.d ≠ a.u
  dt : a.d ≠ a.t
  dw : a.d ≠ a.w
  ku : a.k ≠ a.u
  kt : a.k ≠ a.t
  kw : a.k ≠ a.w
  ut : a.u ≠ a.t
  uw : a.u ≠ a.w
  tw : a.t ≠ a.w
theorem Usr.ne {H : Hp} {a : UA} {v : UV} (h : Usr H a v) : Usr.Ne a :=
  ⟨Hp.ne_tag h.x h.d rfl, Hp.ne_tag h.x h.k rfl, Hp.ne_tag h.x h.u rfl, Hp.ne_tag h.x h.t rfl, Hp.ne_tag h.x h.w rfl, Hp.ne_tag h.d h.k rfl, Hp.ne_tag h.d h.u rfl, Hp.ne_tag h.d h.t rfl, Hp.ne_tag h.d h.w rfl, Hp.ne_tag h.k h.u rfl, h.kt, Hp.ne_tag h.k h.w rfl, Hp.ne_tag h.u h.t rfl, h.uw, Hp.ne_tag h.t h.w rfl⟩
/-- one part turned -/
theorem Usr.setD {H : Hp} {a : UA} {v v' : UV} (h : Usr H a v) (e1 : v'.known = v.known) (e2 : v'.used = v.used) (e3 : v'.told = v.told) (e4 : v'.word = v.word) : Usr (H.set a.d (.ns (v'.ns a))) a v' :=
  let n := h.ne
  ⟨Hp.set_ne n.xd h.x, Hp.set_eq, Hp.set_ne n.dk.symm (e1 ▸ h.k), Hp.set_ne n.du.symm (e2 ▸ h.u), Hp.set_ne n.dt.symm (e3 ▸ h.t), Hp.set_ne n.dw.symm (e4 ▸ h.w), h.kt, h.uw⟩
theorem Usr.setK {H : Hp} {a : UA} {v : UV} {l : List (Int × Pr)} (h : Usr H a v) : Usr (H.set a.k (.dict (prs l))) a { v with known := l } :=
  let n := h.ne
  ⟨Hp.set_ne n.xk h.x, Hp.set_ne n.dk h.d, Hp.set_eq, Hp.set_ne n.ku.symm h.u, Hp.set_ne n.kt.symm h.t, Hp.set_ne n.kw.symm h.w, h.kt, h.uw⟩
theorem Usr.setT {H : Hp} {a : UA} {v : UV} {l : List (Int × Pr)} (h : Usr H a v) : Usr (H.set a.t (.dict (prs l))) a { v with told := l } :=
  let n := h.ne
  ⟨Hp.set_ne n.xt h.x, Hp.set_ne n.dt h.d, Hp.set_ne n.kt h.k, Hp.set_ne n.ut h.u, Hp.set_eq, Hp.set_ne n.tw.symm h.w, h.kt, h.uw⟩
theorem Usr.setU {H : Hp} {a : UA} {v : UV} {l : List Int} (h : Usr H a v) : Usr (H.set a.u (.list (l.map .int))) a { v with used := l } :=
  let n := h.ne
  ⟨Hp.set_ne n.xu h.x, Hp.set_ne n.du h.d, Hp.set_ne n.ku h.k, Hp.set_eq, Hp.set_ne n.ut.symm h.t, Hp.set_ne n.uw.symm h.w, h.kt, h.uw⟩
theorem Usr.setW {H : Hp} {a : UA} {v : UV} {l : List Int} (h : Usr H a v) : Usr (H.set a.w (.list (l.map .int))) a { v with word := l } :=
  let n := h.ne
  ⟨Hp.set_ne n.xw h.x, Hp.set_ne n.dw h.d, Hp.set_ne n.kw h.k, Hp.set_ne n.uw h.u, Hp.set_ne n.tw h.t, Hp.set_eq, h.kt, h.uw⟩
theorem prs_length (l : List (Int × Pr)) : (prs l).length = l.length := List.length_map ..
theorem prs_keys (l : List (Int × Pr)) : (prs l).map (·.1) = l.map (·.1) := by simp only [prs, List.map_map]; rfl
theorem prs_lookup (l : List (Int × Pr)) (k : Int) : (prs l).lookup k = (l.lookup k).map prAV := by
  induction l with
  | nil => rfl
  | cons p l ih =>
    show List.lookup k ((p.1, prAV p.2) :: prs l) = _
    rw [List.lookup_cons, List.lookup_cons]
    cases k == p.1 with
    | true => rfl
    | false => exact ih
theorem prs_del (l : List (Int × Pr)) (k : Int) : dDel (prs l) k = prs (l.filter fun p => decide (p.1 ≠ k)) := by
  unfold dDel prs
  rw [List.filter_map]; rfl
theorem prs_put {l : List (Int × Pr)} {k : Int} {p : Pr} (h : k ∉ l.map (·.1)) : dPut (prs l) k (prAV p) = prs (l ++ [(k, p)]) := by
  unfold dPut
  rw [if_neg]
  · simp [prs]
  · simp only [prs, List.any_map, List.any_eq_true, not_exists, not_and]
    intro p hp e
    exact h (List.mem_map.mpr ⟨p, hp, by simpa using e⟩)
theorem put192_known (a : UA) (v : UV) (n : Addr) : nsPut "known" (.obj n) (v.ns a) = v.ns { a with k := n } := by kernel_rfl
theorem put192_cur (a : UA) (v : UV) (n : Int) : nsPut "current" (.int n) (v.ns a) = ({ v with cur := n } : UV).ns a := by kernel_rfl
theorem put192_prior (a : UA) (v : UV) (n : Int) : nsPut "retire_prior" (.int n) (v.ns a) = ({ v with prior := n } : UV).ns a := by kernel_rfl
theorem put192_word (a : UA) (v : UV) (n : Addr) : nsPut "to_retire" (.obj n) (v.ns a) = v.ns { a with w := n } := by kernel_rfl
noncomputable def addI (l : List Int) (n : Int) : List Int := if l.contains n then l else l ++ [n]
theorem addI_length (l : List Int) (n : Int) : (addI l n).length ≤ l.length + 1 := by unfold addI; split <;> simp
theorem addI_mem (l : List Int) (n : Int) : n ∈ addI l n := by
  unfold addI; split
  · rename_i h; simpa using h
  · simp
theorem addI_sub (l : List Int) (n m : Int) (h : m ∈ l) : m ∈ addI l n := by
  unfold addI; split
  · exact h
  · simp [h]
section
variable {D : Wd} {c : Cx} {σ : St} {X : Int → St → Prop} {Q : AV → St → Prop}
theorem use_ok (pf : PF D) {a : UA} {v : UV} {n : Int} (hu : Usr σ.hp a v) (hz : v.used.length ≤ 900) (hpu : c.pur = false) (hr : 2 < c.room)
    (h : ∀ H', σ.hp.But H' [a.d, a.u] → Usr H' a { v with cur := n, used := addI v.used n } → Q .none ⟨σ.vars, H'⟩) :
    TO D c VR [.obj a.x, .int n] (fun vs => call (.ref 158) vs) σ Q X := by
  refine TO_fn' (room := 0) (fn158 pf) rfl hpu (by omega) fun L c' i => ?_
  unfold b158
  walk_at "WW"
  refine O_setattr i.pur hu.x hu.d (ss192_current pf) (by show 8 ≤ 900; omega) ?_
  rw [put192_cur]
  have hu1 : Usr (σ.hp.set a.d (.ns (({ v with cur := n } : UV).ns a))) a { v with cur := n } := hu.setD rfl rfl rfl rfl
  walk_at "WW"
  refine O_attr hu1.x hu1.d rfl (sa192_used pf) rfl ?_
  refine O_notin_ints hu1.u ?_
  walk_at "WW"
  refine ⟨fun hb => ?_, fun hb => ?_⟩
  · walk_at "WW"
    refine O_attr hu1.x hu1.d rfl (sa192_used pf) rfl ?_
    refine ⟨_, _, rfl, hu1.u, ?_⟩
    walk_at "WW"
    refine B_append i.pur hu1.u (by rw [List.length_map]; show v.used.length ≤ 1000; omega) ?_
    walk_at "WW"
    have e : addI v.used n = v.used ++ [n] := by
      unfold addI; rw [if_neg (by simpa using hb)]
    have e2 : (v.used.map AV.int ++ [.int n]) = (v.used ++ [n]).map .int := by simp
    refine h _ (((Hp.But.refl _ _).set (by simp)).set (by simp)) ?_
    rw [e]
    show Usr ((σ.hp.set a.d _).set a.u (.list (v.used.map AV.int ++ [.int n]))) a _
    rw [e2]
    exact hu1.setU (l := v.used ++ [n])
  · walk_at "WW"
    have e : addI v.used n = v.used := by
      unfold addI; rw [if_pos (by simpa using hb)]
    refine h _ ((Hp.But.refl _ _).set (by simp)) ?_
    rw [e]
    exact hu1
theorem present_ok (pf : PF D) {a : UA} {v : UV} {p : Pr} (hu : Usr σ.hp a v) (hk : v.known.lookup v.cur = some p) (hpu : c.pur = false) (hr : 2 < c.room) (h : ∀ H', σ.hp.But H' [] → Q (.bytes p.1) ⟨σ.vars, H'⟩) :
    TO D c VR [.obj a.x] (fun vs => call (.ref 165) vs) σ Q X := by
  refine TO_fn' (room := 0) (fn165 pf) rfl hpu (by omega) fun L c' i => ?_
  unfold b165
  walk_at "WW"
  refine O_attr hu.x hu.d rfl (sa192_known pf) rfl ?_
  walk_at "WW"
  refine O_attr hu.x hu.d rfl (sa192_current pf) rfl ?_
  refine O_item_dict (fun _ _ => rfl) hu.k (by rw [prs_lookup, hk]; rfl) ?_
  walk_at "WW"
  refine O_item_tup (fun _ _ => rfl) (by omega) (by omega) rfl ?_
  walk_at "WW"
  exact h _ (Hp.But.refl _ _)
end
section
variable {D : Wd} {c : Cx} {σ : St} {X : Int → St → Prop} {Q : AV → St → Prop}
noncomputable def without (l : List (Int × Pr)) (n : Int) : List (Int × Pr) := l.filter fun p => decide (p.1 ≠ n)
theorem retire_ok (pf : PF D) {a : UA} {v : UV} {n : Int} {p : Pr} (hu : Usr σ.hp a v) (hk : v.known.lookup n = some p) (hz : v.used.length ≤ 900) (hz2 : v.known.length ≤ 900) (hz3 : v.word.length ≤ 900) (hpu : c.pur = false) (hr : 5 < c.room)
    (h : ∀ H' cur' used', σ.hp.But H' [a.d, a.k, a.u, a.w] → Usr H' a { v with known := without v.known n, word := v.word ++ [n], cur := cur', used := used' } → used'.length ≤ v.used.length + 1 → (∀ x ∈ v.used, x ∈ used') →
      (n ≠ v.cur → cur' = v.cur ∧ used' = v.used) → (n = v.cur → without v.known n ≠ [] → cur' ∈ (without v.known n).map (·.1) ∧ cur' ∈ used') → Q .none ⟨σ.vars, H'⟩) :
    TO D c VR [.obj a.x, .int n] (fun vs => call (.ref 151) vs) σ Q X := by
  refine TO_fn' (room := 3) (fn151 pf) rfl hpu (by omega) fun L c' i => ?_
  unfold b151
  walk_at "WW"
  refine O_attr hu.x hu.d rfl (sa192_known pf) rfl ?_
  refine ⟨_, _, rfl, hu.k, ?_⟩
  walk_at "WW"
  refine B_pop i.pur hu.k (by rw [prs_length]; omega) (by rw [prs_lookup, hk]; rfl) ?_
  rw [prs_del]
  have u1 := hu.setK (l := without v.known n)
  walk_at "WW"
  refine O_attr u1.x u1.d rfl (sa192_to_retire pf) rfl ?_
  refine ⟨_, _, rfl, u1.w, ?_⟩
  walk_at "WW"
  refine B_append i.pur u1.w (by rw [List.length_map]; show v.word.length ≤ 1000; omega) ?_
  rw [show (({ v with known := without v.known n } : UV).word.map AV.int ++ [.int n]) = (v.word ++ [n]).map .int from by simp]
  have u2 := u1.setW (l := v.word ++ [n])
  have b2 : σ.hp.But ((σ.hp.set a.k (.dict (prs (without v.known n)))).set a.w (.list ((v.word ++ [n]).map .int))) [a.d, a.k, a.u, a.w] := ((Hp.But.refl _ _).set (by simp)).set (by simp)
  walk_at "WW"
  refine O_attr u2.x u2.d rfl (sa192_current pf) rfl ?_
  walk_at "WW"
  refine ⟨fun hb => ?_, fun hb => ?_⟩
  · have hc : n = v.cur := eq_of_beq hb
    walk_at "WW"
    refine O_attr u2.x u2.d rfl (sa192_known pf) rfl ?_
    walk_at "WW"
    refine B_len_dict u2.k (by
      rw [prs_length]
      have : (without v.known n).length ≤ v.known.length := List.length_filter_le _ _
      show (without v.known n).length ≤ 1000
      omega) ?_
    rw [prs_length]
    walk_at "WW"
    refine ⟨fun hl => ?_, fun hl => ?_⟩
    · walk_at "WW"
      walk_at "T"
      have hl' : (0 : Int) < ((without v.known n).length : Int) := of_decide_eq_true hl
      walk_at "WW"
      refine ⟨_, _, _, rfl, u2.x, u2.d, rfl, ?_⟩
      walk_at "WW"
      refine O_attr u2.x u2.d rfl (sa192_known pf) rfl ?_
      walk_at "WW"
      refine B_min_dict u2.k (by rw [prs_length]; show 0 < (without v.known n).length; omega) fun m hm _ => ?_
      rw [prs_keys] at hm
      walk_at "WW"
      refine use_ok pf u2 hz i.pur (by rw [i.room]; omega) fun H₃ b3 u3 => ?_
      walk_at "WW"
      exact h H₃ m (addI v.used m) (b2.trans (b3.mono (by simp))) u3 (addI_length _ _) (fun x hx => addI_sub _ _ _ hx) (fun q => absurd hc q) (fun _ _ => ⟨hm, addI_mem _ _⟩)
    · walk_at "F"
      walk_at "WW"
      have hl' : ¬ (0 : Int) < ((without v.known n).length : Int) := of_decide_eq_false hl
      have e0 : without v.known n = [] := List.length_eq_zero_iff.mp (by omega)
      exact h _ v.cur v.used b2 u2 (by omega) (fun _ h => h) (fun _ => ⟨rfl, rfl⟩) (fun _ q => absurd e0 q)
  · walk_at "F"
    walk_at "WW"
    have hc : n ≠ v.cur := fun q => by rw [q, beq_self_eq_true] at hb; cases hb
    exact h _ v.cur v.used b2 u2 (by omega) (fun _ h => h) (fun _ => ⟨rfl, rfl⟩) (fun q => absurd q hc)
end
section
variable {D : Wd} {c : Cx} {σ : St} {X : Int → St → Prop} {fd : FuncData} {f L : Addr} {room : Nat} {scope : Scope} {cl : List (Str × Addr)}
noncomputable def CompC (ι : Type) (D : Wd) (fd : FuncData) (L : Addr) (scope : Scope) (cl : List (Str × Addr)) (caps : List (Str × AV)) (elt : Expr) (ifs : List Expr) (x : Str) (a : AV) (σ : St) (K : List AV → Prop) : Prop :=
  ∃ (items : List ι) (g f : ι → AV) (p : ι → Bool) (b : Bool), Src σ g items a b ∧ items.length ≤ 1000 ∧ CapsAre fd L scope cl σ.vars caps ∧
    (∀ c'' y, InC fd scope c'' → y ∈ items → T D c'' EqR (tests ifs c''.env) ⟨(x, g y) :: caps, σ.hp⟩ (fun ok _ => ok = p y) (fun _ _ => False) ∧ (p y = true → TE D c'' (eval elt c''.env) ⟨(x, g y) :: caps, σ.hp⟩ (fun z _ => z = f y) (fun _ _ => False))) ∧
    K ((items.filter p).map f)
theorem TF_compN (ι : Type) (caps : List (Str × AV)) {Q : AF → St → Prop} {elt iter : Expr} {ifs : List Expr} {x y : Str} {xp py pos spos : Pos} (i : In fd f L room c) (ok : compOk fd scope = true) (hx : (relN scope fd).lookup x = some .local) (hs : ∀ x, foldedSetIterable iter c.env x = pure x) (hcl : closureFor scope (callEnvC fd L f) = pure cl)
    (hsw : swapsWith (.ListComp elt [⟨.Name x xp, iter, ifs, 0⟩] scope pos) (some (.Name y py)) spos.line (callEnvC fd L f) = pure true)
    (hsub : ∀ p ∈ cl, p ∈ cellsFrom (L + 1) fd.scope.names []) (hap : (cl.map (·.2)).Pairwise (· ≠ ·))
    (h : TE D c (eval iter c.env) σ (fun a σ₁ => CompC ι D fd L scope cl caps elt ifs x a σ₁ fun out => ∀ z, σ₁.hp z = none → TO1 D c EqR (.obj z) (fun v => assign (.Name y py) c.env v) { σ₁ with hp := σ₁.hp.set z (.list out) } (fun _ σ₂ => Q .next σ₂) X) X) :
    TF D c (exec (.Assign [.Name y py] (.ListComp elt [⟨.Name x xp, iter, ifs, 0⟩] scope pos) spos) c.env) σ Q X := by
  obtain ⟨k1, k2, k3⟩ := compOk_of ok
  refine TF_assign_comp (ι := ι) (cl := cl) (caps := caps) (by rw [i.env]; exact hsw) hs (by rw [i.env]; exact hcl) k1 k3 goes_name i.pur (T.mono h (fun a σ₁ z => ?_) fun _ _ z => z)
  obtain ⟨items, g, f', p, b, src, hz, hc, hq, hK⟩ := z
  exact ⟨items, g, f', p, fun y => [(x, g y)], b, src, hz, fun _ => ⟨_, _, rfl⟩, compSays_of i ok hx hsub hap hc hq, hK⟩
end
section
variable {D : Wd} {c : Cx} {σ : St} {X : Int → St → Prop} {Q : AV → St → Prop}
theorem fresh_ok (pf : PF D) {a : UA} {v : UV} (hu : Usr σ.hp a v) (hz2 : v.known.length < 64) (hpu : c.pur = false) (hr : 2 < c.room)
    (h1 : (∀ n ∈ v.known.map (·.1), n ∈ v.used) → ∀ H', σ.hp.But H' [] → Q .none ⟨σ.vars, H'⟩)
    (h2 : ∀ n ∈ v.known.map (·.1), n ∉ v.used → ∀ H', σ.hp.But H' [] → Q (.int n) ⟨σ.vars, H'⟩) :
    TO D c VR [.obj a.x] (fun vs => call (.ref 170) vs) σ Q X := by
  refine TO_fn' (room := 0) (fn170 pf) rfl hpu (by omega) fun L c' i => ?_
  unfold b170
  walk_at "W"
  refine TF_compN Int [("self", .obj a.x)] i rfl rfl (fun _ => rfl) rfl rfl (fun p hp => by rcases List.mem_cons.mp hp with rfl | hp; exact mem_of_lookup rfl; cases hp) (List.pairwise_singleton ..) ?_
  walk_at "WW"
  refine O_attr hu.x hu.d rfl (sa192_known pf) rfl ?_
  walk_at "WW"
  refine B_sorted_dict i.pur hu.k (by rw [prs_length]; exact hz2) fun z ns hz srt => ?_
  rw [prs_keys] at srt
  have hu1 := hu.but ((Hp.But.refl _ []).new hz (o := .list (ns.map .int))) (by simp)
  have lns : ns.length ≤ 1000 := by
    have := srt.1.length_eq
    rw [this, List.length_map]; omega
  refine ⟨ns, .int, .int, fun n => !(v.used.contains n), true, .list Hp.set_eq, lns, ⟨⟨rfl, by kernel_rfl, rfl⟩, trivial⟩, fun c'' y ic hy => ⟨?_, fun hp => ?_⟩, fun z2 hz2 => ?_⟩
  · walk_at "WW"
    refine O_attr hu1.x hu1.d rfl (sa192_used pf) rfl ?_
    refine O_notin_ints hu1.u ?_
    exact ⟨_, rfl, rfl⟩
  · walk_at "WW"
  have bt : σ.hp.But ((σ.hp.set z (.list (ns.map .int))).set z2 (.list ((ns.filter fun n => !(v.used.contains n)).map .int))) [] := ((Hp.But.refl _ _).new hz).new hz2
  walk_at "WW"
  refine B_len_list Hp.set_eq (by rw [List.length_map]; exact Nat.le_trans (List.length_filter_le ..) lns) ?_
  rw [List.length_map]
  walk_at "WW"
  refine ⟨fun hb => ?_, fun hb => ?_⟩
  · have hb' : (0 : Int) < ((ns.filter fun n => !(v.used.contains n)).length : Int) := of_decide_eq_true hb
    obtain ⟨m, r, e⟩ : ∃ m r, (ns.filter fun n => !(v.used.contains n)) = m :: r := by
      cases q : (ns.filter fun n => !(v.used.contains n)) with
      | nil => rw [q] at hb'; simp at hb'
      | cons m r => exact ⟨m, r, rfl⟩
    walk_at "WW"
    refine O_item_list (x := .int m) (fun _ _ => rfl) Hp.set_eq (by omega) (by omega) (by rw [e]; rfl) ?_
    walk_at "WW"
    have hm : m ∈ ns.filter fun n => !(v.used.contains n) := by rw [e]; simp
    obtain ⟨m1, m2⟩ := List.mem_filter.mp hm
    exact h2 m (srt.1.mem_iff.mp m1) (by simpa using m2) _ bt
  · have hb' : ¬ (0 : Int) < ((ns.filter fun n => !(v.used.contains n)).length : Int) := of_decide_eq_false hb
    have e0 : (ns.filter fun n => !(v.used.contains n)) = [] := List.length_eq_zero_iff.mp (by omega)
    walk_at "WW"
    refine h1 (fun n hn => ?_) _ bt
    have := List.filter_eq_nil_iff.mp e0 n (srt.1.mem_iff.mpr hn)
    simpa using this
end
section
variable {D : Wd} {c : Cx} {σ : St} {X : Int → St → Prop} {Q : AV → St → Prop}
theorem TO1_bind {x : Str} {av : AV} (hpu : c.pur = false) (hk : c.env.kindOf x = some .local ∨ (c.env.kindOf x = some .cell ∧ (c.env.cells.lookup x).isSome = true)) {Q : Unit → St → Prop} (h : Q () (σ.put x av)) : TO1 D c EqR av (fun v => bindName c.env x v) σ Q X := fun s v r hv =>
  wpAny_bindName (TU_store hpu hk h s v r hv)
theorem TAs_nil {Q : St → Prop} (h : Q σ) : TAs D c [] [] σ Q X := h
theorem TAs_cons {t : Value → Sem Unit} {ts : List (Value → Sem Unit)} {a : AV} {as : List AV} {Q : St → Prop} (h : TO1 D c EqR a t σ (fun _ σ' => TAs D c ts as σ' Q X) X) : TAs D c (t :: ts) (a :: as) σ Q X := h
theorem change_ok (pf : PF D) {a : UA} {v : UV} {p : Pr} (hu : Usr σ.hp a v) (hk : v.known.lookup v.cur = some p) (hcu : v.cur ∈ v.used) (hz2 : v.known.length < 64) (hz : v.used.length ≤ 800) (hz3 : v.word.length ≤ 800) (hpu : c.pur = false) (hr : 9 < c.room)
    (h1 : (∀ n ∈ v.known.map (·.1), n ∈ v.used) → ∀ H', σ.hp.But H' [] → Q (.bool false) ⟨σ.vars, H'⟩)
    (h2 : ∀ n ∈ v.known.map (·.1), n ∉ v.used → ∀ H', σ.hp.But H' [a.d, a.k, a.u, a.w] → Usr H' a { v with cur := n, used := v.used ++ [n], known := without v.known v.cur, word := v.word ++ [v.cur] } → Q (.bool true) ⟨σ.vars, H'⟩) :
    TO D c VR [.obj a.x] (fun vs => call (.ref 177) vs) σ Q X := by
  refine TO_fn' (room := 7) (fn177 pf) rfl hpu (by omega) fun L c' i => ?_
  unfold b177
  walk_at "W"
  refine TF_assignSwap (names := ["number", "elder"]) rfl (by rw [i.env]; rfl) ?_
  have rest : ∀ (r : AV) (H' : Hp), Usr H' a v → (r = .none ∧ ((∀ n ∈ v.known.map (·.1), n ∈ v.used)) ∧ σ.hp.But H' [] ∨ ∃ n, r = .int n ∧ n ∈ v.known.map (·.1) ∧ n ∉ v.used ∧ σ.hp.But H' []) →
      TAs D c' ((["number", "elder"] : List Str).reverse.map fun n => bindName c'.env n) [r, .int v.cur].reverse ⟨bindV ["self"] [.obj a.x] [], H'⟩ (fun σ₂ => thenDo D c' (b177.1.drop 1) (fun fl σ' => Q (retOf fl) ⟨σ.vars, σ'.hp⟩) (fun k σ' => X k ⟨σ.vars, σ'.hp⟩) .next σ₂) (fun k σ' => X k ⟨σ.vars, σ'.hp⟩) := by
    intro r H' u1 hc
    unfold b177
    refine TAs_cons (TO1_bind i.pur (by walk_at "sto") (TAs_cons (TO1_bind i.pur (by walk_at "sto") (TAs_nil ?_))))
    change TF D c' (execs [_, _, _, _] c'.env) _ _ _
    walk_at "WW"
    rcases hc with ⟨rfl, hall, bt⟩ | ⟨n, rfl, hn, hnu, bt⟩
    · refine O_is_none rfl ?_
      walk_at "WW"
      walk_at "T"
      walk_at "WW"
      exact h1 hall _ bt
    · refine O_is_none rfl ?_
      walk_at "WW"
      walk_at "F"
      walk_at "WW"
      refine ⟨_, _, _, rfl, u1.x, u1.d, rfl, ?_⟩
      walk_at "WW"
      refine use_ok pf u1 (by omega) i.pur (by rw [i.room]; omega) fun H₂ b2 u2 => ?_
      walk_at "WW"
      refine ⟨_, _, _, rfl, u2.x, u2.d, rfl, ?_⟩
      walk_at "WW"
      have hne : v.cur ≠ n := fun q => hnu (q ▸ hcu)
      have ea : addI v.used n = v.used ++ [n] := by unfold addI; rw [if_neg (by simpa using hnu)]
      refine retire_ok pf u2 hk (by show (addI v.used n).length ≤ 900; have := addI_length v.used n; omega) (by show v.known.length ≤ 900; omega) (by show v.word.length ≤ 900; omega) i.pur (by rw [i.room]; omega) fun H₃ cur' used' b3 u3 _ _ k1 _ => ?_
      obtain ⟨e1, e2⟩ := k1 hne
      rw [e1, e2] at u3
      walk_at "WW"
      refine h2 n hn hnu H₃ ((bt.mono (fun _ h => nomatch h)).trans ((b2.mono (by simp)).trans b3)) ?_
      rw [← ea]
      exact u3
  walk_at "WW"
  refine ⟨_, _, _, rfl, hu.x, hu.d, rfl, ?_⟩
  walk_at "WW"
  refine fresh_ok pf hu hz2 i.pur (by rw [i.room]; omega) (fun hall H' bt => ?_) (fun n hn hnu H' bt => ?_)
  · have u1 := hu.but bt (by simp)
    walk_at "WW"
    refine O_attr u1.x u1.d rfl (sa192_current pf) rfl ?_
    walk_at "WW"
    exact ⟨rfl, rest .none H' u1 (.inl ⟨rfl, hall, bt⟩)⟩
  · have u1 := hu.but bt (by simp)
    walk_at "WW"
    refine O_attr u1.x u1.d rfl (sa192_current pf) rfl ?_
    walk_at "WW"
    exact ⟨rfl, rest (.int n) H' u1 (.inr ⟨n, rfl, hn, hnu, bt⟩)⟩
noncomputable def retName : Str := "retire_connection_id"
theorem frames_ok (pf : PF D) {a : UA} {v : UV} (hu : Usr σ.hp a v) (hz : v.word.length ≤ 1000) (hpu : c.pur = false) (hr : 2 < c.room)
    (h : ∀ z w' H', σ.hp z = none → σ.hp w' = none → z ≠ w' → σ.hp.But H' [a.d] → H' z = some (.list (v.word.map fun n => .tup [.str retName, .int n])) → Usr H' { a with w := w' } { v with word := [] } → Q (.obj z) ⟨σ.vars, H'⟩) :
    TO D c VR [.obj a.x] (fun vs => call (.ref 182) vs) σ Q X := by
  refine TO_fn' (room := 0) (fn182 pf) rfl hpu (by omega) fun L c' i => ?_
  unfold b182
  walk_at "W"
  refine TF_compN Int [] i rfl rfl (fun _ => rfl) rfl rfl (fun p hp => nomatch hp) .nil ?_
  walk_at "WW"
  refine O_attr hu.x hu.d rfl (sa192_to_retire pf) rfl ?_
  refine ⟨v.word, .int, fun n => .tup [.str retName, .int n], fun _ => true, true, .list hu.w, hz, trivial, fun c'' y ic hy => ⟨?_, fun hp => ?_⟩, fun z hz1 => ?_⟩
  · walk_at "WW"
  · walk_at "WW"
    rfl
  rw [List.filter_eq_self.mpr (fun _ _ => rfl)]
  walk_at "WW"
  intro w' hw'
  walk_at "WW"
  obtain ⟨zw, hw0⟩ := Hp.none_of hw'
  have u1 := hu.but ((Hp.But.refl _ []).new hz1 (o := .list (v.word.map fun n => .tup [.str retName, .int n]))) (by simp)
  have u2 := u1.but ((Hp.But.refl _ []).new hw' (o := .list [])) (by simp)
  refine O_setattr i.pur u2.x u2.d (ss192_to_retire pf) (by show 8 ≤ 900; omega) ?_
  rw [put192_word]
  walk_at "WW"
  have n := u2.ne
  have zd : z ≠ a.d := fun q => by subst q; rw [hu.d] at hz1; cases hz1
  have wd : w' ≠ a.d := fun q => by subst q; rw [hu.d] at hw0; cases hw0
  refine h z w' _ hz1 hw0 zw ((((Hp.But.refl _ _).fresh hz1).fresh hw0).set (by simp)) (Hp.set_ne zd (Hp.set_new hw' Hp.set_eq)) ⟨Hp.set_ne n.xd u2.x, Hp.set_eq, Hp.set_ne n.dk.symm u2.k, Hp.set_ne n.du.symm u2.u, Hp.set_ne n.dt.symm u2.t, Hp.set_ne wd Hp.set_eq, hu.kt, Hp.ne_new hu.u hw0⟩
end
noncomputable def kf (l : List (Int × Pr)) (pre : List Int) (P : Int) : List (Int × Pr) := l.filter fun p => !(pre.contains p.1 && decide (p.1 < P))
theorem kf_without {l : List (Int × Pr)} {pre : List Int} {P n : Int} (h : n < P) : without (kf l pre P) n = kf l (pre ++ [n]) P := by
  unfold without kf
  rw [List.filter_filter]
  congr 1
  funext p
  by_cases e : p.1 = n
  · subst e; simp [h]
  · simp [e]
theorem kf_skip {l : List (Int × Pr)} {pre : List Int} {P n : Int} (h : ¬ n < P) : kf l (pre ++ [n]) P = kf l pre P := by
  unfold kf
  congr 1
  funext p
  by_cases e : p.1 = n
  · subst e; simp [h]
  · simp [e]
theorem kf_nil {l : List (Int × Pr)} {P : Int} : kf l [] P = l := by
  unfold kf
  exact List.filter_eq_self.mpr fun _ _ => by simp
theorem kf_all {l : List (Int × Pr)} {ns : List Int} {P : Int} (h : ∀ p ∈ l, p.1 ∈ ns) : kf l ns P = l.filter fun q => decide (P ≤ q.1) := by
  unfold kf
  refine List.filter_congr fun p hp => ?_
  have := h p hp
  by_cases q : P ≤ p.1
  · simp [this, q, Int.not_lt.mpr q]
  · simp [this, q, Int.not_le.mp q]
theorem kf_lookup {l : List (Int × Pr)} {pre : List Int} {P n : Int} (h : n ∉ pre) : (kf l pre P).lookup n = l.lookup n := by
  unfold kf
  induction l with
  | nil => rfl
  | cons p l ih =>
    rw [List.lookup_cons, List.filter_cons]
    by_cases e : n = p.1
    · subst e
      rw [if_pos (by simp [h]), List.lookup_cons, beq_self_eq_true]
    · rw [beq_eq_false_iff_ne.mpr e]
      split
      · rw [List.lookup_cons, beq_eq_false_iff_ne.mpr e]; exact ih
      · exact ih
theorem lookup_of_key {l : List (Int × Pr)} {n : Int} (h : n ∈ l.map (·.1)) : ∃ p, l.lookup n = some p := by
  induction l with
  | nil => simp at h
  | cons p l ih =>
    rw [List.lookup_cons]
    by_cases e : n = p.1
    · subst e; exact ⟨p.2, by rw [beq_self_eq_true]⟩
    · rw [beq_eq_false_iff_ne.mpr e]
      refine ih ?_
      rw [List.map_cons] at h
      rcases List.mem_cons.mp h with h | h
      · exact absurd h e
      · exact h
theorem kf_key {l : List (Int × Pr)} {pre : List Int} {P n : Int} : n ∈ (kf l pre P).map (·.1) ↔ n ∈ l.map (·.1) ∧ ¬ (n ∈ pre ∧ n < P) := by
  unfold kf
  simp only [List.mem_map, List.mem_filter]
  constructor
  · rintro ⟨p, ⟨h1, h2⟩, rfl⟩
    refine ⟨⟨p, h1, rfl⟩, fun ⟨q1, q2⟩ => ?_⟩
    simp [q1, q2] at h2
  · rintro ⟨⟨p, h1, rfl⟩, h2⟩
    refine ⟨p, ⟨h1, ?_⟩, rfl⟩
    simp only [Bool.not_eq_true', Bool.and_eq_false_imp, List.contains_eq_mem, decide_eq_true_eq, decide_eq_false_iff_not]
    exact fun q1 q2 => h2 ⟨q1, q2⟩
section
variable {D : Wd} {c : Cx} {σ : St} {X : Int → St → Prop} {Q : AV → St → Prop}
theorem retire_below_ok (pf : PF D) {a : UA} {v : UV} {p P : Int} (hP : P = max v.prior p) (hu : Usr σ.hp a v) (hnd : (v.known.map (·.1)).Nodup) (hex : ∃ M ∈ v.known.map (·.1), P ≤ M) (hc : v.cur ∈ v.known.map (·.1)) (hcu : v.cur ∈ v.used) (hz2 : v.known.length < 64) (hz : v.used.length ≤ 700) (hz3 : v.word.length ≤ 700) (hpu : c.pur = false) (hr : 8 < c.room)
    (h : ∀ H' cur' used' ns, σ.hp.But H' [a.d, a.k, a.u, a.w] → Srt ns (v.known.map (·.1)) → Usr H' a { v with prior := P, known := v.known.filter fun q => decide (P ≤ q.1), word := v.word ++ ns.filter fun n => decide (n < P), cur := cur', used := used' } →
      cur' ∈ used' → cur' ∈ (v.known.filter fun q => decide (P ≤ q.1)).map (·.1) → used'.length ≤ v.used.length + v.known.length → Q .none ⟨σ.vars, H'⟩) :
    TO D c VR [.obj a.x, .int p] (fun vs => call (.ref 144) vs) σ Q X := by
  refine TO_fn' (room := 6) (fn144 pf) rfl hpu (by omega) fun L c' i => ?_
  unfold b144
  obtain ⟨o, fr⟩ := i.frames
  walk_at "WW"
  refine O_attr hu.x hu.d rfl (sa192_retire_prior pf) rfl ?_
  walk_at "WW"
  refine B_max i.pur ?_
  rw [ifmax, ← hP]
  walk_at "WW"
  refine O_setattr i.pur hu.x hu.d (ss192_retire_prior pf) (by show 8 ≤ 900; omega) ?_
  rw [put192_prior]
  have u1 : Usr (σ.hp.set a.d (.ns (({ v with prior := P } : UV).ns a))) a { v with prior := P } := hu.setD rfl rfl rfl rfl
  have b1 : σ.hp.But (σ.hp.set a.d (.ns (({ v with prior := P } : UV).ns a))) [a.d, a.k, a.u, a.w] := (Hp.But.refl _ _).set (by simp)
  generalize σ.hp.set a.d (.ns (({ v with prior := P } : UV).ns a)) = H₁ at u1 b1 ⊢
  walk_at "W"
  walk_at "W"
  refine TF_for_list (fun _ => rfl) goes_name i.pur fr i.frame ?_
  walk_at "WW"
  refine O_attr u1.x u1.d rfl (sa192_known pf) rfl ?_
  walk_at "WW"
  refine B_sorted_dict i.pur u1.k (by rw [prs_length]; exact hz2) fun l ns hl srt => ?_
  rw [prs_keys] at srt
  refine ⟨_, _, rfl, Hp.set_eq, ?_⟩
  have u2 := u1.but ((Hp.But.refl _ []).new hl (o := .list (ns.map .int))) (by simp)
  have b2 := b1.new hl (o := .list (ns.map .int))
  have nl : l ∉ [a.d, a.k, a.u, a.w] := by
    have e1 : a.d ≠ l := Hp.ne_new u1.d hl
    have e2 : a.k ≠ l := Hp.ne_new u1.k hl
    have e3 : a.u ≠ l := Hp.ne_new u1.u hl
    have e4 : a.w ≠ l := Hp.ne_new u1.w hl
    simp [e1.symm, e2.symm, e3.symm, e4.symm]
  have hl2 : (H₁.set l (.list (ns.map .int))) l = some (.list (ns.map .int)) := Hp.set_eq
  generalize H₁.set l (.list (ns.map .int)) = H₂ at u2 b2 hl2 ⊢
  have nsn : ns.Nodup := srt.1.nodup_iff.mpr hnd
  have nsl : ns.length = v.known.length := by rw [srt.1.length_eq, List.length_map]
  suffices go : ∀ (r pre : List Int) (vars : List (Str × AV)) (H : Hp) (cur' : Int) (used' : List Int), Sub [("self", .obj a.x)] vars → ns = pre ++ r → H l = some (.list (ns.map .int)) → σ.hp.But H [a.d, a.k, a.u, a.w] →
      Usr H a { v with prior := P, known := kf v.known pre P, word := v.word ++ pre.filter fun n => decide (n < P), cur := cur', used := used' } → cur' ∈ used' → cur' ∈ (kf v.known pre P).map (·.1) → used'.length ≤ v.used.length + pre.length →
      LoopL D c' _ _ l (ns.map .int) (r.map .int) ⟨vars, H⟩ _ _ by
    refine go ns [] _ H₂ v.cur v.used (Sub.cons rfl (Sub.nil _)) rfl hl2 b2 ?_ hcu (by rw [kf_nil]; exact hc) (by simp)
    rw [kf_nil, List.filter_nil, List.append_nil]
    exact u2
  intro r
  induction r with
  | nil =>
    intro pre vars H cur' used' sub e hlH bt uu h1 h2 h3
    rw [List.append_nil] at e
    subst e
    refine LoopL_nil ?_
    walk_at "WW"
    have ka : kf v.known ns P = v.known.filter fun q => decide (P ≤ q.1) := kf_all fun q hq => srt.1.mem_iff.mpr (List.mem_map.mpr ⟨q, hq, rfl⟩)
    rw [ka] at uu h2
    exact h H cur' used' ns bt srt uu h1 h2 (by rw [nsl] at h3; exact h3)
  | cons n r ih =>
    intro pre vars H cur' used' sub e hlH bt uu h1 h2 h3
    have hn : n ∈ v.known.map (·.1) := srt.1.mem_iff.mp (by rw [e]; simp)
    have hnp : n ∉ pre := fun q => by
      rw [e] at nsn
      have := (List.nodup_append.mp nsn).2.2
      exact this n q n (by simp) rfl
    have e' : ns = (pre ++ [n]) ++ r := by rw [e]; simp
    have plen : pre.length + 1 ≤ v.known.length := by rw [← nsl, e]; simp
    refine LoopL_cons ?_
    refine TO1.sub sub ?_
    walk_at "WW"
    refine O_attr uu.x uu.d rfl (sa192_retire_prior pf) rfl ?_
    walk_at "WW"
    refine ⟨fun hb => ?_, fun hb => ?_⟩
    · have hlt : n < P := of_decide_eq_true hb
      obtain ⟨q, hq⟩ := lookup_of_key hn
      walk_at "WW"
      refine ⟨_, _, _, rfl, uu.x, uu.d, rfl, ?_⟩
      walk_at "WW"
      have flen : (pre.filter fun n => decide (n < P)).length ≤ pre.length := List.length_filter_le _ _
      have klen : (kf v.known pre P).length ≤ v.known.length := List.length_filter_le _ _
      refine retire_ok pf uu (p := q) (by show (kf v.known pre P).lookup n = _; rw [kf_lookup hnp, hq]) (by show used'.length ≤ 900; omega) (by show (kf v.known pre P).length ≤ 900; omega) (by show (v.word ++ _).length ≤ 900; rw [List.length_append]; omega) i.pur (by rw [i.room]; omega) fun H₃ cur2 used2 b3 u3 k1 k2 k3 k4 => ?_
      have ew : without (kf v.known pre P) n = kf v.known (pre ++ [n]) P := kf_without hlt
      have ef : (v.word ++ pre.filter fun n => decide (n < P)) ++ [n] = v.word ++ (pre ++ [n]).filter fun n => decide (n < P) := by
        rw [List.filter_append]; simp [hlt]
      have u4 : Usr H₃ a { v with prior := P, known := kf v.known (pre ++ [n]) P, word := v.word ++ (pre ++ [n]).filter fun n => decide (n < P), cur := cur2, used := used2 } := by
        rw [← ew, ← ef]; exact u3
      have hne : kf v.known (pre ++ [n]) P ≠ [] := fun z => by
        obtain ⟨M, hM, hPM⟩ := hex
        have : M ∈ (kf v.known (pre ++ [n]) P).map (·.1) := kf_key.mpr ⟨hM, fun ⟨_, q⟩ => by omega⟩
        rw [z] at this; simp at this
      have hcur : cur2 ∈ used2 ∧ cur2 ∈ (kf v.known (pre ++ [n]) P).map (·.1) := by
        by_cases hcc : n = cur'
        · obtain ⟨m1, m2⟩ := k4 hcc (by show without (kf v.known pre P) n ≠ []; rw [ew]; exact hne)
          have m1' : cur2 ∈ (without (kf v.known pre P) n).map (·.1) := m1
          rw [ew] at m1'
          exact ⟨m2, m1'⟩
        · obtain ⟨m1, m2⟩ := k3 hcc
          have m1' : cur2 = cur' := m1
          have m2' : used2 = used' := m2
          rw [m1', m2']
          refine ⟨h1, kf_key.mpr ⟨(kf_key.mp h2).1, fun ⟨q1, q2⟩ => ?_⟩⟩
          rcases List.mem_append.mp q1 with q1 | q1
          · exact (kf_key.mp h2).2 ⟨q1, q2⟩
          · exact hcc (List.mem_singleton.mp q1).symm
      walk_at "WW"
      exact ⟨b3 l _ nl hlH, ih (pre ++ [n]) _ H₃ cur2 used2 (Sub.new rfl) e' (b3 l _ nl hlH) (bt.trans b3) u4 hcur.1 hcur.2 (by
        have k1' : used2.length ≤ used'.length + 1 := k1
        rw [List.length_append]; simp only [List.length_singleton]; omega)⟩
    · have hlt : ¬ n < P := of_decide_eq_false hb
      walk_at "WW"
      have ef : (pre ++ [n]).filter (fun n => decide (n < P)) = pre.filter fun n => decide (n < P) := by
        rw [List.filter_append]; simp [hlt]
      refine ⟨hlH, ih (pre ++ [n]) _ H cur' used' (Sub.new rfl) e' hlH bt ?_ h1 (by rw [kf_skip hlt]; exact h2) (by rw [List.length_append]; simp only [List.length_singleton]; omega)⟩
      rw [kf_skip hlt, ef]
      exact uu
end
noncomputable def sameP (p : Pr) (b t : Array UInt8) : Bool := p.1 == b && ((match p.2 with | none => false | some t' => t' == t) && true)
theorem sameP_eq (p : Pr) (b t : Array UInt8) : eqvs [.bytes p.1, tokAV p.2] [.bytes b, .bytes t] = some (sameP p b t) := by
  obtain ⟨p1, p2⟩ := p
  cases p2 <;> rfl
theorem sameP_iff {p : Pr} {b t : Array UInt8} : sameP p b t = true ↔ p = (b, some t) := by
  obtain ⟨p1, p2⟩ := p
  cases p2 with
  | none => simp [sameP]
  | some t' => simp [sameP]
theorem Hp.But.dictx {H H' : Hp} {d : Addr} {kvs : List (Int × AV)} {o : AO} (hd : H d = some (.dict kvs)) (b : (H.set d o).But H' []) : H.But (H'.set d (.dict kvs)) [] := fun a p n h => by
  by_cases q : a = d
  · subst q; rw [hd] at h; cases h; exact Hp.set_eq
  · exact Hp.set_ne q (b a p n (Hp.set_ne q h))
section
variable {D : Wd} {c : Cx} {σ : St} {X : Int → St → Prop} {Q : AV → St → Prop}
noncomputable def badNew (v : UV) (n : Int) (b t : Array UInt8) : Prop := v.empty = true ∨ (∃ p, v.told.lookup n = some p ∧ p ≠ (b, some t)) ∨ (v.told.lookup n = none ∧ ∃ q ∈ v.told, q.2.1 = b)
theorem check_new_ok (pf : PF D) {a : UA} {v : UV} {n : Int} {b t : Array UInt8} (hu : Usr σ.hp a v) (hnd : (v.told.map (·.1)).Nodup) (hpu : c.pur = false) (hr : 6 < c.room)
    (hbad : badNew v n b t → ∀ H', σ.hp.But H' [] → X 10 ⟨σ.vars, H'⟩)
    (h1 : v.empty = false → v.told.lookup n = some (b, some t) → ∀ H', σ.hp.But H' [] → Q (.bool true) ⟨σ.vars, H'⟩)
    (h2 : v.empty = false → v.told.lookup n = none → (∀ q ∈ v.told, q.2.1 ≠ b) → ∀ H', σ.hp.But H' [] → Q (.bool false) ⟨σ.vars, H'⟩) :
    TO D c VR [.obj a.x, .int n, .bytes b, .bytes t] (fun vs => call (.ref 130) vs) σ Q X := by
  refine TO_fn' (room := 4) (fn130 pf) rfl hpu (by omega) fun L c' i => ?_
  have hrm := i.room
  obtain ⟨o, fr⟩ := i.frames
  unfold b130
  walk_at "WW"
  refine O_attr hu.x hu.d rfl (sa192_is_empty pf) rfl ?_
  walk_at "WW"
  refine ⟨fun hb => ?_, fun he => ?_⟩
  · walk_at "WW"
    exact quic_raise pf (n_PROTOCOL_VIOLATION pf (i.kd rfl)) (n_FRAME_NEW pf (i.kd rfl)) (.inr rfl) (by decide +kernel) i.pur (by rw [i.room]; omega) (i.kd rfl) fun H' bt => hbad (.inl hb) H' bt
  walk_at "WW"
  refine O_attr hu.x hu.d rfl (sa192_told pf) rfl ?_
  refine O_in_dict hu.t ?_
  rw [prs_lookup]
  walk_at "WW"
  refine ⟨fun hb => ?_, fun hb => ?_⟩
  · obtain ⟨p, hp⟩ : ∃ p, v.told.lookup n = some p := by
      cases q : v.told.lookup n with
      | none => rw [q] at hb; cases hb
      | some p => exact ⟨p, rfl⟩
    walk_at "WW"
    refine O_attr hu.x hu.d rfl (sa192_told pf) rfl ?_
    walk_at "WW"
    refine O_item_dict (fun _ _ => rfl) hu.t (by rw [prs_lookup, hp]; rfl) ?_
    walk_at "WW"
    refine O_ne_tup (sameP_eq p b t) ?_
    walk_at "WW"
    refine ⟨fun hs => ?_, fun hs => ?_⟩
    · walk_at "WW"
      refine quic_raise pf (n_PROTOCOL_VIOLATION pf (i.kd rfl)) (n_FRAME_NEW pf (i.kd rfl)) (.inr rfl) (by decide +kernel) i.pur (by rw [i.room]; omega) (i.kd rfl) fun H' bt => hbad (.inr (.inl ⟨p, hp, fun q => ?_⟩)) H' bt
      rw [sameP_iff.mpr q] at hs; cases hs
    · walk_at "WW"
      have : sameP p b t = true := by cases q : sameP p b t with
        | true => rfl
        | false => rw [q] at hs; cases hs
      exact h1 he (by rw [hp, sameP_iff.mp this]) _ (Hp.But.refl _ _)
  · have hn : v.told.lookup n = none := by
      cases q : v.told.lookup n with
      | none => rfl
      | some p => rw [q] at hb; cases hb
    walk_at "W"
    walk_at "W"
    walk_at "W"
    refine TF_for_dict (fun _ => rfl) i.pur fr i.frame ?_
    walk_at "WW"
    refine O_attr hu.x hu.d rfl (sa192_told pf) rfl ?_
    refine ⟨_, _, rfl, hu.t, fun ob => ?_⟩
    have ne := hu.ne
    have back : ∀ vars, (St.at ⟨vars, σ.hp.set a.t (.dictx (prs v.told) ob)⟩ a.t (.dict (prs v.told))) = ⟨vars, σ.hp⟩ := fun vars => by
      unfold St.at; rw [Hp.set_set, Hp.set_same hu.t]
    suffices go : ∀ (r pre : List (Int × Pr)) (vars : List (Str × AV)), Sub [("self", .obj a.x), ("cid", .bytes b)] vars → v.told = pre ++ r → (∀ q ∈ pre, q.2.1 ≠ b) →
        LoopD D c' _ _ a.t (prs v.told) ob (r.map (·.1)) ⟨vars, σ.hp.set a.t (.dictx (prs v.told) ob)⟩ _ _ by
      have := go v.told [] _ (Sub.cons rfl (Sub.cons rfl (Sub.nil (bindV ["self", "number", "cid", "token"] [.obj a.x, .int n, .bytes b, .bytes t] [])))) rfl (fun _ h => nomatch h)
      rw [← prs_keys] at this
      exact this
    intro r
    induction r with
    | nil =>
      intro pre vars sub e hp
      rw [List.append_nil] at e
      subst e
      refine LoopD_nil ?_
      rw [back]
      walk_at "WW"
      exact h2 he hn hp _ (Hp.But.refl _ _)
    | cons p r ih =>
      intro pre vars sub e hp
      refine LoopD_cons ?_
      refine TO1.sub sub ?_
      walk_at "WW"
      refine O_attr (Hp.set_ne ne.xt hu.x) (Hp.set_ne ne.dt hu.d) rfl (sa192_told pf) rfl ?_
      walk_at "WW"
      have hmem : p ∈ v.told := by rw [e]; simp
      have hl : (prs v.told).lookup p.1 = some (prAV p.2) := by
        have : (p.1, prAV p.2) ∈ prs v.told := List.mem_map.mpr ⟨p, hmem, rfl⟩
        exact lookup_nodup (by rw [prs_keys]; exact hnd) this
      refine O_item_dictx (fun _ _ => rfl) Hp.set_eq hl ?_
      walk_at "WW"
      refine O_item_tup (fun _ _ => rfl) (by omega) (by omega) rfl ?_
      walk_at "WW"
      refine O_eq_bytes ?_
      walk_at "WW"
      refine ⟨fun hb => ?_, fun hb => ?_⟩
      · walk_at "WW"
        refine quic_raise pf (n_PROTOCOL_VIOLATION pf (i.kd rfl)) (n_FRAME_NEW pf (i.kd rfl)) (.inr rfl) (by decide +kernel) i.pur (by rw [i.room]; omega) (i.kd rfl) fun H' bt => ⟨bt _ _ (by simp) Hp.set_eq, hbad (.inr (.inr ⟨hn, p, hmem, eq_of_beq hb⟩)) _ (Hp.But.dictx hu.t bt)⟩
      · walk_at "WW"
        refine ⟨Hp.set_eq, ih (pre ++ [p]) _ (Sub.new rfl) (by rw [e]; simp) fun q hq => ?_⟩
        rcases List.mem_append.mp hq with hq | hq
        · exact hp q hq
        · rw [List.mem_singleton.mp hq]
          intro z
          rw [z, beq_self_eq_true] at hb; cases hb
end
theorem not_key {l : List (Int × Pr)} {n : Int} (h : l.lookup n = none) : n ∉ l.map (·.1) := fun q => by
  obtain ⟨p, hp⟩ := lookup_of_key q
  rw [h] at hp; cases hp
section
variable {D : Wd} {c : Cx} {σ : St} {X : Int → St → Prop} {Q : AV → St → Prop}
theorem on_new_ok (pf : PF D) {a : UA} {v : UV} {n p P : Int} {b t : Array UInt8} (hP : P = max v.prior p) (hu : Usr σ.hp a v) (hnd : (v.told.map (·.1)).Nodup) (htl : v.told.length ≤ 700) (hz2 : v.known.length < 63) (hz : v.used.length ≤ 700) (hz3 : v.word.length ≤ 700) (hpu : c.pur = false) (hr : 15 < c.room)
    (hknd : (v.known.map (·.1)).Nodup) (hsub : ∀ k ∈ v.known.map (·.1), k ∈ v.told.map (·.1)) (hc : v.cur ∈ v.known.map (·.1)) (hcu : v.cur ∈ v.used) (hpn : p ≤ n)
    (hbad : badNew v n b t → ∀ H', σ.hp.But H' [] → X 10 ⟨σ.vars, H'⟩)
    (hold : v.empty = false → v.told.lookup n = some (b, some t) → ∀ H', σ.hp.But H' [] → Q .none ⟨σ.vars, H'⟩)
    (hlate : v.empty = false → v.told.lookup n = none → n < v.prior → ∀ H', σ.hp.But H' [a.d, a.k, a.u, a.t, a.w] → Usr H' a { v with told := v.told ++ [(n, (b, some t))], word := v.word ++ [n] } → Q .none ⟨σ.vars, H'⟩)
    (hnew : v.empty = false → v.told.lookup n = none → ¬ n < v.prior → ∀ H' cur' used' ns, σ.hp.But H' [a.d, a.k, a.u, a.t, a.w] → Srt ns ((v.known ++ [(n, (b, some t))]).map (·.1)) →
      Usr H' a { v with told := v.told ++ [(n, (b, some t))], prior := P, known := (v.known ++ [(n, (b, some t))]).filter (fun q => decide (P ≤ q.1)), word := v.word ++ ns.filter (fun n => decide (n < P)), cur := cur', used := used' } →
      cur' ∈ used' → cur' ∈ ((v.known ++ [(n, (b, some t))]).filter fun q => decide (P ≤ q.1)).map (·.1) → used'.length ≤ v.used.length + v.known.length + 1 →
      ((v.limit < (((v.known ++ [(n, (b, some t))]).filter fun q => decide (P ≤ q.1)).length : Int) → ∀ H'', H'.But H'' [] → X 9 ⟨σ.vars, H''⟩) ∧ (¬ v.limit < (((v.known ++ [(n, (b, some t))]).filter fun q => decide (P ≤ q.1)).length : Int) → Q .none ⟨σ.vars, H'⟩))) :
    TO D c VR [.obj a.x, .int n, .int p, .bytes b, .bytes t] (fun vs => call (.ref 137) vs) σ Q X := by
  refine TO_fn' (room := 13) (fn137 pf) rfl hpu (by omega) fun L c' i => ?_
  have hrm := i.room
  have ne := hu.ne
  unfold b137
  walk_at "WW"
  refine ⟨_, _, _, rfl, hu.x, hu.d, rfl, ?_⟩
  walk_at "WW"
  refine check_new_ok pf hu hnd i.pur (by omega) hbad (fun he hl H' bt => ?_) (fun he hl hb H' bt => ?_)
  · walk_at "WW"
    walk_at "T"
    walk_at "WW"
    exact hold he hl H' bt
  have u1 := hu.but bt (by simp)
  have bt1 : σ.hp.But H' [a.d, a.k, a.u, a.t, a.w] := bt.mono (fun _ h => nomatch h)
  walk_at "WW"
  walk_at "F"
  walk_at "WW"
  refine O_attr u1.x u1.d rfl (sa192_told pf) rfl ?_
  walk_at "WW"
  refine O_setitem i.pur u1.t (by rw [prs_length]; omega) ?_
  rw [show dPut (prs v.told) n (.tup [.bytes b, .bytes t]) = prs (v.told ++ [(n, (b, some t))]) from prs_put (p := (b, some t)) (not_key hl)]
  have u2 := u1.setT (l := v.told ++ [(n, (b, some t))])
  have bt2 := bt1.set (z := a.t) (o := .dict (prs (v.told ++ [(n, (b, some t))]))) (by simp)
  generalize H'.set a.t (.dict (prs (v.told ++ [(n, (b, some t))]))) = H₂ at u2 bt2 ⊢
  walk_at "WW"
  refine O_attr u2.x u2.d rfl (sa192_retire_prior pf) rfl ?_
  walk_at "WW"
  refine ⟨fun hlt => ?_, fun hlt => ?_⟩
  · walk_at "WW"
    refine O_attr u2.x u2.d rfl (sa192_to_retire pf) rfl ?_
    refine ⟨_, _, rfl, u2.w, ?_⟩
    walk_at "WW"
    refine B_append i.pur u2.w (by rw [List.length_map]; show v.word.length ≤ 1000; omega) ?_
    rw [show (({ v with told := v.told ++ [(n, (b, some t))] } : UV).word.map AV.int ++ [.int n]) = (v.word ++ [n]).map .int from by simp]
    walk_at "WW"
    exact hlate he hl (of_decide_eq_true hlt) _ (bt2.set (by simp)) (u2.setW (l := v.word ++ [n]))
  · have hge : ¬ n < v.prior := of_decide_eq_false hlt
    have hkn : n ∉ v.known.map (·.1) := fun q => not_key hl (hsub n q)
    walk_at "WW"
    refine O_attr u2.x u2.d rfl (sa192_known pf) rfl ?_
    walk_at "WW"
    refine O_setitem i.pur u2.k (by rw [prs_length]; show v.known.length ≤ 1000; omega) ?_
    rw [show dPut (prs ({ v with told := v.told ++ [(n, (b, some t))] } : UV).known) n (.tup [.bytes b, .bytes t]) = prs (v.known ++ [(n, (b, some t))]) from prs_put (p := (b, some t)) hkn]
    have u3 := u2.setK (l := v.known ++ [(n, (b, some t))])
    have bt3 := bt2.set (z := a.k) (o := .dict (prs (v.known ++ [(n, (b, some t))]))) (by simp)
    generalize H₂.set a.k (.dict (prs (v.known ++ [(n, (b, some t))]))) = H₃ at u3 bt3 ⊢
    walk_at "WW"
    refine ⟨_, _, _, rfl, u3.x, u3.d, rfl, ?_⟩
    walk_at "WW"
    have klen : (v.known ++ [(n, (b, some t))]).length = v.known.length + 1 := by simp
    refine retire_below_ok pf (v := { v with told := v.told ++ [(n, (b, some t))], known := v.known ++ [(n, (b, some t))] }) (P := P) hP u3 ?_ ⟨n, by simp, by omega⟩ (by show v.cur ∈ (v.known ++ [(n, (b, some t))]).map (·.1); rw [List.map_append]; exact List.mem_append_left _ hc) hcu (by show (v.known ++ [(n, (b, some t))]).length < 64; omega) hz hz3 i.pur (by omega) fun H₄ cur' used' ns b4 srt u4 m1 m2 m3 => ?_
    · show ((v.known ++ [(n, (b, some t))]).map (·.1)).Nodup
      rw [List.map_append, List.nodup_append]
      refine ⟨hknd, by simp, fun x hx y hy => ?_⟩
      rw [List.mem_singleton.mp hy]
      intro q
      have q' : x = n := q
      rw [q'] at hx
      exact hkn hx
    have bt4 := bt3.trans (b4.mono (m' := [a.d, a.k, a.u, a.t, a.w]) (by simp))
    walk_at "WW"
    refine O_attr u4.x u4.d rfl (sa192_known pf) rfl ?_
    walk_at "WW"
    have flen : ((v.known ++ [(n, (b, some t))]).filter fun q => decide (P ≤ q.1)).length ≤ (v.known ++ [(n, (b, some t))]).length := List.length_filter_le _ _
    refine B_len_dict u4.k (by rw [prs_length]; show ((v.known ++ [(n, (b, some t))]).filter fun q => decide (P ≤ q.1)).length ≤ 1000; omega) ?_
    rw [prs_length]
    walk_at "WW"
    refine O_attr u4.x u4.d rfl (sa192_limit pf) rfl ?_
    walk_at "WW"
    have m3' : used'.length ≤ v.used.length + v.known.length + 1 := by
      have : used'.length ≤ v.used.length + (v.known ++ [(n, (b, some t))]).length := m3
      omega
    obtain ⟨k1, k2⟩ := hnew he hl hge H₄ cur' used' ns bt4 srt u4 m1 m2 m3'
    refine ⟨fun hq => ?_, fun hq => ?_⟩
    · walk_at "WW"
      refine quic_raise pf (n_CONNECTION_ID_LIMIT_ERROR pf (i.kd rfl)) (n_FRAME_NEW pf (i.kd rfl)) (.inl rfl) (by decide +kernel) i.pur (by rw [i.room]; omega) (i.kd rfl) fun H₅ b5 => ?_
      exact k1 (of_decide_eq_true hq) H₅ b5
    · walk_at "WW"
      exact k2 (of_decide_eq_false hq)
end
theorem tok_plain (t : Option (Array UInt8)) : (tokAV t).plain = true := by cases t <;> rfl
section
variable {D : Wd} {c : Cx} {σ : St} {X : Int → St → Prop} {Q : AV → St → Prop}
theorem RemoteIds_ok (pf : PF D) {b : Array UInt8} {t : Option (Array UInt8)} {lim : Int} (hb : b.size ≤ 1000) (hpu : c.pur = false) (hr : 3 < c.room)
    (h : ∀ (a : UA) H', σ.hp a.x = none → σ.hp a.d = none → σ.hp a.k = none → σ.hp a.u = none → σ.hp a.t = none → σ.hp a.w = none → σ.hp.But H' [] →
      Usr H' a { limit := lim, cur := 0, prior := 0, known := [(0, (b, t))], told := [(0, (b, t))], used := [0], word := [], empty := b.size == 0 } → Q (.obj a.x) ⟨σ.vars, H'⟩) :
    TO D c VR [.bytes b, tokAV t, .int lim] (fun vs => call (.ref 192) vs) σ Q X := by
  refine TO_inst' (room := 0) (xf192 pf) (fn116 pf) rfl hpu (by omega) fun L x dx c' i hx hdx hne => ?_
  unfold b116
  walk_at "WW"
  refine O_setattr i.pur Hp.set_eq (Hp.set_ne (Ne.symm hne) Hp.set_eq) (ss192_limit pf) (by decide) ?_
  walk_at "WW"
  refine TE_dict1 (fun k hk => ?_) i.pur
  walk_at "WW"
  refine ⟨Hp.set_eq, ?_⟩
  rw [Hp.set_set]
  walk_at "WW"
  obtain ⟨kd, hk1⟩ := Hp.none_of hk
  obtain ⟨kx, hk2⟩ := Hp.none_of hk1
  obtain ⟨_, hk0⟩ := Hp.none_of hk2
  refine O_setattr i.pur (Hp.set_ne kx (Hp.set_ne hne Hp.set_eq)) (Hp.set_ne kd Hp.set_eq) (ss192_known pf) (Nat.le_of_ble_eq_true (by kernel_rfl)) ?_
  walk_at "WW"
  refine O_setattr i.pur (Hp.set_ne hne (Hp.set_ne kx (Hp.set_ne hne Hp.set_eq))) Hp.set_eq (ss192_current pf) (Nat.le_of_ble_eq_true (by kernel_rfl)) ?_
  rw [Hp.set_set]
  walk_at "WW"
  intro u hu
  obtain ⟨ud, hu1⟩ := Hp.none_of hu
  obtain ⟨uk, hu2⟩ := Hp.none_of hu1
  obtain ⟨_, hu3⟩ := Hp.none_of hu2
  obtain ⟨ux, hu4⟩ := Hp.none_of hu3
  obtain ⟨_, hu0⟩ := Hp.none_of hu4
  walk_at "WW"
  refine O_setattr i.pur (Hp.set_ne ux (Hp.set_ne hne (Hp.set_ne kx (Hp.set_ne hne Hp.set_eq)))) (Hp.set_ne ud Hp.set_eq) (ss192_used pf) (Nat.le_of_ble_eq_true (by kernel_rfl)) ?_
  walk_at "WW"
  refine O_setattr i.pur (Hp.set_ne hne (Hp.set_ne ux (Hp.set_ne hne (Hp.set_ne kx (Hp.set_ne hne Hp.set_eq))))) Hp.set_eq (ss192_retire_prior pf) (Nat.le_of_ble_eq_true (by kernel_rfl)) ?_
  rw [Hp.set_set]
  walk_at "WW"
  refine TE_dict1 (fun t' ht => ?_) i.pur
  walk_at "WW"
  refine ⟨Hp.set_eq, ?_⟩
  rw [Hp.set_set]
  walk_at "WW"
  obtain ⟨td, ht1⟩ := Hp.none_of ht
  obtain ⟨tu, ht2⟩ := Hp.none_of ht1
  obtain ⟨_, ht3⟩ := Hp.none_of ht2
  obtain ⟨tk, ht4⟩ := Hp.none_of ht3
  obtain ⟨_, ht5⟩ := Hp.none_of ht4
  obtain ⟨tx, ht6⟩ := Hp.none_of ht5
  obtain ⟨_, ht0⟩ := Hp.none_of ht6
  refine O_setattr i.pur (Hp.set_ne tx (Hp.set_ne hne (Hp.set_ne ux (Hp.set_ne hne (Hp.set_ne kx (Hp.set_ne hne Hp.set_eq)))))) (Hp.set_ne td Hp.set_eq) (ss192_told pf) (Nat.le_of_ble_eq_true (by kernel_rfl)) ?_
  walk_at "WW"
  intro w hw
  obtain ⟨wd, hw1⟩ := Hp.none_of hw
  obtain ⟨wt, hw2⟩ := Hp.none_of hw1
  obtain ⟨_, hw3⟩ := Hp.none_of hw2
  obtain ⟨wu, hw4⟩ := Hp.none_of hw3
  obtain ⟨_, hw5⟩ := Hp.none_of hw4
  obtain ⟨wk, hw6⟩ := Hp.none_of hw5
  obtain ⟨_, hw7⟩ := Hp.none_of hw6
  obtain ⟨wx, hw8⟩ := Hp.none_of hw7
  obtain ⟨_, hw0⟩ := Hp.none_of hw8
  walk_at "WW"
  refine O_setattr i.pur (Hp.set_ne wx (Hp.set_ne hne (Hp.set_ne tx (Hp.set_ne hne (Hp.set_ne ux (Hp.set_ne hne (Hp.set_ne kx (Hp.set_ne hne Hp.set_eq)))))))) (Hp.set_ne wd Hp.set_eq) (ss192_to_retire pf) (Nat.le_of_ble_eq_true (by kernel_rfl)) ?_
  walk_at "WW"
  refine B_len_bytes hb ?_
  walk_at "WW"
  refine O_setattr i.pur (Hp.set_ne hne (Hp.set_ne wx (Hp.set_ne hne (Hp.set_ne tx (Hp.set_ne hne (Hp.set_ne ux (Hp.set_ne hne (Hp.set_ne kx (Hp.set_ne hne Hp.set_eq))))))))) Hp.set_eq (ss192_is_empty pf) (Nat.le_of_ble_eq_true (by kernel_rfl)) ?_
  rw [Hp.set_set]
  walk_at "WW"
  have e : ((b.size : Int) == 0) = (b.size == 0) := by
    rw [Bool.eq_iff_iff, beq_iff_eq, beq_iff_eq]; omega
  rw [e]
  have xd := hne
  refine ⟨rfl, h ⟨x, dx, k, u, t', w⟩ _ hx hdx hk0 hu0 ht0 hw0 (((((((((((Hp.But.refl _ _).fresh hdx).fresh hx).fresh hdx).fresh hk0).fresh hdx).fresh hu0).fresh hdx).fresh ht0).fresh hdx).fresh hw0 |>.fresh hdx) ⟨?_, ?_, ?_, ?_, ?_, ?_, tk, wu⟩⟩
  · exact Hp.set_ne hne (Hp.set_ne wx (Hp.set_ne hne (Hp.set_ne tx (Hp.set_ne hne (Hp.set_ne ux (Hp.set_ne hne (Hp.set_ne kx (Hp.set_ne hne Hp.set_eq))))))))
  · refine Hp.set_eq.trans ?_
    show some (AO.ns _) = some (AO.ns _)
    congr 2
  · exact Hp.set_ne kd.symm (Hp.set_ne wk (Hp.set_ne kd.symm (Hp.set_ne tk (Hp.set_ne kd.symm (Hp.set_ne uk (Hp.set_ne kd.symm Hp.set_eq))))))
  · exact Hp.set_ne ud.symm (Hp.set_ne wu (Hp.set_ne ud.symm (Hp.set_ne tu (Hp.set_ne ud.symm Hp.set_eq))))
  · exact Hp.set_ne td.symm (Hp.set_ne wt (Hp.set_ne td.symm Hp.set_eq))
  · exact Hp.set_ne wd.symm Hp.set_eq
end
section
variable {D : Wd} {c : Cx} {σ : St} {X : Int → St → Prop} {Q : AV → St → Prop}
theorem law_code_ok (pf : PF D) {f c' : Addr} {oc : Obj} {vs : Array Value} {t : Tok} {qual : Str} {params : Arguments} {body : Expr} {scope : Scope} {cl : List (Str × Addr)} {pm ctv : Value} {caps : List (Str × AV)} (hpu : c.pur = false) (hr : 21 < c.room)
    (hf : σ.hp f = some (.raw (lamObj qual params body scope cl pm c' ctv))) (hc : σ.hp c' = some (.raw oc)) (hd : oc.data = .fields vs) (hv : vs[1]? = some (.str qual t))
    (hbind : bindArgs (kla_fn "<lambda>" qual params body scope cl pm (.ref c') ctv) ⟨[], []⟩ = pure []) (hk : scope.kind = .function) (hco : scope.isCoroutine = false) (hgen : scope.isGenerator = false) (hcell : ∀ x ∈ scope.names, x.2 ≠ .cell)
    (hfree : ∀ p ∈ caps, scope.names.lookup p.1 = some .free)
    (hsub : ∀ p ∈ cl, p ∈ c.env.cells) (hap : (cl.map (·.1)).Nodup) (hall : ∀ p ∈ cl, (caps.lookup p.1).isSome = true)
    (hcaps : ∀ p ∈ caps, σ.vars.lookup p.1 = some p.2 ∧ p.2.atom = true ∧ (c.env.kindOf p.1 = some .cell ∨ c.env.kindOf p.1 = some .free) ∧ c.env.cells.lookup p.1 = cl.lookup p.1)
    (h : ∀ D', PF D' → ∀ c2, InL scope 17 c2 → TE D' c2 (eval body c2.env) ⟨caps, σ.hp⟩ (fun _ σ' => Q (.int (-1)) ⟨σ.vars, σ'.hp⟩) (fun k σ' => Q (.int k) ⟨σ.vars, σ'.hp⟩)) :
    TO D c VR [.obj f] (fun vs => call (.ref 203) vs) σ Q X := by
  refine TO_fnW (room := 19) (fn203 pf) rfl hpu (by omega) hsub hap hall hcaps fun b st bk lc L => ?_
  have pf' : PF (D.at b) := ⟨pf.K⟩
  have i : In f203.1 203 L 19 (callee c.A c (callEnvC f203.1 L 203) 19) := ⟨rfl, rfl, rfl, ⟨_, rfl⟩, rfl⟩
  generalize callee c.A c (callEnvC f203.1 L 203) 19 = c1 at i
  have ee := i.env
  rw [← ee]
  obtain ⟨o, fr⟩ := i.frames
  unfold b203
  walk_at "W"
  refine TF_try (xfD pf') i.pur fr i.frame (i.kd rfl) (gQuicError pf') (i.kd rfl) ?_
  walk_at "W"
  walk_at "W"
  refine TE_call trivial rfl ?_
  walk_at "W"
  refine ⟨.ref f, fun h v hv => hv, TEs_nil ⟨Kp_fn hf rfl, ?_⟩⟩
  refine TO_lam (room := 17) i.pur (by rw [i.room]; omega) hf hc hd hv lc hbind hk hco hgen hcell (fun L2 => ?_) hfree
  have run := h (D.at b) pf' (callee c1.A c1 (envX qual scope L2 f (.ref c') cl) 17) ⟨fun y => rfl, rfl, rfl⟩
  refine T.mono run (fun v σ' q => ?_) (fun k σ' q => ?_)
  · walk_at "WW"
    exact q
  · exact q
end
theorem Srt.uniq {a b l : List Int} (x : Srt a l) (y : Srt b l) : a = b :=
  List.Perm.eq_of_pairwise (fun _ _ _ _ h1 h2 => Int.le_antisymm h1 h2) x.2 y.2 (x.1.trans y.1.symm)
theorem Srt.uniq' {a b l m : List Int} (x : Srt a l) (y : Srt b m) (h : l.Perm m) : a = b :=
  List.Perm.eq_of_pairwise (fun _ _ _ _ h1 h2 => Int.le_antisymm h1 h2) x.2 y.2 (x.1.trans (h.trans y.1.symm))
theorem cidOf_inj {a b : Int} (ha : 0 ≤ a ∧ a ≤ 100) (hb : 0 ≤ b ∧ b ≤ 100) (h : cidOf a = cidOf b) : a = b := by
  unfold cidOf byteArr at h
  simp only [List.map_cons, List.map_nil] at h
  have h' := congrArg Array.toList h
  simp only [List.cons.injEq] at h'
  have h1 := congrArg UInt8.toNat h'.1
  simp only [UInt8.toNat_ofNat'] at h1
  omega
theorem cidOf_size (a : Int) : (cidOf a).size = 2 := by
  unfold cidOf byteArr; simp
noncomputable def ones (l : List Int) : List (Int × AV) := l.map fun n => (n, AV.int 1)
theorem ones_keys (l : List Int) : (ones l).map (·.1) = l := by
  simp only [ones, List.map_map]
  exact List.map_id' l
theorem ones_length (l : List Int) : (ones l).length = l.length := List.length_map ..
theorem ones_lookup (l : List Int) (n : Int) : ((ones l).lookup n).isSome = l.contains n := by
  induction l with
  | nil => rfl
  | cons m l ih =>
    show (List.lookup n ((m, AV.int 1) :: ones l)).isSome = _
    rw [List.lookup_cons, List.contains_cons]
    cases n == m with
    | true => rfl
    | false => rw [ih]; rfl
theorem ones_get {l : List Int} {n : Int} (h : n ∈ l) : (ones l).lookup n = some (.int 1) := by
  induction l with
  | nil => cases h
  | cons m l ih =>
    show List.lookup n ((m, AV.int 1) :: ones l) = _
    rw [List.lookup_cons]
    by_cases e : n = m
    · rw [e, beq_self_eq_true]
    · rw [beq_eq_false_iff_ne.mpr e]
      rcases List.mem_cons.mp h with h | h
      · exact absurd h e
      · exact ih h
noncomputable def idsOf (l : List Int) : List (Int × Array UInt8) := l.map fun n => (n, cidOf n)
theorem idsOf_keys (l : List Int) : (idsOf l).map (·.1) = l := by
  simp only [idsOf, List.map_map]
  exact List.map_id' l
theorem seqOf_mine {v : IV} {l : List Int} (hv : v.issued = idsOf l) (hl : ∀ n ∈ l, 0 ≤ n ∧ n ≤ 100) {n : Int} (hn : n ∈ l) : seqOf v (cidOf n) = .int n := by
  unfold seqOf
  rw [hv]
  have : ∀ l : List Int, (∀ n ∈ l, 0 ≤ n ∧ n ≤ 100) → n ∈ l → (idsOf l).find? (fun p => p.2 == cidOf n) = some (n, cidOf n) := by
    intro l
    induction l with
    | nil => intro _ h; cases h
    | cons m l ih =>
      intro hl hn
      show List.find? _ ((m, cidOf m) :: idsOf l) = _
      rw [List.find?_cons]
      by_cases e : m = n
      · subst e; simp
      · have : (cidOf m == cidOf n) = false := by
          rw [beq_eq_false_iff_ne]
          exact fun q => e (cidOf_inj (hl m (by simp)) (hl n hn) q)
        simp only [this]
        rcases List.mem_cons.mp hn with h | h
        · exact absurd h.symm e
        · exact ih (fun x hx => hl x (List.mem_cons_of_mem _ hx)) h
  rw [this l hl hn]
theorem seqOf_nobody {v : IV} {l : List Int} (hv : v.issued = idsOf l) {b : Array UInt8} (hb : b.size ≠ 2) : seqOf v b = .none := by
  unfold seqOf
  rw [hv, List.find?_eq_none.mpr fun p hp => ?_]
  obtain ⟨n, _, rfl⟩ := List.mem_map.mp hp
  intro q
  have : cidOf n = b := by simpa using q
  exact hb (this ▸ cidOf_size n)
section
variable {D : Wd} {c : Cx} {σ : St} {X : Int → St → Prop} {Q : AV → St → Prop}
theorem stands_ok (pf : PF D) {ai : IA} {vi : IV} {au : UA} {vu : UV} {am ah : Addr} {mine has : List Int} {asked : Int} {p : Pr} (hi : Iss σ.hp ai vi) (hu : Usr σ.hp au vu) (hm : σ.hp am = some (.dict (ones mine))) (hh : σ.hp ah = some (.dict (ones has)))
    (n1 : am ≠ ai.i) (n2 : am ≠ au.k) (n3 : am ≠ au.t) (n4 : am ≠ ah) (e1 : vi.issued = idsOf mine) (e2 : vu.known.map (·.1) = has) (hb : ∀ n ∈ mine, 0 ≤ n ∧ n ≤ 100) (nd : mine.Nodup) (lm : mine.length < 64) (lh : has.length < 64)
    (hc : vu.known.lookup vu.cur = some p) (hp : p.1 = cidOf vu.cur) (hcm : vu.cur ∈ mine) (hch : vu.cur ∈ has) (hpr : vi.prior = asked) (hpu : c.pur = false) (hr : 9 < c.room)
    (h : ∀ H', σ.hp.But H' [] → Q (.bool true) ⟨σ.vars, H'⟩) :
    TO D c VR [.obj ai.x, .obj au.x, .obj am, .obj ah, .int asked] (fun vs => call (.ref 222) vs) σ Q X := by
  refine TO_fn' (room := 7) (fn222 pf) rfl hpu (by omega) fun L c' i => ?_
  have hrm := i.room
  obtain ⟨o, fr⟩ := i.frames
  have li : vi.issued.length = mine.length := by rw [e1]; exact List.length_map ..
  have lk : vu.known.length = has.length := by rw [← e2]; simp
  have ki : (byts vi.issued).map (·.1) = mine := by rw [byts_keys, e1, idsOf_keys]
  have kk : (prs vu.known).map (·.1) = has := by rw [prs_keys, e2]
  unfold b222
  walk_at "WW"
  refine O_attr hi.x hi.d rfl (sa98_issued pf) rfl ?_
  walk_at "WW"
  refine B_sorted_dict i.pur hi.i (by rw [byts_length, li]; exact lm) fun z1 ns1 hz1 s1 => ?_
  rw [ki] at s1
  walk_at "WW"
  refine B_sorted_dict i.pur (Hp.set_new hz1 hm) (by rw [ones_length]; exact lm) fun z2 ns2 hz2 s2 => ?_
  rw [ones_keys] at s2
  refine O_ne_ints (Hp.set_new hz2 Hp.set_eq) Hp.set_eq ?_
  have q1 : ns1 = ns2 := s1.uniq s2
  have b1 : σ.hp.But ((σ.hp.set z1 (.list (ns1.map .int))).set z2 (.list (ns2.map .int))) [] := ((Hp.But.refl _ _).new hz1).new hz2
  rw [show (!decide (ns1 = ns2)) = false from by simp [q1]]
  generalize (σ.hp.set z1 (.list (ns1.map .int))).set z2 (.list (ns2.map .int)) = H1 at b1 ⊢
  walk_at "WW"
  walk_at "F"
  have u1 := hu.but b1 (by simp)
  walk_at "WW"
  refine O_attr u1.x u1.d rfl (sa192_known pf) rfl ?_
  walk_at "WW"
  refine B_sorted_dict i.pur u1.k (by rw [prs_length, lk]; exact lh) fun z3 ns3 hz3 s3 => ?_
  rw [kk] at s3
  walk_at "WW"
  refine B_sorted_dict i.pur (Hp.set_new hz3 (b1 _ _ (by simp) hh)) (by rw [ones_length]; exact lh) fun z4 ns4 hz4 s4 => ?_
  rw [ones_keys] at s4
  refine O_ne_ints (Hp.set_new hz4 Hp.set_eq) Hp.set_eq ?_
  have q2 : ns3 = ns4 := s3.uniq s4
  have b2 : σ.hp.But ((H1.set z3 (.list (ns3.map .int))).set z4 (.list (ns4.map .int))) [] := (b1.new hz3).new hz4
  rw [show (!decide (ns3 = ns4)) = false from by simp [q2]]
  generalize (H1.set z3 (.list (ns3.map .int))).set z4 (.list (ns4.map .int)) = H2 at b2 ⊢
  walk_at "WW"
  walk_at "F"
  walk_at "W"
  walk_at "F"
  walk_at "W"
  walk_at "W"
  walk_at "W"
  refine TF_for_dict (fun _ => rfl) i.pur fr i.frame ?_
  walk_at "WW"
  have i2 := hi.but b2 (by simp)
  have u2 := hu.but b2 (by simp)
  have m2 := b2 _ _ (by simp) hm
  refine ⟨_, _, rfl, m2, fun ob => ?_⟩
  rw [ones_keys]
  have nx : ai.x ≠ am := Hp.ne_tag i2.x m2 rfl
  have ndd : ai.d ≠ am := Hp.ne_tag i2.d m2 rfl
  have i3 : Iss (H2.set am (.dictx (ones mine) ob)) ai vi := ⟨Hp.set_ne nx i2.x, Hp.set_ne ndd i2.d, Hp.set_ne n1.symm i2.i⟩
  suffices go : ∀ (r : List Int) (vars : List (Str × AV)) (H : Hp), Sub [("issuer", .obj ai.x), ("user", .obj au.x), ("mine", .obj am), ("has", .obj ah), ("asked", .int asked)] vars → (∀ n ∈ r, n ∈ mine) → (H2.set am (.dictx (ones mine) ob)).But H [] →
      LoopD D c' _ _ am (ones mine) ob r ⟨vars, H⟩ _ _ by
    exact go mine _ _ (Sub.cons rfl (Sub.cons rfl (Sub.cons rfl (Sub.cons rfl (Sub.cons rfl (Sub.nil _)))))) (fun _ h => h) (Hp.But.refl _ _)
  intro r
  induction r with
  | cons n r ih =>
    intro vars H sub hsub bt
    have hn : n ∈ mine := hsub n (by simp)
    refine LoopD_cons ?_
    refine TO1.sub sub ?_
    have i4 := i3.but bt (by simp)
    walk_at "WW"
    refine ⟨_, _, _, rfl, i4.x, i4.d, rfl, ?_⟩
    walk_at "WW"
    refine law_id_ok pf (hb n hn).1 (hb n hn).2 i.pur (by omega) fun H5 b5 => ?_
    walk_at "WW"
    refine O_item_tup (fun _ _ => rfl) (by omega) (by omega) rfl ?_
    walk_at "WW"
    have i5 := i4.but b5 (by simp)
    refine seq_ok pf i5 (by rw [e1, idsOf_keys]; exact nd) i.pur (by omega) fun H6 b6 => ?_
    rw [seqOf_mine e1 hb hn]
    walk_at "WW"
    rw [show (n != n) = false from by simp]
    walk_at "F"
    walk_at "WW"
    have bt' := bt.trans (b5.trans b6)
    exact ⟨bt' _ _ (by simp) Hp.set_eq, ih _ H6 (Sub.new rfl) (fun x hx => hsub x (List.mem_cons_of_mem _ hx)) bt'⟩
  | nil =>
    intro vars H sub hsub bt
    refine LoopD_nil ?_
    have bt3 : H2.But (H.set am (.dict (ones mine))) [] := Hp.But.dictx m2 bt
    show thenDo D c' _ _ _ .next ⟨vars, H.set am (.dict (ones mine))⟩
    have b3 := b2.trans bt3
    generalize H.set am (.dict (ones mine)) = H3 at b3 ⊢
    dsimp only [thenDo]
    refine T.sub sub ?_
    have i5 := hi.but b3 (by simp)
    have u5 := hu.but b3 (by simp)
    walk_at "WW"
    refine ⟨_, _, _, rfl, i5.x, i5.d, rfl, ?_⟩
    walk_at "WW"
    refine seq_ok pf i5 (by rw [e1, idsOf_keys]; exact nd) i.pur (by omega) fun H6 b6 => ?_
    rw [seqOf_nobody e1 (by decide)]
    walk_at "WW"
    refine O_isnot_none rfl ?_
    walk_at "WW"
    walk_at "F"
    have b7 := b3.trans b6
    have u7 := hu.but b7 (by simp)
    walk_at "WW"
    refine ⟨_, _, _, rfl, u7.x, u7.d, rfl, ?_⟩
    walk_at "WW"
    refine present_ok pf u7 hc i.pur (by omega) fun H8 b8 => ?_
    have b9 := b7.trans b8
    have u9 := hu.but b9 (by simp)
    walk_at "WW"
    refine O_attr u9.x u9.d rfl (sa192_current pf) rfl ?_
    walk_at "WW"
    refine law_id_ok pf (hb _ hcm).1 (hb _ hcm).2 i.pur (by omega) fun H10 b10 => ?_
    walk_at "WW"
    refine O_item_tup (fun _ _ => rfl) (by omega) (by omega) rfl ?_
    refine O_ne_bytes ?_
    rw [hp, beq_self_eq_true]
    walk_at "WW"
    walk_at "F"
    walk_at "W"
    walk_at "F"
    have b11 := b9.trans b10
    have u11 := hu.but b11 (by simp)
    walk_at "WW"
    refine O_attr u11.x u11.d rfl (sa192_current pf) rfl ?_
    walk_at "WW"
    refine O_notin_dict (b11 _ _ (by simp) hh) ?_
    rw [ones_lookup, show has.contains vu.cur = true from by simpa using hch]
    walk_at "WW"
    walk_at "F"
    walk_at "WW"
    refine O_attr u11.x u11.d rfl (sa192_current pf) rfl ?_
    walk_at "WW"
    refine O_notin_dict (b11 _ _ (by simp) hm) ?_
    rw [ones_lookup, show mine.contains vu.cur = true from by simpa using hcm]
    walk_at "WW"
    walk_at "F"
    walk_at "W"
    walk_at "F"
    have i11 := hi.but b11 (by simp)
    walk_at "WW"
    refine ⟨_, _, _, rfl, i11.x, i11.d, rfl, ?_⟩
    walk_at "WW"
    refine kept_count_ok pf i11 (by rw [li]; omega) i.pur (by omega) fun H12 b12 => ?_
    have b13 := b11.trans b12
    have m13 := b13 _ _ (by simp) hm
    walk_at "WW"
    refine TE_compN Int i rfl rfl (fun _ => rfl) rfl (fun p hp => by rcases List.mem_cons.mp hp with rfl | hp; exact mem_of_lookup rfl; cases hp) (List.pairwise_singleton ..) ?_
    walk_at "WW"
    refine ⟨mine, .int, .int, fun n => decide (asked ≤ n), false, [("asked", .int asked)], .dict m13 (by simp [ones]), (by omega), ⟨⟨rfl, by kernel_rfl, rfl⟩, trivial⟩, fun c'' y ic hy => ⟨?_, fun hp => ?_⟩, fun z hz => ?_⟩
    · walk_at "WW"
    · walk_at "WW"
    walk_at "WW"
    have lf : (mine.filter fun n => decide (asked ≤ n)).length ≤ mine.length := List.length_filter_le _ _
    refine B_len_list Hp.set_eq (by rw [List.length_map]; omega) ?_
    rw [List.length_map]
    have ek : keptOf vi = (mine.filter fun n => decide (asked ≤ n)).length := by
      unfold keptOf
      rw [e1, hpr]
      unfold idsOf
      rw [List.filter_map, List.length_map]
      rfl
    rw [ek]
    walk_at "WW"
    rw [show (((mine.filter fun n => decide (asked ≤ n)).length : Int) == ((mine.filter fun n => decide (asked ≤ n)).length : Int)) = true from by simp]
    exact h _ (b13.new hz)
end
noncomputable def LinesLt (n : Nat) : List Value → Prop
  | [] => True
  | .int line _ :: .int _ _ :: _ :: rest => line < n ∧ LinesLt n rest
  | _ => False
theorem LinesLt.triples {n : Nat} : ∀ {l : List Value}, LinesLt n l → TriplesOk l := by
  intro l
  fun_induction LinesLt n l with
  | case1 => intro _; trivial
  | case2 _ _ _ _ _ rest ih => intro h; exact ih h.2
  | case3 => intro h; exact h.elim
theorem LinesLt.among {n : Nat} {pos : Pos} (hn : n ≤ pos.line) : ∀ {l : List Value}, LinesLt n l → codeAmong pos l = none := by
  intro l
  fun_induction LinesLt n l with
  | case1 => intro _; rfl
  | case2 line _ col _ _ rest ih =>
    intro h
    unfold codeAmong
    rw [if_neg]
    · exact ih h.2
    · have := h.1
      simp only [Bool.and_eq_true, beq_iff_eq, not_and]
      intro q
      omega
  | case3 => intro h; exact h.elim
theorem LinesLt.snoc {n m : Nat} {line col : Nat} {x : Value} (hm : line < m) (hnm : n ≤ m) : ∀ {l : List Value}, LinesLt n l → LinesLt m (l ++ [rawInt line, rawInt col, x]) := by
  intro l
  fun_induction LinesLt n l with
  | case1 => intro _; exact ⟨by omega, trivial⟩
  | case2 line' _ col _ _ rest ih =>
    intro h
    have := h.1
    exact ⟨by omega, ih h.2⟩
  | case3 => intro h; exact h.elim
noncomputable def nodupB : List Str → Bool
  | [] => true
  | a :: l => !(l.contains a) && nodupB l
theorem nodupB_of : ∀ {l : List Str}, nodupB l = true → l.Nodup
  | [], _ => .nil
  | a :: l, h => by
    unfold nodupB at h
    simp only [Bool.and_eq_true, Bool.not_eq_true'] at h
    rw [List.nodup_cons]
    exact ⟨by simpa using h.1, nodupB_of h.2⟩
noncomputable def EachP {α : Type} (P : α → Prop) : List α → Prop
  | [] => True
  | a :: l => P a ∧ EachP P l
theorem EachP.all {α : Type} {P : α → Prop} : ∀ {l : List α}, EachP P l → ∀ a ∈ l, P a
  | _ :: _, h, _, .head _ => h.1
  | _ :: _, h, _, .tail _ m => EachP.all h.2 _ m
section
variable {D : Wd} {c : Cx} {σ : St} {X : Int → St → Prop} {Q : AV → St → Prop}
theorem on_new_bad (pf : PF D) {a : UA} {v : UV} {n p : Int} {b t : Array UInt8} (hu : Usr σ.hp a v) (hnd : (v.told.map (·.1)).Nodup) (hpu : c.pur = false) (hr : 15 < c.room) (hb : badNew v n b t) (h : ∀ H', σ.hp.But H' [] → X 10 ⟨σ.vars, H'⟩) :
    TO D c VR [.obj a.x, .int n, .int p, .bytes b, .bytes t] (fun vs => call (.ref 137) vs) σ Q X := by
  refine TO_fn' (room := 13) (fn137 pf) rfl hpu (by omega) fun L c' i => ?_
  have hrm := i.room
  unfold b137
  walk_at "WW"
  refine ⟨_, _, _, rfl, hu.x, hu.d, rfl, ?_⟩
  walk_at "WW"
  refine check_new_ok pf hu hnd i.pur (by omega) (fun _ H' bt => h H' bt) (fun he hl H' bt => ?_) (fun he hl hb' H' bt => ?_)
  · rcases hb with q | ⟨p, q1, q2⟩ | ⟨q, _⟩
    · rw [he] at q; cases q
    · rw [hl] at q1; exact absurd (Option.some.inj q1).symm q2
    · rw [hl] at q; cases q
  · rcases hb with q | ⟨p, q1, q2⟩ | ⟨_, q, q1, q2⟩
    · rw [he] at q; cases q
    · rw [hl] at q1; cases q1
    · exact absurd q2 (hb' q q1)
theorem on_retire_bad (pf : PF D) {a : IA} {v : IV} {n : Int} {b : Array UInt8} (hi : Iss σ.hp a v) (hz : v.issued.length ≤ 500) (hpu : c.pur = false) (hr : 9 < c.room) (hb : v.next ≤ n ∨ v.empty = true ∨ v.issued.lookup n = some b) (h : ∀ H', σ.hp.But H' [] → X 10 ⟨σ.vars, H'⟩) :
    TO D c VR [.obj a.x, .int n, .bytes b] (fun vs => call (.ref 88) vs) σ Q X :=
  on_retire_ok pf hi hz hpu hr (fun _ => h) fun h1 h2 h3 _ _ _ => by
    rcases hb with q | q | q
    · omega
    · rw [h2] at q; cases q
    · exact absurd q h3
/-- what a lambda is made of and by -/
theorem TE_law_code (pf : PF D) {fd : FuncData} {f L P cc : Addr} {room : Nat} {ps : Array Value} {params : Arguments} {body : Expr} {scope : Scope} {np lpos pos : Pos} (i : In fd f L room c) (hr : 21 < room) (cl : List (Str × Addr)) (caps : List (Str × AV))
    (hP : σ.hp P = some (.raw (tabObj ps))) (hcode : fd.code = .ref cc) (C : CodeHd D.base cc P) {ln : Nat} (hln : LinesLt ln ps.toList) (hlp : ln ≤ lpos.line) (hcl : closureFor scope (callEnvC fd L f) = pure cl) (hb : D.base.BuiltinsAt D.mg P) (hdef : defaultsOf params (callEnvC fd L f) = ([], []))
    (hbind : ∀ qual pm c' ctv, bindArgs (kla_fn "<lambda>" qual params body scope cl pm (.ref c') ctv) ⟨[], []⟩ = pure []) (hk : scope.kind = .function) (hco : scope.isCoroutine = false) (hgen : scope.isGenerator = false) (hcell : ∀ x ∈ scope.names, x.2 ≠ .cell)
    (hap : nodupB (cl.map (·.1)) = true) (hsub : EachP (fun p => (cellsFrom (L + 1) fd.scope.names []).lookup p.1 = some p.2 ∧ (caps.lookup p.1).isSome = true) cl)
    (hcaps : EachP (fun p => σ.vars.lookup p.1 = some p.2 ∧ p.2.atom = true ∧ fd.scope.names.lookup p.1 = some .cell ∧ scope.names.lookup p.1 = some .free ∧ (cellsFrom (L + 1) fd.scope.names []).lookup p.1 = cl.lookup p.1) caps)
    (hg : c.env.kindOf "_law_code" = some .globalImplicit)
    (h : ∀ D', PF D' → ∀ c2, InL scope 17 c2 → ∀ ps' H1, σ.hp.But H1 [P] → H1 P = some (.raw (tabObj ps')) → LinesLt (lpos.line + 1) ps'.toList →
      TE D' c2 (eval body c2.env) ⟨caps, H1⟩ (fun _ σ' => Q (.int (-1)) ⟨σ.vars, σ'.hp⟩) (fun k σ' => Q (.int k) ⟨σ.vars, σ'.hp⟩)) :
    TE D c (eval (.Call (.Name "_law_code" np) [.Lambda params body scope lpos] [] pos) c.env) σ Q X := by
  have ec : c.env.cells = cellsFrom (L + 1) fd.scope.names [] := by rw [i.env]; rfl
  refine c__law_code pf hg ⟨rfl, trivial⟩ rfl (TEs_cons (TE_lambda i.pur hP (by rw [i.env]; exact hcode) C hln.triples (hln.among hlp) (by rw [i.env]; exact hcl) hb (by rw [i.env]; exact hdef) fun lf c' oc vs t ctv hf0 hc0 hne hd hv => TEs_nil ?_))
  have fP : lf ≠ P := fun q => by subst q; rw [hP] at hf0; cases hf0
  have cP : c' ≠ P := fun q => by subst q; rw [hP] at hc0; cases hc0
  refine law_code_ok pf i.pur (by rw [i.room]; exact hr) Hp.set_eq (Hp.set_ne hne.symm Hp.set_eq) hd hv (hbind _ _ _ _) hk hco hgen hcell (fun p hp => (hcaps.all p hp).2.2.2.1) (fun p hp => by rw [ec]; exact mem_of_lookup (hsub.all p hp).1) (nodupB_of hap) (fun p hp => (hsub.all p hp).2)
    (fun p hp => ?_) fun D' pf' c2 il => ?_
  · obtain ⟨h1, h2, h3, h4, h5⟩ := hcaps.all p hp
    exact ⟨h1, h2, .inl (i.kd h3), by rw [ec]; exact h5⟩
  · exact h D' pf' c2 il (ps ++ #[rawInt lpos.line, rawInt lpos.col, .ref c']) _ ((((Hp.But.refl _ _).set (by simp)).fresh hc0).fresh hf0) (Hp.set_ne fP.symm (Hp.set_ne cP.symm Hp.set_eq)) (by rw [Array.toList_append]; exact LinesLt.snoc (Nat.lt_succ_self _) (by omega) hln)
end
theorem prs_cmp (l : List (Int × Pr)) : ∀ p ∈ prs l, cmpOk p.2 = true := fun p hp => by
  obtain ⟨⟨n, b, t⟩, _, rfl⟩ := List.mem_map.mp hp
  show cmpOk (.tup [.bytes b, tokAV t]) = true
  cases t with
  | none => simp [cmpOk, tokAV, eqvs, AV.eqv]
  | some t => simp [cmpOk, tokAV, eqvs, AV.eqv]
theorem byts_cmp (l : List (Int × Array UInt8)) : ∀ p ∈ byts l, cmpOk p.2 = true := fun p hp => by
  obtain ⟨q, _, rfl⟩ := List.mem_map.mp hp
  rfl
theorem Hp.But.raw {H H' : Hp} {P a : Addr} {o : Obj} {p : AO} (hP : H P = some (.raw o)) (b : H.But H' [P]) (h : H a = some p) (n : (p.tag == 6) = false) : H' a = some p :=
  b a p (fun q => by
    rw [List.mem_singleton.mp q, hP] at h
    cases h; cases n) h
theorem mem_of_lookup' {l : List (Int × Pr)} {n : Int} {p : Pr} (h : l.lookup n = some p) : (n, p) ∈ l := by
  induction l with
  | nil => cases h
  | cons q l ih =>
    rw [List.lookup_cons] at h
    by_cases e : n = q.1
    · rw [e, beq_self_eq_true] at h
      cases h
      rw [e]; exact List.mem_cons_self ..
    · rw [beq_eq_false_iff_ne.mpr e] at h
      exact List.mem_cons_of_mem _ (ih h)
structure WS (H : Hp) (ai : IA) (vi : IV) (au : UA) (vu : UV) (d1 d2 : Addr) (oq : Obj) : Prop where
  i : Iss H ai vi
  u : Usr H au vu
  c1 : H d1 = some (.dict (prs vu.known))
  c2 : H d2 = some (.dict (byts vi.issued))
  n1 : d1 ≠ au.k
  n2 : d2 ≠ ai.i
  q : H 224 = some (.raw oq)
theorem WS.but {H H' : Hp} {ai : IA} {vi : IV} {au : UA} {vu : UV} {d1 d2 : Addr} {oq : Obj} (w : WS H ai vi au vu d1 d2 oq) (b : H.But H' []) : WS H' ai vi au vu d1 d2 oq :=
  ⟨w.i.but b (by simp), w.u.but b (by simp), b _ _ (by simp) w.c1, b _ _ (by simp) w.c2, w.n1, w.n2, b _ _ (by simp) w.q⟩
theorem WS.butP {H H' : Hp} {ai : IA} {vi : IV} {au : UA} {vu : UV} {d1 d2 P : Addr} {o oq : Obj} (hP : H P = some (.raw o)) (w : WS H ai vi au vu d1 d2 oq) (b : H.But H' [P]) (n : (224 : Addr) ≠ P := by decide) : WS H' ai vi au vu d1 d2 oq :=
  ⟨⟨b.raw hP w.i.x rfl, b.raw hP w.i.d rfl, b.raw hP w.i.i rfl⟩, ⟨b.raw hP w.u.x rfl, b.raw hP w.u.d rfl, b.raw hP w.u.k rfl, b.raw hP w.u.u rfl, b.raw hP w.u.t rfl, b.raw hP w.u.w rfl, w.u.kt, w.u.uw⟩, b.raw hP w.c1 rfl, b.raw hP w.c2 rfl, w.n1, w.n2, b _ _ (fun m => n (List.mem_singleton.mp m)) w.q⟩
theorem WS.setL {H : Hp} {ai : IA} {vi : IV} {au : UA} {vu : UV} {d1 d2 lc : Addr} {oq : Obj} {xs ys : List AV} (w : WS H ai vi au vu d1 d2 oq) (hl : H lc = some (.list xs)) (n1 : lc ≠ au.u) (n2 : lc ≠ au.w) : WS (H.set lc (.list ys)) ai vi au vu d1 d2 oq :=
  ⟨⟨Hp.set_ne (Hp.ne_tag w.i.x hl rfl) w.i.x, Hp.set_ne (Hp.ne_tag w.i.d hl rfl) w.i.d, Hp.set_ne (Hp.ne_tag w.i.i hl rfl) w.i.i⟩,
    ⟨Hp.set_ne (Hp.ne_tag w.u.x hl rfl) w.u.x, Hp.set_ne (Hp.ne_tag w.u.d hl rfl) w.u.d, Hp.set_ne (Hp.ne_tag w.u.k hl rfl) w.u.k, Hp.set_ne n1.symm w.u.u, Hp.set_ne (Hp.ne_tag w.u.t hl rfl) w.u.t, Hp.set_ne n2.symm w.u.w, w.u.kt, w.u.uw⟩,
    Hp.set_ne (Hp.ne_tag w.c1 hl rfl) w.c1, Hp.set_ne (Hp.ne_tag w.c2 hl rfl) w.c2, w.n1, w.n2, Hp.set_ne (Hp.ne_tag w.q hl rfl) w.q⟩
theorem lookup_of_key' {l : List (Int × Array UInt8)} {n : Int} (h : n ∈ l.map (·.1)) : ∃ p, l.lookup n = some p := by
  induction l with
  | nil => simp at h
  | cons p l ih =>
    rw [List.lookup_cons]
    by_cases e : n = p.1
    · subst e; exact ⟨p.2, by rw [beq_self_eq_true]⟩
    · rw [beq_eq_false_iff_ne.mpr e]
      refine ih ?_
      rw [List.map_cons] at h
      rcases List.mem_cons.mp h with h | h
      · exact absurd h e
      · exact h
structure LF (D : Wd) : Prop where
  c216 : CodeHd D.base 216 212
  c226 : CodeHd D.base 226 224
  b212 : D.base.BuiltinsAt D.mg 212
  b224 : D.base.BuiltinsAt D.mg 224
section
variable {D : Wd} {c : Cx} {σ : St} {X : Int → St → Prop} {Q : AV → St → Prop}
theorem dict_copy {kvs : List (Int × AV)} {d : Addr} {vars : List (Str × AV)} {H : Hp} (pf : PF D) (hpu : c.pur = false) (hd : H d = some (.dict kvs)) (hz : kvs.length ≤ 1000) (hn : (kvs.map (·.1)).Nodup) {e : Expr} {p0 p1 p2 p3 p4 pos : Pos} {Q : AV → St → Prop}
    (hdk : c.env.kindOf "dict" = some .globalImplicit) (hlk : c.env.kindOf "list" = some .globalImplicit) (hb : attributeBase e "items" c.env (eval e c.env) = eval e c.env) (hline : (p2.endLine == p3.line) = true)
    (he : ∀ {Q : AV → St → Prop}, Q (.obj d) ⟨vars, H⟩ → TE D c (eval e c.env) ⟨vars, H⟩ Q X)
    (h : ∀ z H', H z = none → H.But H' [] → H' z = some (.dict kvs) → Q (.obj z) ⟨vars, H'⟩) :
    TE D c (eval (.Call (.Name "dict" p0) [.Call (.Name "list" p1) [.Call (.Attribute e "items" p2) [] [] p3] [] p4] [] pos) c.env) ⟨vars, H⟩ Q X := by
  refine c_dict pf hdk ⟨rfl, trivial⟩ rfl (TEs_cons (c_list pf hlk ⟨rfl, trivial⟩ rfl (TEs_cons (m_items hb rfl hline trivial rfl (he ⟨_, _, rfl, hd, TEs_nil ?_⟩)))))
  refine B_items hd fun a ha => TEs_nil ?_
  refine B_list_items Hp.set_eq (Hp.set_new ha hd) hz fun l hl => TEs_nil ?_
  refine B_dict Hp.set_eq hn hz fun z hz => ?_
  obtain ⟨_, hz1⟩ := Hp.none_of hz
  obtain ⟨_, hz0⟩ := Hp.none_of hz1
  exact h z _ hz0 ((((Hp.But.refl _ _).new ha).new hl).new hz) Hp.set_eq
set_option maxHeartbeats 8000000 in
theorem wrong_ok (pf : PF D) (lf : LF D) {ai : IA} {vi : IV} {au : UA} {vu : UV} {p : Pr} (hi : Iss σ.hp ai vi) (hu : Usr σ.hp au vu) (hP : σ.hp 212 = some (.raw (tabObj #[]))) {qs : Array Value} (hQ : σ.hp 224 = some (.raw (tabObj qs))) (hin : (vi.issued.map (·.1)).Nodup) (hkn : (vu.known.map (·.1)).Nodup) (htn : (vu.told.map (·.1)).Nodup)
    (hil : vi.issued.length < 64) (hkl : vu.known.length ≤ 500) (hie : vi.issued ≠ []) (ht0 : vu.told.lookup 0 = some (cidOf 0, none)) (ht99 : vu.told.lookup 99 = none) (hc : vu.known.lookup vu.cur = some p) (hpu : c.pur = false) (hr : 30 < c.room)
    (h : ∀ H' ps, H' 212 = some (.raw (tabObj ps)) → H' 224 = some (.raw (tabObj qs)) → Q (.bool true) ⟨σ.vars, H'⟩) : TO D c VR [.obj ai.x, .obj au.x] (fun vs => call (.ref 217) vs) σ Q X := by
  refine TO_fn' (room := 28) (fn217 pf) rfl hpu (by omega) fun L c' i => ?_
  have hrm := i.room
  unfold b217
  walk_at "W"
  walk_at "W"
  walk_at "W"
  walk_at "W"
  refine dict_copy pf i.pur hu.k (by rw [prs_length]; omega) (by rw [prs_keys]; exact hkn) (i.kd rfl) (i.kd rfl) (by rfl) (by rfl) (fun hq => ?_) fun d1 H1 f1 b1 e1 => ?_
  · walk_at "WW"
    exact O_attr hu.x hu.d rfl (sa192_known pf) rfl hq
  walk_at "WW"
  have u1 := hu.but b1 (by simp)
  have i1 := hi.but b1 (by simp)
  refine ⟨_, _, _, rfl, u1.x, u1.d, rfl, ?_⟩
  walk_at "WW"
  refine present_ok pf u1 hc i.pur (by omega) fun H2 b2 => ?_
  have i2 := i1.but b2 (by simp)
  walk_at "W"
  refine dict_copy pf i.pur i2.i (by rw [byts_length]; omega) (by rw [byts_keys]; exact hin) (i.kd rfl) (i.kd rfl) (by rfl) (by rfl) (fun hq => ?_) fun d2 H3 f2 b3 e3 => ?_
  · walk_at "WW"
    exact O_attr i2.x i2.d rfl (sa98_issued pf) rfl hq
  have bt := b1.trans (b2.trans b3)
  have ws : WS H3 ai vi au vu d1 d2 (tabObj qs) := ⟨hi.but bt (by simp), hu.but bt (by simp), (b2.trans b3) _ _ (by simp) e1, e3, (Hp.ne_new hu.k f1).symm, (Hp.ne_new i2.i f2).symm, bt _ _ (by simp) hQ⟩
  have hP3 := bt _ _ (by simp) hP
  clear e1 e3 b1 b2 b3 i1 i2 u1 f1 f2
  walk_at "W"
  walk_at "W"
  walk_at "W"
  walk_at "W"
  walk_at "W"
  walk_at "W"
  refine TE_law_code pf i (by omega) _ [("user", .obj au.x)] hP3 rfl lf.c216 (ln := 0) trivial (Nat.le_of_ble_eq_true rfl) rfl lf.b212 rfl (fun _ _ _ _ => rfl) rfl rfl rfl (by decide +kernel) (by kernel_rfl) ⟨⟨rfl, rfl⟩, trivial⟩ ⟨⟨rfl, rfl, rfl, rfl, rfl⟩, trivial⟩ (i.kd rfl) fun D' pf' c2 il ps4 H4 b4 t4 n4 => ?_
  have ws4 := ws.butP hP3 b4
  walk_at "WW"
  refine ⟨_, _, _, rfl, ws4.u.x, ws4.u.d, rfl, ?_⟩
  walk_at "WW"
  refine B_bytes16 ?_
  walk_at "WW"
  refine on_new_bad pf' ws4.u htn il.pur (by rw [il.room]; omega) (.inr (.inl ⟨_, ht0, fun q => nomatch q⟩)) fun H5 b5 => ?_
  have ws5 := ws4.but b5
  have t5 := b5 _ _ (by simp) t4
  walk_at "W"
  intro lc hlc
  have ws6 := ws5.but ((Hp.But.refl _ []).new hlc (o := .list [.int 10]))
  have t6 : (H5.set lc (.list [.int 10])) 212 = _ := Hp.set_new hlc t5
  have l6 : (H5.set lc (.list [.int 10])) lc = some (.list [.int 10]) := Hp.set_eq
  have nlu : lc ≠ au.u := (Hp.ne_new ws5.u.u hlc).symm
  have nlw : lc ≠ au.w := (Hp.ne_new ws5.u.w hlc).symm
  have nlP : (212 : Addr) ≠ lc := Hp.ne_new t5 hlc
  generalize H5.set lc (.list [.int 10]) = H6 at ws6 t6 l6 ⊢
  clear hlc ws5 t5 b5 ws4 t4 b4 ws
  walk_at "W"
  walk_at "W"
  walk_at "W"
  walk_at "W"
  walk_at "C"
  walk_at "W"
  refine ⟨_, _, rfl, l6, ?_⟩
  walk_at "W"
  refine TE_law_code pf i (by omega) _ [("user", .obj au.x)] t6 rfl lf.c216 n4 (Nat.le_of_ble_eq_true rfl) rfl lf.b212 rfl (fun _ _ _ _ => rfl) rfl rfl rfl (by decide +kernel) (by kernel_rfl) ⟨⟨rfl, rfl⟩, trivial⟩ ⟨⟨rfl, rfl, rfl, rfl, rfl⟩, trivial⟩ (i.kd rfl) fun D' pf' c2 il ps7 H7 b7 t7 n7 => ?_
  have ws7 := ws6.butP t6 b7
  have l7 := b7.raw t6 l6 rfl
  walk_at "WW"
  refine ⟨_, _, _, rfl, ws7.u.x, ws7.u.d, rfl, ?_⟩
  walk_at "WW"
  refine law_id_ok pf' (by omega) (by omega) il.pur (by rw [il.room]; omega) fun H8 b8 => ?_
  walk_at "WW"
  refine O_item_tup (fun _ _ => rfl) (by omega) (by omega) rfl ?_
  walk_at "WW"
  refine B_bytes16 ?_
  walk_at "WW"
  have ws8 := ws7.but b8
  refine on_new_bad pf' ws8.u htn il.pur (by rw [il.room]; omega) (.inr (.inr ⟨ht99, (0, (cidOf 0, none)), mem_of_lookup' ht0, rfl⟩)) fun H9 b9 => ?_
  have ws9 := ws8.but b9
  have t9 := b9 _ _ (by simp) (b8 _ _ (by simp) t7)
  have l9 := b9 _ _ (by simp) (b8 _ _ (by simp) l7)
  clear b7 b8 b9 ws7 ws8 t7 l7 ws6 t6 l6 il pf'
  walk_at "W"
  refine B_append i.pur l9 (by decide) ?_
  rw [show ([.int 10] : List AV) ++ [.int 10] = [.int 10, .int 10] from rfl]
  have ws10 := ws9.setL l9 nlu nlw (ys := [.int 10, .int 10])
  have t10 := Hp.set_ne (o := .list [.int 10, .int 10]) nlP t9
  have l10 : (_ : Hp).set lc (.list [.int 10, .int 10]) lc = some (.list [.int 10, .int 10]) := Hp.set_eq (H := H9)
  generalize H9.set lc (.list [.int 10, .int 10]) = H10 at ws10 t10 l10 ⊢
  clear ws9 t9 l9
  walk_at "W"
  walk_at "W"
  walk_at "W"
  walk_at "C"
  walk_at "W"
  refine ⟨_, _, rfl, l10, ?_⟩
  walk_at "W"
  refine TE_law_code pf i (by omega) _ [("issuer", .obj ai.x)] t10 rfl lf.c216 n7 (Nat.le_of_ble_eq_true rfl) rfl lf.b212 rfl (fun _ _ _ _ => rfl) rfl rfl rfl (by decide +kernel) (by kernel_rfl) ⟨⟨rfl, rfl⟩, trivial⟩ ⟨⟨rfl, rfl, rfl, rfl, rfl⟩, trivial⟩ (i.kd rfl) fun D' pf' c2 il ps11 H11 b11 t11 n11 => ?_
  have ws11 := ws10.butP t10 b11
  have l11 := b11.raw t10 l10 rfl
  walk_at "WW"
  refine ⟨_, _, _, rfl, ws11.i.x, ws11.i.d, rfl, ?_⟩
  walk_at "WW"
  refine O_attr ws11.i.x ws11.i.d rfl (sa98_next_sequence pf') rfl ?_
  walk_at "WW"
  refine on_retire_bad pf' ws11.i (by omega) il.pur (by rw [il.room]; omega) (.inl (Int.le_refl _)) fun H12 b12 => ?_
  have ws12 := ws11.but b12
  have t12 := b12 _ _ (by simp) t11
  have l12 := b12 _ _ (by simp) l11
  clear b11 b12 ws11 t11 l11 ws10 t10 l10 il pf'
  walk_at "W"
  refine B_append i.pur l12 (by decide) ?_
  rw [show ([.int 10, .int 10] : List AV) ++ [.int 10] = [.int 10, .int 10, .int 10] from rfl]
  have ws13 := ws12.setL l12 nlu nlw (ys := [.int 10, .int 10, .int 10])
  have t13 := Hp.set_ne (o := .list [.int 10, .int 10, .int 10]) nlP t12
  have l13 : (_ : Hp).set lc (.list [.int 10, .int 10, .int 10]) lc = some (.list [.int 10, .int 10, .int 10]) := Hp.set_eq (H := H12)
  generalize H12.set lc (.list [.int 10, .int 10, .int 10]) = H13 at ws13 t13 l13 ⊢
  clear ws12 t12 l12
  walk_at "WW"
  refine O_attr ws13.i.x ws13.i.d rfl (sa98_issued pf) rfl ?_
  walk_at "WW"
  refine B_sorted_dict i.pur ws13.i.i (by rw [byts_length]; exact hil) fun z ns hz srt => ?_
  rw [byts_keys] at srt
  obtain ⟨n0, r0, en⟩ : ∃ n r, ns = n :: r := by
    cases ns with
    | nil =>
      have := srt.1.length_eq
      rw [List.length_map] at this
      exact absurd (List.length_eq_zero_iff.mp this.symm) hie
    | cons n r => exact ⟨n, r, rfl⟩
  obtain ⟨q0, hq0⟩ : ∃ q, vi.issued.lookup n0 = some q := by
    have hm : n0 ∈ vi.issued.map (·.1) := srt.1.mem_iff.mp (by rw [en]; simp)
    exact lookup_of_key' hm
  have ws14 := ws13.but ((Hp.But.refl _ []).new hz (o := .list (ns.map .int)))
  have t14 : (H13.set z (.list (ns.map .int))) 212 = _ := Hp.set_new hz t13
  have l14 : (H13.set z (.list (ns.map .int))) lc = _ := Hp.set_new hz l13
  walk_at "WW"
  refine O_item_list (x := .int n0) (fun _ _ => rfl) Hp.set_eq (by omega) (by omega) (by rw [en]; rfl) ?_
  generalize H13.set z (.list (ns.map .int)) = H14 at ws14 t14 l14 ⊢
  clear ws13 t13 l13 hz
  walk_at "W"
  walk_at "W"
  walk_at "W"
  walk_at "W"
  walk_at "C"
  walk_at "W"
  refine ⟨_, _, rfl, l14, ?_⟩
  walk_at "W"
  refine TE_law_code pf i (by omega) _ [("issuer", .obj ai.x), ("number", .int n0)] t14 rfl lf.c216 n11 (Nat.le_of_ble_eq_true rfl) rfl lf.b212 rfl (fun _ _ _ _ => rfl) rfl rfl rfl (by decide +kernel) (by kernel_rfl) ⟨⟨rfl, rfl⟩, ⟨rfl, rfl⟩, trivial⟩ ⟨⟨rfl, rfl, rfl, rfl, rfl⟩, ⟨rfl, rfl, rfl, rfl, rfl⟩, trivial⟩ (i.kd rfl) fun D' pf' c2 il ps15 H15 b15 t15 n15 => ?_
  have ws15 := ws14.butP t14 b15
  have l15 := b15.raw t14 l14 rfl
  walk_at "WW"
  refine ⟨_, _, _, rfl, ws15.i.x, ws15.i.d, rfl, ?_⟩
  walk_at "WW"
  refine O_attr ws15.i.x ws15.i.d rfl (sa98_issued pf') rfl ?_
  walk_at "WW"
  refine O_item_dict (x := .bytes q0) (fun _ _ => rfl) ws15.i.i (by rw [byts_lookup, hq0]; rfl) ?_
  walk_at "WW"
  refine on_retire_bad pf' ws15.i (by omega) il.pur (by rw [il.room]; omega) (.inr (.inr hq0)) fun H16 b16 => ?_
  have ws16 := ws15.but b16
  have t16 := b16 _ _ (by simp) t15
  have l16 := b16 _ _ (by simp) l15
  clear b15 b16 ws15 t15 l15 ws14 t14 l14 il pf'
  walk_at "W"
  refine B_append i.pur l16 (by decide) ?_
  rw [show ([.int 10, .int 10, .int 10] : List AV) ++ [.int 10] = [.int 10, .int 10, .int 10, .int 10] from rfl]
  have ws17 := ws16.setL l16 nlu nlw (ys := [.int 10, .int 10, .int 10, .int 10])
  have t17 := Hp.set_ne (o := .list [.int 10, .int 10, .int 10, .int 10]) nlP t16
  have l17 : (_ : Hp).set lc (.list [.int 10, .int 10, .int 10, .int 10]) lc = some (.list [.int 10, .int 10, .int 10, .int 10]) := Hp.set_eq (H := H16)
  generalize H16.set lc (.list [.int 10, .int 10, .int 10, .int 10]) = H17 at ws17 t17 l17 ⊢
  clear ws16 t16 l16
  walk_at "WW"
  refine LocalIds_ok pf (by decide) i.pur (by omega) fun ae H18 _ _ _ b18 e18 => ?_
  have ws18 := ws17.but b18
  have t18 := b18 _ _ (by simp) t17
  have l18 := b18 _ _ (by simp) l17
  clear ws17 t17 l17 b18
  walk_at "W"
  walk_at "W"
  walk_at "W"
  walk_at "W"
  walk_at "C"
  walk_at "W"
  refine ⟨_, _, rfl, l18, ?_⟩
  walk_at "W"
  refine TE_law_code pf i (by omega) _ [("empty", .obj ae.x)] t18 rfl lf.c216 n15 (Nat.le_of_ble_eq_true rfl) rfl lf.b212 rfl (fun _ _ _ _ => rfl) rfl rfl rfl (by decide +kernel) (by kernel_rfl) ⟨⟨rfl, rfl⟩, trivial⟩ ⟨⟨rfl, rfl, rfl, rfl, rfl⟩, trivial⟩ (i.kd rfl) fun D' pf' c2 il ps19 H19 b19 t19 n19 => ?_
  have ws19 := ws18.butP t18 b19
  have l19 := b19.raw t18 l18 rfl
  have e19 : Iss H19 ae _ := ⟨b19.raw t18 e18.x rfl, b19.raw t18 e18.d rfl, b19.raw t18 e18.i rfl⟩
  walk_at "WW"
  refine ⟨_, _, _, rfl, e19.x, e19.d, rfl, ?_⟩
  walk_at "WW"
  refine on_retire_bad pf' e19 (by show 1 ≤ 500; omega) il.pur (by rw [il.room]; omega) (.inr (.inl rfl)) fun H20 b20 => ?_
  have ws20 := ws19.but b20
  have t20 := b20 _ _ (by simp) t19
  have l20 := b20 _ _ (by simp) l19
  have e20 := e19.but b20 (by simp)
  clear b19 b20 ws19 t19 l19 ws18 t18 l18 e18 e19 il pf'
  walk_at "W"
  refine B_append i.pur l20 (by decide) ?_
  rw [show ([.int 10, .int 10, .int 10, .int 10] : List AV) ++ [.int 10] = [.int 10, .int 10, .int 10, .int 10, .int 10] from rfl]
  have ws21 := ws20.setL l20 nlu nlw (ys := [.int 10, .int 10, .int 10, .int 10, .int 10])
  have t21 := Hp.set_ne (o := .list [.int 10, .int 10, .int 10, .int 10, .int 10]) nlP t20
  have l21 : (_ : Hp).set lc (.list [.int 10, .int 10, .int 10, .int 10, .int 10]) lc = some (.list [.int 10, .int 10, .int 10, .int 10, .int 10]) := Hp.set_eq (H := H20)
  have e21 : Iss (H20.set lc (.list [.int 10, .int 10, .int 10, .int 10, .int 10])) ae _ := ⟨Hp.set_ne (Hp.ne_tag e20.x l20 rfl) e20.x, Hp.set_ne (Hp.ne_tag e20.d l20 rfl) e20.d, Hp.set_ne (Hp.ne_tag e20.i l20 rfl) e20.i⟩
  generalize H20.set lc (.list [.int 10, .int 10, .int 10, .int 10, .int 10]) = H21 at ws21 t21 l21 e21 ⊢
  clear ws20 t20 l20 e20
  walk_at "W"
  walk_at "W"
  walk_at "W"
  walk_at "C"
  walk_at "W"
  refine ⟨_, _, rfl, l21, ?_⟩
  walk_at "W"
  refine TE_law_code pf i (by omega) _ [] t21 rfl lf.c216 n19 (Nat.le_of_ble_eq_true rfl) rfl lf.b212 rfl (fun _ _ _ _ => rfl) rfl rfl rfl (by decide +kernel) (by kernel_rfl) trivial trivial (i.kd rfl) fun D' pf' c2 il ps22 H22 b22 t22 n22 => ?_
  have ws22 := ws21.butP t21 b22
  have l22 := b22.raw t21 l21 rfl
  have e22 : Iss H22 ae _ := ⟨b22.raw t21 e21.x rfl, b22.raw t21 e21.d rfl, b22.raw t21 e21.i rfl⟩
  walk_at "WW"
  refine RemoteIds_ok pf' (t := none) (by decide) il.pur (by rw [il.room]; omega) fun ar H23 _ _ _ _ _ _ b23 u23 => ?_
  refine ⟨_, _, _, rfl, u23.x, u23.d, rfl, ?_⟩
  walk_at "WW"
  refine B_bytes16 ?_
  walk_at "WW"
  refine on_new_bad pf' u23 (by show ([0] : List Int).Nodup; decide) il.pur (by rw [il.room]; omega) (.inl rfl) fun H24 b24 => ?_
  have b25 := b23.trans b24
  have ws24 := ws22.but b25
  have l24 := b25 _ _ (by simp) l22
  have t24 := b25 _ _ (by simp) t22
  have e24 := e22.but b25 (by simp)
  clear b22 b23 b24 b25 u23 ws22 l22 t22 e22 ws21 l21 t21 e21 il pf'
  walk_at "W"
  refine B_append i.pur l24 (by decide) ?_
  rw [show ([.int 10, .int 10, .int 10, .int 10, .int 10] : List AV) ++ [.int 10] = [.int 10, .int 10, .int 10, .int 10, .int 10, .int 10] from rfl]
  have ws26 := ws24.setL l24 nlu nlw (ys := [.int 10, .int 10, .int 10, .int 10, .int 10, .int 10])
  have t26 := Hp.set_ne (o := .list [.int 10, .int 10, .int 10, .int 10, .int 10, .int 10]) nlP t24
  have l26 : (_ : Hp).set lc (.list [.int 10, .int 10, .int 10, .int 10, .int 10, .int 10]) lc = some (.list [.int 10, .int 10, .int 10, .int 10, .int 10, .int 10]) := Hp.set_eq (H := H24)
  have e26 : Iss (H24.set lc (.list [.int 10, .int 10, .int 10, .int 10, .int 10, .int 10])) ae _ := ⟨Hp.set_ne (Hp.ne_tag e24.x l24 rfl) e24.x, Hp.set_ne (Hp.ne_tag e24.d l24 rfl) e24.d, Hp.set_ne (Hp.ne_tag e24.i l24 rfl) e24.i⟩
  generalize H24.set lc (.list [.int 10, .int 10, .int 10, .int 10, .int 10, .int 10]) = H26 at ws26 t26 l26 e26 ⊢
  clear ws24 t24 l24 e24
  walk_at "WW"
  intro z hz1
  walk_at "WW"
  refine O_mul1 i.pur Hp.set_eq (by omega) fun z2 hz2 => ?_
  refine O_ne_ints (ns := [10, 10, 10, 10, 10, 10]) (ms := List.replicate 6 10) (Hp.set_new hz2 (Hp.set_new hz1 l26)) (Hp.set_eq.trans rfl) ?_
  rw [show (!decide (([10, 10, 10, 10, 10, 10] : List Int) = List.replicate 6 10)) = false from by decide]
  have b27 : H26.But _ [] := ((Hp.But.refl _ _).new hz1 (o := .list [.int 10])).new hz2 (o := .list (List.replicate (6 : Int).toNat (.int 10)))
  have ws27 := ws26.but b27
  have e27 := e26.but b27 (by simp)
  walk_at "WW"
  walk_at "F"
  walk_at "WW"
  refine ⟨_, _, _, rfl, e27.x, e27.d, rfl, ?_⟩
  walk_at "WW"
  refine B_bytes16 ?_
  walk_at "WW"
  refine issue_ok pf e27 (by show 1 ≤ 500; omega) (by show (1 : Int) ∉ [0]; decide) i.pur (by omega) (fun _ H28 b28 => ?_) (fun q => ?_)
  · have ws28 := ws27.but b28
    walk_at "WW"
    refine O_isnot_none rfl ?_
    walk_at "WW"
    walk_at "F"
    walk_at "W"
    walk_at "F"
    walk_at "WW"
    refine O_attr ws28.u.x ws28.u.d rfl (sa192_known pf) rfl ?_
    walk_at "WW"
    refine ⟨_, _, _, rfl, ws28.u.x, ws28.u.d, rfl, ?_⟩
    walk_at "WW"
    refine present_ok pf ws28.u hc i.pur (by omega) fun H29 b29 => ?_
    have ws29 := ws28.but b29
    walk_at "WW"
    refine O_attr ws29.i.x ws29.i.d rfl (sa98_issued pf) rfl ?_
    walk_at "WW"
    refine O_eq_ahead ws29.c1 ws29.u.k ws29.c2 ws29.i.i ws29.n1 ws29.n2 (prs_cmp _) (byts_cmp _) ?_
    walk_at "WW"
    exact h _ _ (b29 _ _ (by simp) (b28 _ _ (by simp) (b27 _ _ (by simp) t26))) ws29.q
  · exact absurd q (by unfold issueOf mayOf; simp)
end
noncomputable def f227 : { fd : FuncData // FnAtK 227 fd } := ⟨_, fun P => ⟨_, _, _, rfl⟩⟩
noncomputable def b227 : { b : List Stmt // BodyIs f227.1 b } := ⟨_, rfl⟩
noncomputable def forB : Stmt → List Stmt
  | .For _ _ b _ _ => b
  | _ => []
noncomputable def ifB : Stmt → List Stmt
  | .If _ b _ _ => b
  | _ => []
noncomputable def ifE : Stmt → List Stmt
  | .If _ _ e _ => e
  | _ => []
noncomputable def nth (l : List Stmt) (n : Nat) : Stmt := l.getD n (.Pass ⟨0, 0, 0, 0⟩)
noncomputable def lb : List Stmt := forB (nth b227.1 4)
noncomputable def sA : Stmt := nth lb 1
noncomputable def sB : Stmt := nth (ifE sA) 0
noncomputable def sC : Stmt := nth (ifE sB) 0
noncomputable def sD : Stmt := nth (ifE sC) 0
/-! the law's data -/
structure LV where
  (n : Nat)
  (limit asked prior cur : Int)
  (mine has came word tl used bs : List Int)
noncomputable def prOf (n : Int) : Pr := (cidOf n, if n = 0 then none else some (tokOf n))
noncomputable def prsOf (l : List Int) : List (Int × Pr) := l.map fun n => (n, prOf n)
noncomputable def framesOf : Nat → List Int → List AV
  | _, [] => []
  | k, b :: r => .tup [.str frameName, .int ((k : Int) + 1), .int b, .bytes (cidOf ((k : Int) + 1)), .bytes (tokOf ((k : Int) + 1))] :: framesOf (k + 1) r
noncomputable def LV.iv (v : LV) : IV := { limit := v.limit, next := (v.n : Int) + 1, prior := v.asked, issued := idsOf v.mine, empty := false }
noncomputable def LV.uv (v : LV) : UV := { limit := v.limit, cur := v.cur, prior := v.prior, known := prsOf v.has, told := prsOf v.came, used := v.used, word := v.word, empty := false }
noncomputable def iaOf (f : Nat → Addr) : IA := ⟨f 0, f 1, f 2⟩
noncomputable def uaOf (f : Nat → Addr) : UA := ⟨f 3, f 4, f 5, f 6, f 7, f 8⟩
structure LSt (H : Hp) (f : Nat → Addr) (v : LV) (xs : List AV) : Prop where
  i : Iss H (iaOf f) v.iv
  u : Usr H (uaOf f) v.uv
  m : H (f 9) = some (.dict (ones v.mine))
  h : H (f 10) = some (.dict (ones v.has))
  c : H (f 11) = some (.list (v.came.map .int))
  s : H (f 12) = some (.list (framesOf 0 v.bs))
  w : H (f 13) = some (.list (v.word.map .int))
  t : H (f 14) = some (.list (v.tl.map .int))
  l : H (f 15) = some (.list xs)
  p : H (f 16) = some (.raw (tabObj #[]))
  q : H (f 17) = some (.raw (tabObj #[]))
  pe : f 16 = 212
  qe : f 17 = 224
  inj : ∀ i j, i < 18 → j < 18 → f i = f j → i = j
theorem LSt.notin {H : Hp} {f : Nat → Addr} {v : LV} {xs : List AV} (h : LSt H f v xs) {i : Nat} {js : List Nat} (hi : i < 18) (hj : js.all (fun j => decide (j < 18) && !(j == i)) = true) : f i ∉ js.map f := fun m => by
  obtain ⟨j, hm, e⟩ := List.mem_map.mp m
  have := List.all_eq_true.mp hj j hm
  simp only [Bool.and_eq_true, decide_eq_true_eq, Bool.not_eq_true', beq_eq_false_iff_ne] at this
  exact this.2 (h.inj j i this.1 hi e)
theorem LSt.ne {H : Hp} {f : Nat → Addr} {v : LV} {xs : List AV} (h : LSt H f v xs) {i j : Nat} (hi : i < 18) (hj : j < 18) (hn : (i == j) = false) : f i ≠ f j := fun e => by
  have := h.inj i j hi hj e
  subst this
  rw [beq_self_eq_true] at hn; cases hn
theorem LSt.nil {H H' : Hp} {f : Nat → Addr} {v : LV} {xs : List AV} (h : LSt H f v xs) (b : H.But H' []) : LSt H' f v xs :=
  ⟨h.i.but b (by simp), h.u.but b (by simp), b _ _ (by simp) h.m, b _ _ (by simp) h.h, b _ _ (by simp) h.c, b _ _ (by simp) h.s, b _ _ (by simp) h.w, b _ _ (by simp) h.t, b _ _ (by simp) h.l, b _ _ (by simp) h.p, b _ _ (by simp) h.q, h.pe, h.qe, h.inj⟩
theorem LSt.keep {H H' : Hp} {f : Nat → Addr} {v : LV} {xs : List AV} {js : List Nat} (h : LSt H f v xs) (b : H.But H' (js.map f)) {j : Nat} {o : AO} (hj : j < 18) (hn : js.all (fun i => decide (i < 18) && !(i == j)) = true) (ho : H (f j) = some o) : H' (f j) = some o := b _ _ (h.notin hj hn) ho
theorem LSt.uKeep {H H' : Hp} {f : Nat → Addr} {v : LV} {xs : List AV} {js : List Nat} (h : LSt H f v xs) (b : H.But H' (js.map f)) (hn : js.all (fun i => decide (i < 18) && !(i == 3) && !(i == 4) && !(i == 5) && !(i == 6) && !(i == 7) && !(i == 8)) = true) : Usr H' (uaOf f) v.uv := by
  have nn : ∀ j, (j = 3 ∨ j = 4 ∨ j = 5 ∨ j = 6 ∨ j = 7 ∨ j = 8) → js.all (fun i => decide (i < 18) && !(i == j)) = true := fun j hj => by
    rw [List.all_eq_true] at hn ⊢
    intro i hi
    have := hn i hi
    simp only [Bool.and_eq_true, Bool.not_eq_true', beq_eq_false_iff_ne, decide_eq_true_eq] at this ⊢
    obtain ⟨⟨⟨⟨⟨⟨a, b⟩, c⟩, d⟩, e⟩, f⟩, g⟩ := this
    refine ⟨a, ?_⟩
    rcases hj with rfl | rfl | rfl | rfl | rfl | rfl <;> assumption
  have hu := h.u
  exact ⟨h.keep b (j := 3) (by decide) (nn 3 (by simp)) hu.x, h.keep b (j := 4) (by decide) (nn 4 (by simp)) hu.d, h.keep b (j := 5) (by decide) (nn 5 (by simp)) hu.k, h.keep b (j := 6) (by decide) (nn 6 (by simp)) hu.u, h.keep b (j := 7) (by decide) (nn 7 (by simp)) hu.t, h.keep b (j := 8) (by decide) (nn 8 (by simp)) hu.w, hu.kt, hu.uw⟩
theorem LSt.iKeep {H H' : Hp} {f : Nat → Addr} {v : LV} {xs : List AV} {js : List Nat} (h : LSt H f v xs) (b : H.But H' (js.map f)) (hn : js.all (fun i => decide (i < 18) && !(i == 0) && !(i == 1) && !(i == 2)) = true) : Iss H' (iaOf f) v.iv := by
  have nn : ∀ j, (j = 0 ∨ j = 1 ∨ j = 2) → js.all (fun i => decide (i < 18) && !(i == j)) = true := fun j hj => by
    rw [List.all_eq_true] at hn ⊢
    intro i hi
    have := hn i hi
    simp only [Bool.and_eq_true, Bool.not_eq_true', beq_eq_false_iff_ne, decide_eq_true_eq] at this ⊢
    obtain ⟨⟨⟨a, b⟩, c⟩, d⟩ := this
    refine ⟨a, ?_⟩
    rcases hj with rfl | rfl | rfl <;> assumption
  have hi := h.i
  exact ⟨h.keep b (j := 0) (by decide) (nn 0 (by simp)) hi.x, h.keep b (j := 1) (by decide) (nn 1 (by simp)) hi.d, h.keep b (j := 2) (by decide) (nn 2 (by simp)) hi.i⟩
noncomputable def cvars (f : Nat → Addr) (v : LV) : List (Str × AV) := [("limit", .int v.limit), ("issuer", .obj (f 0)), ("user", .obj (f 3)), ("mine", .obj (f 9)), ("has", .obj (f 10)), ("came", .obj (f 11)), ("sent", .obj (f 12)), ("asked", .int v.asked), ("prior", .int v.prior), ("word", .obj (f 13)), ("told", .obj (f 14))]
noncomputable def rvars (f : Nat → Addr) (v : LV) (rs : Int) : List (Str × AV) := ("rest", .int rs) :: cvars f v
structure Inv (t : Nat) (v : LV) : Prop where
  tt : t ≤ 20
  nt : v.n ≤ t
  lim : 2 ≤ v.limit ∧ v.limit ≤ 4
  as0 : 0 ≤ v.asked
  as1 : v.asked ≤ v.n
  bl : v.bs.length = v.n
  bb : ∀ (k : Nat) (b : Int), v.bs[k]? = some b → b ≤ k
  mb : ∀ x ∈ v.mine, 0 ≤ x ∧ x ≤ v.n
  md : v.mine.Nodup
  ml : v.mine.length ≤ t + 1
  cb : ∀ x ∈ v.came, 0 ≤ x ∧ x ≤ v.n
  cd : v.came.Nodup
  c0 : (0 : Int) ∈ v.came
  cl : v.came.length ≤ t + 1
  pm : v.came.Perm (v.has ++ v.word ++ v.tl)
  hm : ∀ x ∈ v.has, x ∈ v.mine
  wm : ∀ x ∈ v.word, x ∈ v.mine
  ch : v.cur ∈ v.has
  cu : v.cur ∈ v.used
  ul : v.used.length ≤ 25 * t + 1
  nm : ∀ x : Int, 0 ≤ x → x ≤ v.n → x ∉ v.came → x ∈ v.mine
theorem prsOf_keys (l : List Int) : (prsOf l).map (·.1) = l := by
  simp only [prsOf, List.map_map]
  exact List.map_id' l
theorem prsOf_length (l : List Int) : (prsOf l).length = l.length := List.length_map ..
theorem prsOf_lookup {l : List Int} {n : Int} (h : n ∈ l) : (prsOf l).lookup n = some (prOf n) := by
  induction l with
  | nil => cases h
  | cons m l ih =>
    show List.lookup n ((m, prOf m) :: prsOf l) = _
    rw [List.lookup_cons]
    by_cases e : n = m
    · rw [e, beq_self_eq_true]
    · rw [beq_eq_false_iff_ne.mpr e]
      rcases List.mem_cons.mp h with h | h
      · exact absurd h e
      · exact ih h
theorem prsOf_none {l : List Int} {n : Int} (h : n ∉ l) : (prsOf l).lookup n = none := by
  cases q : (prsOf l).lookup n with
  | none => rfl
  | some p =>
    have := mem_of_lookup' q
    obtain ⟨m, hm, e⟩ := List.mem_map.mp this
    cases e
    exact absurd hm h
theorem idsOf_lookup {l : List Int} {n : Int} (h : n ∈ l) : (idsOf l).lookup n = some (cidOf n) := by
  induction l with
  | nil => cases h
  | cons m l ih =>
    show List.lookup n ((m, cidOf m) :: idsOf l) = _
    rw [List.lookup_cons]
    by_cases e : n = m
    · rw [e, beq_self_eq_true]
    · rw [beq_eq_false_iff_ne.mpr e]
      rcases List.mem_cons.mp h with h | h
      · exact absurd h e
      · exact ih h
theorem Inv.lens {t : Nat} {v : LV} (i : Inv t v) : v.has.length + v.word.length + v.tl.length ≤ t + 1 := by
  have := i.pm.length_eq
  have := i.cl
  simp only [List.length_append] at *
  omega
theorem Inv.nd {t : Nat} {v : LV} (i : Inv t v) : (v.has ++ v.word ++ v.tl).Nodup := i.pm.nodup_iff.mp i.cd
theorem framesOf_length : ∀ (k : Nat) (l : List Int), (framesOf k l).length = l.length
  | _, [] => rfl
  | k, _ :: r => by unfold framesOf; simp [framesOf_length (k + 1) r]
section
variable {D : Wd} {c : Cx} {X : Int → St → Prop}
theorem brB_ok (pf : PF D) {L : Addr} {room t : Nat} (i : In f227.1 227 L room c) (hr : 20 < room) {f : Nat → Addr} {v : LV} {xs : List AV} {H : Hp} {rs : Int} (hs : LSt H f v xs) (iv : Inv t v) (ht : t + 1 ≤ 20) {Q : AF → St → Prop}
    (h : ∀ H' v' vs, LSt H' f v' xs → Inv (t + 1) v' → Sub (cvars f v') vs → Q .next ⟨vs, H'⟩) : TF D c (execs (ifB sB) c.env) ⟨rvars f v rs, H⟩ Q X := by
  have hrm := i.room
  have bl := iv.bl
  have a0 := iv.as0
  have a1 := iv.as1
  have ntt := iv.nt
  have hlen : (framesOf 0 v.bs).length = v.n := by rw [framesOf_length, bl]
  change TF D c (execs [_, _, _] c.env) _ Q X
  have fin : ∀ (a' : Int) (vs : List (Str × AV)) (H1 : Hp), H.But H1 [] → v.asked ≤ a' → a' ≤ v.n → Sub (cvars f { v with asked := a' }) vs → TF D c (execs ((ifB sB).drop 2) c.env) ⟨vs, H1⟩ Q X := by
    intro a' vs H1 b1 g1 g2 sub
    refine T.sub sub ?_
    change TF D c (execs [_] c.env) _ Q X
    have h1 := hs.nil b1
    walk_at "WW"
    refine ⟨_, _, _, rfl, h1.i.x, h1.i.d, rfl, ?_⟩
    walk_at "WW"
    refine ask_ok pf (a := iaOf f) h1.i i.pur (by omega) fun H2 b2 i2 => ?_
    walk_at "WW"
    have e : max v.asked (min a' ((v.n : Int) + 1)) = a' := by omega
    have b2' : H1.But H2 ([1].map f) := b2
    have i2' : Iss H2 (iaOf f) ({ v with asked := a' } : LV).iv := by
      have : ({ v with asked := a' } : LV).iv = { v.iv with prior := max v.iv.prior (min a' v.iv.next) } := by
        unfold LV.iv
        simp only [e]
      rw [this]; exact i2
    refine h H2 { v with asked := a' } _ ⟨i2', h1.uKeep b2' rfl, h1.keep b2' (by decide) rfl h1.m, h1.keep b2' (by decide) rfl h1.h, h1.keep b2' (by decide) rfl h1.c, h1.keep b2' (by decide) rfl h1.s, h1.keep b2' (by decide) rfl h1.w, h1.keep b2' (by decide) rfl h1.t, h1.keep b2' (by decide) rfl h1.l, h1.keep b2' (by decide) rfl h1.p, h1.keep b2' (by decide) rfl h1.q, h1.pe, h1.qe, h1.inj⟩ ?_ (Sub.refl _)
    have ul := iv.ul
    have cl := iv.cl
    have ml := iv.ml
    exact ⟨ht, by show v.n ≤ t + 1; omega, iv.lim, by show 0 ≤ a'; omega, g2, iv.bl, iv.bb, iv.mb, iv.md, by show v.mine.length ≤ t + 1 + 1; omega, iv.cb, iv.cd, iv.c0, by show v.came.length ≤ t + 1 + 1; omega, iv.pm, iv.hm, iv.wm, iv.ch, iv.cu, by show v.used.length ≤ 25 * (t + 1) + 1; omega, iv.nm⟩
  walk_at "WW"
  refine O_mod (by omega) ?_
  walk_at "WW"
  refine B_len_list hs.s (by rw [hlen]; omega) ?_
  rw [hlen]
  walk_at "WW"
  refine B_min i.pur ?_
  rw [ifmin]
  walk_at "WW"
  refine B_max i.pur ?_
  rw [ifmax]
  walk_at "WW"
  refine B_len_list hs.s (by rw [hlen]; omega) ?_
  rw [hlen]
  walk_at "WW"
  have m0 : 0 ≤ rs.fmod 6 := Int.fmod_nonneg_of_pos _ (by omega)
  refine ⟨fun hb => ?_, fun hb => ?_⟩
  · have hb' : max v.asked (min (rs.fmod 6) ((v.n : Int) + 1)) = (v.n : Int) + 1 := eq_of_beq hb
    walk_at "WW"
    refine B_len_list hs.s (by rw [hlen]; omega) ?_
    rw [hlen]
    repeat (first | refine fin v.n _ H (Hp.But.refl _ _) a1 (by omega) ?_ | walk_at "W")
    exact Sub.cons rfl (Sub.cons rfl (Sub.cons rfl (Sub.cons rfl (Sub.cons rfl (Sub.cons rfl (Sub.cons rfl (Sub.cons rfl (Sub.cons rfl (Sub.cons rfl (Sub.cons rfl (Sub.nil _)))))))))))
  · have hb' : max v.asked (min (rs.fmod 6) ((v.n : Int) + 1)) ≠ (v.n : Int) + 1 := fun q => by rw [q, beq_self_eq_true] at hb; cases hb
    repeat (first | refine fin (max v.asked (min (rs.fmod 6) ((v.n : Int) + 1))) _ H (Hp.But.refl _ _) (by omega) (by omega) ?_ | walk_at "W")
    exact Sub.cons rfl (Sub.cons rfl (Sub.cons rfl (Sub.cons rfl (Sub.cons rfl (Sub.cons rfl (Sub.cons rfl (Sub.cons rfl (Sub.cons rfl (Sub.cons rfl (Sub.cons rfl (Sub.nil _)))))))))))
end
theorem framesOf_append (b : Int) : ∀ (k : Nat) (l : List Int), framesOf k (l ++ [b]) = framesOf k l ++ [.tup [.str frameName, .int ((k + l.length : Nat) + 1 : Int), .int b, .bytes (cidOf ((k + l.length : Nat) + 1 : Int)), .bytes (tokOf ((k + l.length : Nat) + 1 : Int))]]
  | k, [] => by simp [framesOf]
  | k, a :: r => by
    rw [List.cons_append]
    unfold framesOf
    rw [framesOf_append b (k + 1) r]
    simp only [List.cons_append, List.length_cons]
    rw [show k + 1 + r.length = k + (r.length + 1) from by omega]
theorem ones_put {l : List Int} {n : Int} (h : n ∉ l) : dPut (ones l) n (.int 1) = ones (l ++ [n]) := by
  unfold dPut
  rw [if_neg]
  · simp [ones]
  · simp only [ones, List.any_map, List.any_eq_true, not_exists, not_and]
    intro x hx e
    have e' : x = n := by simpa using e
    exact h (e' ▸ hx)
section
variable {D : Wd} {c : Cx} {X : Int → St → Prop}
theorem brA_ok (pf : PF D) {L : Addr} {room t : Nat} (i : In f227.1 227 L room c) (hr : 20 < room) {f : Nat → Addr} {v : LV} {xs : List AV} {H : Hp} {rs : Int} (hs : LSt H f v xs) (iv : Inv t v) (ht : t + 1 ≤ 20) {Q : AF → St → Prop}
    (h : ∀ H' v' vs, LSt H' f v' xs → Inv (t + 1) v' → Sub (cvars f v') vs → Q .next ⟨vs, H'⟩) : TF D c (execs (ifB sA) c.env) ⟨rvars f v rs, H⟩ Q X := by
  have hrm := i.room
  have bl := iv.bl
  have a0 := iv.as0
  have a1 := iv.as1
  have ntt := iv.nt
  have ul := iv.ul
  have cl := iv.cl
  have ml := iv.ml
  have ll := iv.lens
  have hlen : (framesOf 0 v.bs).length = v.n := by rw [framesOf_length, bl]
  change TF D c (execs [_, _, _, _] c.env) _ Q X
  walk_at "WW"
  refine O_attr hs.i.x hs.i.d rfl (sa98_next_sequence pf) rfl ?_
  walk_at "WW"
  refine law_id_ok pf (n := (v.n : Int) + 1) (by omega) (by omega) i.pur (by omega) fun H1 b1 => ?_
  have h1 := hs.nil b1
  walk_at "WW"
  refine TA_tuple rfl rfl (TAs_cons (TA_name i.pur (by walk_at "sto") (TAs_cons (TA_name i.pur (by walk_at "sto") (TAs_nil ?_)))))
  walk_at "WW"
  refine ⟨_, _, _, rfl, h1.i.x, h1.i.d, rfl, ?_⟩
  walk_at "WW"
  have hk : (v.n : Int) + 1 ∉ v.mine := fun q => by have := (iv.mb _ q).2; omega
  have hany : (v.iv.issued.any fun p => p.2 == cidOf ((v.n : Int) + 1)) = false := by
    rw [List.any_eq_false]
    intro p hp q
    obtain ⟨m, hm, rfl⟩ := List.mem_map.mp hp
    have e := cidOf_inj ⟨(iv.mb m hm).1, by have := (iv.mb m hm).2; omega⟩ ⟨by omega, by omega⟩ (eq_of_beq q)
    exact hk (e ▸ hm)
  have ek : keptOf v.iv = (v.mine.filter fun n => decide (v.asked ≤ n)).length := by
    unfold keptOf LV.iv idsOf
    rw [List.filter_map, List.length_map]
    rfl
  have lf : (v.mine.filter fun n => decide (v.asked ≤ n)).length ≤ v.mine.length := List.length_filter_le _ _
  have eis : issueOf v.iv (cidOf ((v.n : Int) + 1)) = decide (((v.mine.filter fun n => decide (v.asked ≤ n)).length : Int) < v.limit) := by
    unfold issueOf mayOf
    rw [hany, ek]
    show (!false && decide (((v.mine.filter fun n => decide (v.asked ≤ n)).length : Int) < v.limit) && !false) = _
    rw [Bool.not_false, Bool.true_and, Bool.and_true]
  refine issue_ok pf (a := iaOf f) h1.i (by show (idsOf v.mine).length ≤ 500; unfold idsOf; rw [List.length_map]; omega) (by show _ ∉ (idsOf v.mine).map (·.1); rw [idsOf_keys]; exact hk) i.pur (by omega) (fun hf H2 b2 => ?_) (fun hf H2 b2 i2 => ?_)
  · have h2 := h1.nil b2
    have hge : ¬ ((v.mine.filter fun n => decide (v.asked ≤ n)).length : Int) < v.limit := by
      rw [eis] at hf
      exact of_decide_eq_false hf
    walk_at "WW"
    refine O_is_none rfl ?_
    walk_at "WW"
    refine TE_compN Int i rfl rfl (fun _ => rfl) rfl (fun p hp => by rcases List.mem_cons.mp hp with rfl | hp; exact mem_of_lookup rfl; cases hp) (List.pairwise_singleton ..) ?_
    walk_at "WW"
    refine ⟨v.mine, .int, .int, fun n => decide (v.asked ≤ n), false, [("asked", .int v.asked)], .dict h2.m (by simp [ones]), (by omega), ⟨⟨rfl, by kernel_rfl, rfl⟩, trivial⟩, fun c'' y ic hy => ⟨?_, fun hp => ?_⟩, fun z hz => ?_⟩
    · walk_at "WW"
    · walk_at "WW"
    have h3 := h2.nil ((Hp.But.refl _ []).new hz (o := .list ((v.mine.filter fun n => decide (v.asked ≤ n)).map .int)))
    walk_at "WW"
    refine B_len_list Hp.set_eq (by rw [List.length_map]; omega) ?_
    rw [List.length_map]
    walk_at "WW"
    refine O_ne_bool ?_
    rw [show decide (v.limit ≤ ((v.mine.filter fun n => decide (v.asked ≤ n)).length : Int)) = true from decide_eq_true (by omega)]
    walk_at "WW"
    walk_at "F"
    walk_at "WW"
    refine O_isnot_none rfl ?_
    walk_at "WW"
    walk_at "F"
    walk_at "WW"
    refine h _ v _ h3 ⟨ht, by omega, iv.lim, a0, a1, bl, iv.bb, iv.mb, iv.md, by omega, iv.cb, iv.cd, iv.c0, by omega, iv.pm, iv.hm, iv.wm, iv.ch, iv.cu, by omega, iv.nm⟩ ?_
    exact Sub.cons rfl (Sub.cons rfl (Sub.cons rfl (Sub.cons rfl (Sub.cons rfl (Sub.cons rfl (Sub.cons rfl (Sub.cons rfl (Sub.cons rfl (Sub.cons rfl (Sub.cons rfl (Sub.nil _)))))))))))
  · have hlt : ((v.mine.filter fun n => decide (v.asked ≤ n)).length : Int) < v.limit := by
      rw [eis] at hf
      exact of_decide_eq_true hf
    have b2' : H1.But H2 ([1, 2].map f) := b2
    have m2 := h1.keep b2' (by decide) rfl h1.m
    walk_at "WW"
    refine O_is_none rfl ?_
    walk_at "WW"
    refine TE_compN Int i rfl rfl (fun _ => rfl) rfl (fun p hp => by rcases List.mem_cons.mp hp with rfl | hp; exact mem_of_lookup rfl; cases hp) (List.pairwise_singleton ..) ?_
    walk_at "WW"
    refine ⟨v.mine, .int, .int, fun n => decide (v.asked ≤ n), false, [("asked", .int v.asked)], .dict m2 (by simp [ones]), (by omega), ⟨⟨rfl, by kernel_rfl, rfl⟩, trivial⟩, fun c'' y ic hy => ⟨?_, fun hp => ?_⟩, fun z hz => ?_⟩
    · walk_at "WW"
    · walk_at "WW"
    have b3 : H1.But _ ([1, 2].map f) := b2'.new hz (o := .list ((v.mine.filter fun n => decide (v.asked ≤ n)).map .int))
    have i3 := i2.but ((Hp.But.refl _ []).new hz (o := .list ((v.mine.filter fun n => decide (v.asked ≤ n)).map .int))) (by simp)
    walk_at "WW"
    refine B_len_list Hp.set_eq (by rw [List.length_map]; omega) ?_
    rw [List.length_map]
    generalize H2.set z (.list ((v.mine.filter fun n => decide (v.asked ≤ n)).map .int)) = H3 at b3 i3 ⊢
    walk_at "WW"
    refine O_ne_bool ?_
    rw [show decide (v.limit ≤ ((v.mine.filter fun n => decide (v.asked ≤ n)).length : Int)) = false from decide_eq_false (by omega)]
    walk_at "WW"
    walk_at "F"
    walk_at "WW"
    refine O_isnot_none rfl ?_
    walk_at "WW"
    walk_at "T"
    walk_at "WW"
    have s3 := h1.keep b3 (by decide) rfl h1.s
    refine B_len_list s3 (by rw [hlen]; omega) ?_
    rw [hlen]
    walk_at "WW"
    refine O_ne_tup (b := true) (by simp [eqvs, AV.eqv, frameName, LV.iv]) ?_
    walk_at "WW"
    walk_at "F"
    walk_at "WW"
    refine ⟨_, _, rfl, s3, ?_⟩
    walk_at "WW"
    refine B_append i.pur s3 (by rw [hlen]; omega) ?_
    rw [show framesOf 0 v.bs ++ [AV.tup [.str frameName, .int v.iv.next, .int v.iv.prior, .bytes (cidOf ((v.n : Int) + 1)), .bytes (tokOf ((v.n : Int) + 1))]] = framesOf 0 (v.bs ++ [v.asked]) from by
      rw [framesOf_append, Nat.zero_add, bl]; rfl]
    have b4 : H1.But (H3.set (f 12) (.list (framesOf 0 (v.bs ++ [v.asked])))) ([1, 2, 12].map f) := (b3.mono (by simp)).set (by simp)
    have s4 : (H3.set (f 12) (.list (framesOf 0 (v.bs ++ [v.asked])))) (f 12) = some (.list (framesOf 0 (v.bs ++ [v.asked]))) := Hp.set_eq
    have i4 : Iss (H3.set (f 12) (.list (framesOf 0 (v.bs ++ [v.asked])))) (iaOf f) _ := ⟨Hp.set_ne (h1.ne (i := 0) (j := 12) (by decide) (by decide) rfl) i3.x, Hp.set_ne (h1.ne (i := 1) (j := 12) (by decide) (by decide) rfl) i3.d, Hp.set_ne (h1.ne (i := 2) (j := 12) (by decide) (by decide) rfl) i3.i⟩
    generalize H3.set (f 12) (.list (framesOf 0 (v.bs ++ [v.asked]))) = H4 at b4 s4 i4 ⊢
    have hlen4 : (framesOf 0 (v.bs ++ [v.asked])).length = v.n + 1 := by rw [framesOf_length, List.length_append, bl]; rfl
    have m4 := h1.keep b4 (by decide) rfl h1.m
    walk_at "WW"
    refine B_len_list s4 (by rw [hlen4]; omega) ?_
    rw [hlen4]
    refine O_setitem i.pur m4 (by rw [ones_length]; omega) ?_
    rw [ones_put (n := ((v.n + 1 : Nat) : Int)) (by rw [Int.natCast_add]; exact hk)]
    have b5 : H1.But (H4.set (f 9) (.dict (ones (v.mine ++ [((v.n + 1 : Nat) : Int)])))) ([1, 2, 12, 9].map f) := (b4.mono (by simp)).set (by simp)
    have s5 : (H4.set (f 9) (.dict (ones (v.mine ++ [((v.n + 1 : Nat) : Int)])))) (f 12) = _ := Hp.set_ne (h1.ne (i := 12) (j := 9) (by decide) (by decide) rfl) s4
    have m5 : (H4.set (f 9) (.dict (ones (v.mine ++ [((v.n + 1 : Nat) : Int)])))) (f 9) = _ := Hp.set_eq
    have i5 : Iss (H4.set (f 9) (.dict (ones (v.mine ++ [((v.n + 1 : Nat) : Int)])))) (iaOf f) ({ v with n := v.n + 1, mine := v.mine ++ [((v.n + 1 : Nat) : Int)], bs := v.bs ++ [v.asked] } : LV).iv := by
      have e : ({ v with n := v.n + 1, mine := v.mine ++ [((v.n + 1 : Nat) : Int)], bs := v.bs ++ [v.asked] } : LV).iv = { v.iv with issued := v.iv.issued ++ [(v.iv.next, cidOf ((v.n : Int) + 1))], next := v.iv.next + 1 } := by
        unfold LV.iv idsOf
        simp
      rw [e]
      exact ⟨Hp.set_ne (h1.ne (i := 0) (j := 9) (by decide) (by decide) rfl) i4.x, Hp.set_ne (h1.ne (i := 1) (j := 9) (by decide) (by decide) rfl) i4.d, Hp.set_ne (h1.ne (i := 2) (j := 9) (by decide) (by decide) rfl) i4.i⟩
    generalize H4.set (f 9) (.dict (ones (v.mine ++ [((v.n + 1 : Nat) : Int)]))) = H5 at b5 s5 m5 i5 ⊢
    walk_at "WW"
    refine h H5 { v with n := v.n + 1, mine := v.mine ++ [((v.n + 1 : Nat) : Int)], bs := v.bs ++ [v.asked] } _ ⟨i5, h1.uKeep b5 rfl, m5, h1.keep b5 (by decide) rfl h1.h, h1.keep b5 (by decide) rfl h1.c, s5, h1.keep b5 (by decide) rfl h1.w, h1.keep b5 (by decide) rfl h1.t, h1.keep b5 (by decide) rfl h1.l, h1.keep b5 (by decide) rfl h1.p, h1.keep b5 (by decide) rfl h1.q, h1.pe, h1.qe, h1.inj⟩ ?_ ?_
    · refine ⟨ht, by show v.n + 1 ≤ t + 1; omega, iv.lim, a0, by show v.asked ≤ ((v.n + 1 : Nat) : Int); omega, by show (v.bs ++ [v.asked]).length = v.n + 1; rw [List.length_append, bl]; rfl, fun k b hkb => ?_, fun x hx => ?_, ?_, by show (v.mine ++ [_]).length ≤ t + 1 + 1; rw [List.length_append]; simp only [List.length_singleton]; omega, fun x hx => ?_, iv.cd, iv.c0, by show v.came.length ≤ t + 1 + 1; omega, iv.pm, fun x hx => List.mem_append_left _ (iv.hm x hx), fun x hx => List.mem_append_left _ (iv.wm x hx), iv.ch, iv.cu, by show v.used.length ≤ 25 * (t + 1) + 1; omega, fun x x0 xn xc => ?_⟩
      · have hkb' : (v.bs ++ [v.asked])[k]? = some b := hkb
        rw [List.getElem?_append] at hkb'
        split at hkb'
        · exact iv.bb k b hkb'
        · rename_i hnk
          have : k - v.bs.length = 0 := by
            have := (List.getElem?_eq_some_iff.mp hkb').1
            simp only [List.length_singleton] at this
            omega
          rw [this] at hkb'
          have e : v.asked = b := by simpa using hkb'
          omega
      · have hx' : x ∈ v.mine ++ [((v.n + 1 : Nat) : Int)] := hx
        show 0 ≤ x ∧ x ≤ ((v.n + 1 : Nat) : Int)
        rcases List.mem_append.mp hx' with hx' | hx'
        · have := iv.mb x hx'; omega
        · rw [List.mem_singleton.mp hx']; omega
      · show (v.mine ++ [((v.n + 1 : Nat) : Int)]).Nodup
        rw [List.nodup_append]
        refine ⟨iv.md, by simp, fun x hx y hy => ?_⟩
        rw [List.mem_singleton.mp hy]
        have := (iv.mb x hx).2
        omega
      · have := iv.cb x hx
        show 0 ≤ x ∧ x ≤ ((v.n + 1 : Nat) : Int)
        omega
      · have xn' : x ≤ ((v.n + 1 : Nat) : Int) := xn
        show x ∈ v.mine ++ [((v.n + 1 : Nat) : Int)]
        by_cases e : x = ((v.n + 1 : Nat) : Int)
        · rw [e]; simp
        · exact List.mem_append_left _ (iv.nm x x0 (by omega) xc)
    · exact Sub.cons rfl (Sub.cons rfl (Sub.cons rfl (Sub.cons rfl (Sub.cons rfl (Sub.cons rfl (Sub.cons rfl (Sub.cons rfl (Sub.cons rfl (Sub.cons rfl (Sub.cons rfl (Sub.nil _)))))))))))
end
theorem ones_del (l : List Int) (k : Int) : dDel (ones l) k = ones (l.filter fun x => decide (x ≠ k)) := by
  unfold dDel ones
  rw [List.filter_map]; rfl
theorem prsOf_without (l : List Int) (k : Int) : without (prsOf l) k = prsOf (l.filter fun x => decide (x ≠ k)) := by
  unfold without prsOf
  rw [List.filter_map]; rfl
theorem perm_out {l : List Int} {k : Int} (hn : l.Nodup) (h : k ∈ l) : l.Perm (k :: l.filter fun x => decide (x ≠ k)) := by
  have e := List.perm_cons_erase h
  rw [hn.erase_eq_filter] at e
  refine e.trans (List.Perm.of_eq ?_)
  congr 1
  refine List.filter_congr fun x _ => ?_
  rw [Bool.eq_iff_iff]; simp
section
variable {D : Wd} {c : Cx} {X : Int → St → Prop}
theorem brD_ok (pf : PF D) {L : Addr} {room t : Nat} (i : In f227.1 227 L room c) (hr : 20 < room) {f : Nat → Addr} {v : LV} {xs : List AV} {H : Hp} {rs : Int} (hs : LSt H f v xs) (iv : Inv t v) (ht : t + 1 ≤ 20) {Q : AF → St → Prop}
    (h : ∀ H' v' vs, LSt H' f v' xs → Inv (t + 1) v' → Sub (cvars f v') vs → Q .next ⟨vs, H'⟩) : TF D c (execs (ifB sD) c.env) ⟨rvars f v rs, H⟩ Q X := by
  have hrm := i.room
  have ul := iv.ul
  have cl := iv.cl
  have ml := iv.ml
  have ntt := iv.nt
  have ll := iv.lens
  have nd := iv.nd
  change TF D c (execs [_, _] c.env) _ Q X
  walk_at "WW"
  refine O_attr hs.u.x hs.u.d rfl (sa192_current pf) rfl ?_
  rw [show v.uv.cur = v.cur from rfl]
  walk_at "WW"
  refine ⟨_, _, _, rfl, hs.u.x, hs.u.d, rfl, ?_⟩
  walk_at "WW"
  have hlk : (prsOf v.has).length = v.has.length := prsOf_length _
  refine change_ok pf (a := uaOf f) hs.u (p := prOf v.cur) (prsOf_lookup iv.ch) iv.cu (by show (prsOf v.has).length < 64; omega) (by show v.used.length ≤ 800; omega) (by show v.word.length ≤ 800; omega) i.pur (by omega) (fun _ H1 b1 => ?_) (fun n hn hnu H1 b1 u1 => ?_)
  · have h1 := hs.nil b1
    walk_at "WW"
    walk_at "F"
    walk_at "WW"
    refine h _ v _ h1 ⟨ht, by omega, iv.lim, iv.as0, iv.as1, iv.bl, iv.bb, iv.mb, iv.md, by omega, iv.cb, iv.cd, iv.c0, by omega, iv.pm, iv.hm, iv.wm, iv.ch, iv.cu, by omega, iv.nm⟩ ?_
    exact Sub.cons rfl (Sub.cons rfl (Sub.cons rfl (Sub.cons rfl (Sub.cons rfl (Sub.cons rfl (Sub.cons rfl (Sub.cons rfl (Sub.cons rfl (Sub.cons rfl (Sub.cons rfl (Sub.nil _)))))))))))
  · have hn' : n ∈ v.has := by
      have : n ∈ (prsOf v.has).map (·.1) := hn
      rw [prsOf_keys] at this; exact this
    have hne : n ≠ v.cur := fun q => hnu (q ▸ iv.cu)
    have b1' : H.But H1 ([4, 5, 6, 8].map f) := b1
    have h1h := hs.keep b1' (by decide) rfl hs.h
    have h1w := hs.keep b1' (by decide) rfl hs.w
    have i1 := hs.iKeep b1' rfl
    walk_at "WW"
    walk_at "T"
    walk_at "WW"
    refine ⟨_, _, rfl, h1h, ?_⟩
    walk_at "WW"
    refine B_pop i.pur h1h (by rw [ones_length]; omega) (ones_get iv.ch) ?_
    rw [ones_del]
    have n10 : ∀ j, j < 18 → (j == 10) = false → f j ≠ f 10 := fun j hj hn => hs.ne hj (by decide) hn
    have b2 : H.But (H1.set (f 10) (.dict (ones (v.has.filter fun x => decide (x ≠ v.cur))))) ([4, 5, 6, 8, 10].map f) := (b1'.mono (by simp)).set (by simp)
    have h2h : (H1.set (f 10) (.dict (ones (v.has.filter fun x => decide (x ≠ v.cur))))) (f 10) = _ := Hp.set_eq
    have h2w : (H1.set (f 10) (.dict (ones (v.has.filter fun x => decide (x ≠ v.cur))))) (f 13) = _ := Hp.set_ne (n10 13 (by decide) rfl) h1w
    have u2 : Usr (H1.set (f 10) (.dict (ones (v.has.filter fun x => decide (x ≠ v.cur))))) (uaOf f) _ := ⟨Hp.set_ne (n10 3 (by decide) rfl) u1.x, Hp.set_ne (n10 4 (by decide) rfl) u1.d, Hp.set_ne (n10 5 (by decide) rfl) u1.k, Hp.set_ne (n10 6 (by decide) rfl) u1.u, Hp.set_ne (n10 7 (by decide) rfl) u1.t, Hp.set_ne (n10 8 (by decide) rfl) u1.w, u1.kt, u1.uw⟩
    generalize H1.set (f 10) (.dict (ones (v.has.filter fun x => decide (x ≠ v.cur)))) = H2 at b2 h2h h2w u2 ⊢
    walk_at "WW"
    refine ⟨_, _, rfl, h2w, ?_⟩
    walk_at "WW"
    refine B_append i.pur h2w (by rw [List.length_map]; omega) ?_
    rw [show (v.word.map AV.int ++ [.int v.cur]) = (v.word ++ [v.cur]).map .int from by simp]
    have n13 : ∀ j, j < 18 → (j == 13) = false → f j ≠ f 13 := fun j hj hn => hs.ne hj (by decide) hn
    have b3 : H.But (H2.set (f 13) (.list ((v.word ++ [v.cur]).map .int))) ([4, 5, 6, 8, 10, 13].map f) := (b2.mono (by simp)).set (by simp)
    have h3h := Hp.set_ne (o := .list ((v.word ++ [v.cur]).map .int)) (n13 10 (by decide) rfl) h2h
    have h3w : (H2.set (f 13) (.list ((v.word ++ [v.cur]).map .int))) (f 13) = _ := Hp.set_eq
    have u3 : Usr (H2.set (f 13) (.list ((v.word ++ [v.cur]).map .int))) (uaOf f) _ := ⟨Hp.set_ne (n13 3 (by decide) rfl) u2.x, Hp.set_ne (n13 4 (by decide) rfl) u2.d, Hp.set_ne (n13 5 (by decide) rfl) u2.k, Hp.set_ne (n13 6 (by decide) rfl) u2.u, Hp.set_ne (n13 7 (by decide) rfl) u2.t, Hp.set_ne (n13 8 (by decide) rfl) u2.w, u2.kt, u2.uw⟩
    generalize H2.set (f 13) (.list ((v.word ++ [v.cur]).map .int)) = H3 at b3 h3h h3w u3 ⊢
    walk_at "WW"
    have eu : ({ v with cur := n, has := v.has.filter (fun x => decide (x ≠ v.cur)), word := v.word ++ [v.cur], used := v.used ++ [n] } : LV).uv = { v.uv with cur := n, used := v.used ++ [n], known := without (prsOf v.has) v.cur, word := v.word ++ [v.cur] } := by
      rw [prsOf_without]; rfl
    have ndh : v.has.Nodup := by
      rw [List.append_assoc] at nd
      exact (List.nodup_append.mp nd).1
    have pe := perm_out ndh iv.ch
    have flen : (v.has.filter fun x => decide (x ≠ v.cur)).length ≤ v.has.length := List.length_filter_le _ _
    refine h H3 { v with cur := n, has := v.has.filter (fun x => decide (x ≠ v.cur)), word := v.word ++ [v.cur], used := v.used ++ [n] } _ ⟨hs.iKeep b3 rfl, by rw [eu]; exact u3, hs.keep b3 (by decide) rfl hs.m, h3h, hs.keep b3 (by decide) rfl hs.c, hs.keep b3 (by decide) rfl hs.s, h3w, hs.keep b3 (by decide) rfl hs.t, hs.keep b3 (by decide) rfl hs.l, hs.keep b3 (by decide) rfl hs.p, hs.keep b3 (by decide) rfl hs.q, hs.pe, hs.qe, hs.inj⟩ ?_ ?_
    · refine ⟨ht, by show v.n ≤ t + 1; omega, iv.lim, iv.as0, iv.as1, iv.bl, iv.bb, iv.mb, iv.md, by show v.mine.length ≤ t + 1 + 1; omega, iv.cb, iv.cd, iv.c0, by show v.came.length ≤ t + 1 + 1; omega, ?_, fun x hx => ?_, fun x hx => ?_, ?_, ?_, ?_, iv.nm⟩
      · refine iv.pm.trans ?_
        show (v.has ++ v.word ++ v.tl).Perm ((v.has.filter fun x => decide (x ≠ v.cur)) ++ (v.word ++ [v.cur]) ++ v.tl)
        refine List.perm_iff_count.mpr fun x => ?_
        have := pe.count_eq x
        simp only [List.count_append, List.count_cons, List.count_nil] at this ⊢
        omega
      · exact iv.hm x (List.mem_filter.mp hx).1
      · have hx' : x ∈ v.word ++ [v.cur] := hx
        rcases List.mem_append.mp hx' with hx' | hx'
        · exact iv.wm x hx'
        · rw [List.mem_singleton.mp hx']; exact iv.hm _ iv.ch
      · exact List.mem_filter.mpr ⟨hn', by simpa using hne⟩
      · exact List.mem_append_right _ (List.mem_singleton.mpr rfl)
      · show (v.used ++ [n]).length ≤ 25 * (t + 1) + 1
        rw [List.length_append]; simp only [List.length_singleton]; omega
    · exact Sub.cons rfl (Sub.cons rfl (Sub.cons rfl (Sub.cons rfl (Sub.cons rfl (Sub.cons rfl (Sub.cons rfl (Sub.cons rfl (Sub.cons rfl (Sub.cons rfl (Sub.cons rfl (Sub.nil _)))))))))))
end
theorem prOf_pos {a : Int} (h : a ≠ 0) : prOf a = (cidOf a, some (tokOf a)) := by unfold prOf; rw [if_neg h]
theorem prsOf_snoc (l : List Int) {a : Int} (h : a ≠ 0) : prsOf (l ++ [a]) = prsOf l ++ [(a, (cidOf a, some (tokOf a)))] := by
  unfold prsOf
  rw [List.map_append, List.map_singleton, prOf_pos h]
theorem prsOf_filter (l : List Int) (P : Int) : ((prsOf l).filter fun q => decide (P ≤ q.1)) = prsOf (l.filter fun x => decide (P ≤ x)) := by
  unfold prsOf
  rw [List.filter_map]; rfl
theorem framesOf_get : ∀ (k : Nat) (l : List Int) (j : Nat) (b : Int), l[j]? = some b → (framesOf k l)[j]? = some (.tup [.str frameName, .int ((k + j : Nat) + 1 : Int), .int b, .bytes (cidOf ((k + j : Nat) + 1 : Int)), .bytes (tokOf ((k + j : Nat) + 1 : Int))])
  | k, [], j, b, h => by simp at h
  | k, a :: r, 0, b, h => by
    have e : a = b := by simpa using h
    subst e
    rfl
  | k, a :: r, j + 1, b, h => by
    unfold framesOf
    rw [List.getElem?_cons_succ, framesOf_get (k + 1) r j b (by simpa using h)]
    rw [show k + 1 + j = k + (j + 1) from by omega]
section
variable {D : Wd} {c : Cx} {σ : St} {X : Int → St → Prop} {Q : AV → St → Prop}
theorem onnew_law (pf : PF D) {t : Nat} {f : Nat → Addr} {v : LV} (hu : Usr σ.hp (uaOf f) v.uv) (iv : Inv t v) {a b P : Int} (hP : P = max v.prior b) (ha : 1 ≤ a ∧ a ≤ v.n) (hb : b ≤ a) (hpu : c.pur = false) (hr : 15 < c.room)
    (h1 : a ∈ v.came → ∀ H', σ.hp.But H' [] → Q .none ⟨σ.vars, H'⟩)
    (h2 : a ∉ v.came → a < v.prior → ∀ H', σ.hp.But H' ([4, 5, 6, 7, 8].map f) → Usr H' (uaOf f) ({ v with came := v.came ++ [a], word := v.word ++ [a] } : LV).uv → Q .none ⟨σ.vars, H'⟩)
    (h3 : a ∉ v.came → ¬ a < v.prior → ∀ H' cur' used' ns, σ.hp.But H' ([4, 5, 6, 7, 8].map f) → Srt ns (v.has ++ [a]) →
      Usr H' (uaOf f) ({ v with came := v.came ++ [a], prior := P, has := (v.has ++ [a]).filter (fun x => decide (P ≤ x)), word := v.word ++ ns.filter (fun n => decide (n < P)), cur := cur', used := used' } : LV).uv →
      cur' ∈ used' → cur' ∈ (v.has ++ [a]).filter (fun x => decide (P ≤ x)) → used'.length ≤ v.used.length + v.has.length + 1 →
      ((v.limit < (((v.has ++ [a]).filter fun x => decide (P ≤ x)).length : Int) → ∀ H'', H'.But H'' [] → X 9 ⟨σ.vars, H''⟩) ∧ (¬ v.limit < (((v.has ++ [a]).filter fun x => decide (P ≤ x)).length : Int) → Q .none ⟨σ.vars, H'⟩))) :
    TO D c VR [.obj (f 3), .int a, .int b, .bytes (cidOf a), .bytes (tokOf a)] (fun vs => call (.ref 137) vs) σ Q X := by
  have ntt := iv.nt
  have ul := iv.ul
  have cl := iv.cl
  have tt := iv.tt
  have ll := iv.lens
  have nd := iv.nd
  have a0 : a ≠ 0 := by omega
  have ndh : v.has.Nodup := by
    rw [List.append_assoc] at nd
    exact (List.nodup_append.mp nd).1
  have hsubset : ∀ x ∈ v.has, x ∈ v.came := fun x hx => iv.pm.mem_iff.mpr (by rw [List.append_assoc]; exact List.mem_append_left _ hx)
  have nb : ¬ badNew v.uv a (cidOf a) (tokOf a) := by
    rintro (q | ⟨p, q1, q2⟩ | ⟨q1, q, q2, q3⟩)
    · cases q
    · have q1' : (prsOf v.came).lookup a = some p := q1
      by_cases hm : a ∈ v.came
      · rw [prsOf_lookup hm, prOf_pos a0] at q1'
        exact q2 (Option.some.inj q1').symm
      · rw [prsOf_none hm] at q1'; cases q1'
    · have q1' : (prsOf v.came).lookup a = none := q1
      have q2' : q ∈ prsOf v.came := q2
      obtain ⟨m, hm, rfl⟩ := List.mem_map.mp q2'
      have q3' : cidOf m = cidOf a := q3
      have e := cidOf_inj ⟨(iv.cb m hm).1, by have := (iv.cb m hm).2; omega⟩ ⟨by omega, by omega⟩ q3'
      subst e
      rw [prsOf_lookup hm] at q1'; cases q1'
  have hl1 : (prsOf v.came).length = v.came.length := prsOf_length _
  have hl2 : (prsOf v.has).length = v.has.length := prsOf_length _
  refine on_new_ok pf (a := uaOf f) (v := v.uv) (P := P) hP hu (by show ((prsOf v.came).map (·.1)).Nodup; rw [prsOf_keys]; exact iv.cd) (by show (prsOf v.came).length ≤ 700; omega) (by show (prsOf v.has).length < 63; omega) (by show v.used.length ≤ 700; omega) (by show v.word.length ≤ 700; omega) hpu hr
    (by show ((prsOf v.has).map (·.1)).Nodup; rw [prsOf_keys]; exact ndh) (by show ∀ k ∈ (prsOf v.has).map (·.1), k ∈ (prsOf v.came).map (·.1); rw [prsOf_keys, prsOf_keys]; exact hsubset) (by show v.cur ∈ (prsOf v.has).map (·.1); rw [prsOf_keys]; exact iv.ch) iv.cu hb
    (fun q => absurd q nb) (fun _ hl H' bt => ?_) (fun _ hl hlt H' bt uu => ?_) (fun _ hl hlt H' cur' used' ns bt srt uu m1 m2 m3 => ?_)
  · refine h1 ?_ H' bt
    by_cases hm : a ∈ v.came
    · exact hm
    · have hl' : (prsOf v.came).lookup a = _ := hl
      rw [prsOf_none hm] at hl'; cases hl'
  · have hm : a ∉ v.came := fun hm => by
      have hl' : (prsOf v.came).lookup a = none := hl
      rw [prsOf_lookup hm] at hl'; cases hl'
    refine h2 hm hlt H' bt ?_
    have e : ({ v with came := v.came ++ [a], word := v.word ++ [a] } : LV).uv = { v.uv with told := v.uv.told ++ [(a, (cidOf a, some (tokOf a)))], word := v.uv.word ++ [a] } := by
      unfold LV.uv
      simp only [prsOf_snoc _ a0]
    rw [e]
    exact uu
  · have hm : a ∉ v.came := fun hm => by
      have hl' : (prsOf v.came).lookup a = none := hl
      rw [prsOf_lookup hm] at hl'; cases hl'
    have ek : (v.uv.known ++ [(a, (cidOf a, some (tokOf a)))]) = prsOf (v.has ++ [a]) := (prsOf_snoc _ a0).symm
    rw [ek] at srt uu m2
    rw [prsOf_keys] at srt
    rw [prsOf_filter] at uu m2
    rw [prsOf_keys] at m2
    have fin := h3 hm hlt H' cur' used' ns bt srt (by
      have e : ({ v with came := v.came ++ [a], prior := P, has := (v.has ++ [a]).filter (fun x => decide (P ≤ x)), word := v.word ++ ns.filter (fun n => decide (n < P)), cur := cur', used := used' } : LV).uv = { v.uv with told := v.uv.told ++ [(a, (cidOf a, some (tokOf a)))], prior := P, known := prsOf ((v.has ++ [a]).filter fun x => decide (P ≤ x)), word := v.uv.word ++ ns.filter (fun n => decide (n < P)), cur := cur', used := used' } := by
        unfold LV.uv
        simp only [prsOf_snoc _ a0]
      rw [e]
      exact uu) m1 m2 (by
        have m3' : used'.length ≤ v.used.length + (prsOf v.has).length + 1 := m3
        rw [hl2] at m3'; exact m3')
    rw [ek, prsOf_filter, prsOf_length]
    exact fin
end
noncomputable def upd (f : Nat → Addr) (j : Nat) (z : Addr) : Nat → Addr := fun i => if i = j then z else f i
theorem LSt.tracked {H : Hp} {f : Nat → Addr} {v : LV} {xs : List AV} (h : LSt H f v xs) : ∀ i, i < 18 → ∃ o, H (f i) = some o := fun i hi => by
  match i, hi with
  | 0, _ => exact ⟨_, h.i.x⟩
  | 1, _ => exact ⟨_, h.i.d⟩
  | 2, _ => exact ⟨_, h.i.i⟩
  | 3, _ => exact ⟨_, h.u.x⟩
  | 4, _ => exact ⟨_, h.u.d⟩
  | 5, _ => exact ⟨_, h.u.k⟩
  | 6, _ => exact ⟨_, h.u.u⟩
  | 7, _ => exact ⟨_, h.u.t⟩
  | 8, _ => exact ⟨_, h.u.w⟩
  | 9, _ => exact ⟨_, h.m⟩
  | 10, _ => exact ⟨_, h.h⟩
  | 11, _ => exact ⟨_, h.c⟩
  | 12, _ => exact ⟨_, h.s⟩
  | 13, _ => exact ⟨_, h.w⟩
  | 14, _ => exact ⟨_, h.t⟩
  | 15, _ => exact ⟨_, h.l⟩
  | 16, _ => exact ⟨_, h.p⟩
  | 17, _ => exact ⟨_, h.q⟩
  | n + 18, hi => exact absurd hi (by omega)
theorem LSt.fresh {H : Hp} {f : Nat → Addr} {v : LV} {xs : List AV} (h : LSt H f v xs) {z : Addr} (hz : H z = none) : ∀ i, i < 18 → f i ≠ z := fun i hi e => by
  obtain ⟨o, ho⟩ := h.tracked i hi
  rw [e, hz] at ho; cases ho
theorem upd_inj {f : Nat → Addr} {j : Nat} {z : Addr} (h : ∀ i j, i < 18 → j < 18 → f i = f j → i = j) (n : ∀ i, i < 18 → f i ≠ z) : ∀ a b, a < 18 → b < 18 → upd f j z a = upd f j z b → a = b := fun a b ha hb e => by
  unfold upd at e
  split at e
  · rename_i q
    split at e
    · rename_i q'; rw [q, q']
    · exact absurd e.symm (n b hb)
  · split at e
    · exact absurd e (n a ha)
    · exact h a b ha hb e
theorem pairs_ones (l : List Int) : (l.map fun y => AV.tup [.int y, .int 1]) = pairsOfK (ones l) := by
  unfold pairsOfK ones
  rw [List.map_map]; rfl
noncomputable def c1vars (f : Nat → Addr) (v : LV) (rs a b : Int) (z : Addr) (kd fr : AV) : List (Str × AV) := ("later", AV.obj z) :: ("token", .bytes (tokOf a)) :: ("cid", .bytes (cidOf a)) :: ("before", .int b) :: ("at", .int a) :: ("kind", kd) :: ("frame", fr) :: rvars f v rs
section
variable {D : Wd} {c : Cx} {X : Int → St → Prop}
theorem brC1 (pf : PF D) {L : Addr} {room t : Nat} (i : In f227.1 227 L room c) (hr : 30 < room) {f : Nat → Addr} {v : LV} {xs : List AV} {H : Hp} {rs : Int} (hs : LSt H f v xs) (iv : Inv t v) (ht : t + 1 ≤ 20) (hn : v.n ≠ 0) {Q : AF → St → Prop}
    (h : ∀ (k : Nat) (b : Int) z H' kd fr, k < v.n → b ≤ k → LSt H' f v xs → H' z = some (.dict (ones v.has)) → (∀ i, i < 18 → f i ≠ z) →
      TF D c (execs ((ifB sC).drop 3) c.env) ⟨c1vars f v rs ((k : Int) + 1) b z kd fr, H'⟩ Q X) : TF D c (execs (ifB sC) c.env) ⟨rvars f v rs, H⟩ Q X := by
  have hrm := i.room
  have bl := iv.bl
  have ntt := iv.nt
  have ll := iv.lens
  have hlen : (framesOf 0 v.bs).length = v.n := by rw [framesOf_length, bl]
  change TF D c (execs [_, _, _, _, _, _, _, _] c.env) _ Q X
  walk_at "WW"
  refine B_len_list hs.s (by rw [hlen]; omega) ?_
  rw [hlen]
  refine O_mod (by omega) ?_
  have m0 : 0 ≤ rs.fmod v.n := Int.fmod_nonneg_of_pos _ (by omega)
  have m1 : rs.fmod v.n < v.n := Int.fmod_lt_of_pos _ (by omega)
  obtain ⟨k, hk⟩ : ∃ k : Nat, rs.fmod v.n = k := ⟨(rs.fmod v.n).toNat, by omega⟩
  rw [hk] at m0 m1 ⊢
  have hkn : k < v.n := by omega
  have hkb : v.bs[k]? = some (v.bs[k]'(by omega)) := List.getElem?_eq_getElem (by omega)
  generalize v.bs[k]'(by omega) = b at hkb
  have hb := iv.bb k b hkb
  refine O_item_list (fun _ _ => rfl) hs.s (by omega) (by omega) (by rw [Int.toNat_natCast]; exact framesOf_get 0 v.bs k b hkb) ?_
  rw [Nat.zero_add]
  walk_at "W"
  walk_at "W"
  walk_at "W"
  walk_at "W"
  walk_at "W"
  refine TA_tuple rfl rfl (TAs_cons (TA_name i.pur (by walk_at "sto") (TAs_cons (TA_name i.pur (by walk_at "sto") (TAs_cons (TA_name i.pur (by walk_at "sto") (TAs_cons (TA_name i.pur (by walk_at "sto") (TAs_cons (TA_name i.pur (by walk_at "sto") (TAs_nil ?_)))))))))))
  walk_at "W"
  walk_at "W"
  walk_at "W"
  have nd := iv.nd
  have ndh : v.has.Nodup := by
    rw [List.append_assoc] at nd
    exact (List.nodup_append.mp nd).1
  refine dict_copy pf i.pur hs.h (by rw [ones_length]; omega) (by rw [ones_keys]; exact ndh) (i.kd rfl) (i.kd rfl) (by rfl) (by rfl) (fun hq => ?_) fun z H1 fz b1 e1 => ?_
  · walk_at "W"
    exact hq
  repeat (first | refine h k b z H1 _ _ hkn hb (hs.nil b1) e1 (hs.fresh fz) | walk_at "W")
end
theorem LSt.hasTo {H : Hp} {f : Nat → Addr} {v : LV} {xs : List AV} {z : Addr} (h : LSt H f v xs) (hz : H z = some (.dict (ones v.has))) (n : ∀ i, i < 18 → f i ≠ z) : LSt H (upd f 10 z) v xs :=
  ⟨h.i, h.u, h.m, hz, h.c, h.s, h.w, h.t, h.l, h.p, h.q, h.pe, h.qe, upd_inj h.inj n⟩
section
variable {D : Wd} {c : Cx} {X : Int → St → Prop}
theorem brC_old (pf : PF D) {L : Addr} {room t : Nat} (i : In f227.1 227 L room c) (hr : 30 < room) {f : Nat → Addr} {v : LV} {xs : List AV} {H : Hp} {rs a b : Int} {z : Addr} {kd fr : AV} (hs : LSt H f v xs) (iv : Inv t v) (ht : t + 1 ≤ 20) (ha : 1 ≤ a ∧ a ≤ v.n) (hb : b ≤ a) (hz : H z = some (.dict (ones v.has))) (nz : ∀ i, i < 18 → f i ≠ z) (hold : a ∈ v.came) {Q : AF → St → Prop}
    (h : ∀ H' f' v' vs, LSt H' f' v' xs → Inv (t + 1) v' → Sub (cvars f' v') vs → f' 15 = f 15 → Q .next ⟨vs, H'⟩) : TF D c (execs ((ifB sC).drop 3) c.env) ⟨c1vars f v rs a b z kd fr, H⟩ Q X := by
  have hrm := i.room
  have ul := iv.ul
  have cl := iv.cl
  have ml := iv.ml
  have ntt := iv.nt
  have hc : v.came.contains a = true := by simpa using hold
  change TF D c (execs [_, _, _, _, _] c.env) _ Q X
  walk_at "WW"
  refine O_notin_ints hs.c ?_
  rw [hc]
  walk_at "WW"
  walk_at "F"
  walk_at "F"
  walk_at "WW"
  refine O_notin_ints hs.c ?_
  rw [hc]
  walk_at "WW"
  walk_at "F"
  walk_at "F"
  walk_at "WW"
  refine ⟨_, _, _, rfl, hs.u.x, hs.u.d, rfl, ?_⟩
  walk_at "WW"
  refine onnew_law pf (P := max v.prior b) hs.u iv rfl ha hb i.pur (by omega) (fun _ H1 b1 => ?_) (fun q => absurd hold q) (fun q => absurd hold q)
  have h1 := hs.nil b1
  walk_at "WW"
  refine O_notin_ints h1.c ?_
  rw [hc]
  walk_at "WW"
  walk_at "F"
  walk_at "WW"
  refine h _ (upd f 10 z) v _ (h1.hasTo (b1 _ _ (by simp) hz) nz) ⟨ht, by omega, iv.lim, iv.as0, iv.as1, iv.bl, iv.bb, iv.mb, iv.md, by omega, iv.cb, iv.cd, iv.c0, by omega, iv.pm, iv.hm, iv.wm, iv.ch, iv.cu, by omega, iv.nm⟩ ?_ rfl
  exact Sub.cons rfl (Sub.cons rfl (Sub.cons rfl (Sub.cons rfl (Sub.cons rfl (Sub.cons rfl (Sub.cons rfl (Sub.cons rfl (Sub.cons rfl (Sub.cons rfl (Sub.cons rfl (Sub.nil _)))))))))))
theorem brC_late (pf : PF D) {L : Addr} {room t : Nat} (i : In f227.1 227 L room c) (hr : 30 < room) {f : Nat → Addr} {v : LV} {xs : List AV} {H : Hp} {rs a b : Int} {z : Addr} {kd fr : AV} (hs : LSt H f v xs) (iv : Inv t v) (ht : t + 1 ≤ 20) (ha : 1 ≤ a ∧ a ≤ v.n) (hb : b ≤ a) (hz : H z = some (.dict (ones v.has))) (nz : ∀ i, i < 18 → f i ≠ z) (hnew : a ∉ v.came) (hlt : a < v.prior) {Q : AF → St → Prop}
    (h : ∀ H' f' v' vs, LSt H' f' v' xs → Inv (t + 1) v' → Sub (cvars f' v') vs → f' 15 = f 15 → Q .next ⟨vs, H'⟩) : TF D c (execs ((ifB sC).drop 3) c.env) ⟨c1vars f v rs a b z kd fr, H⟩ Q X := by
  have hrm := i.room
  have ul := iv.ul
  have cl := iv.cl
  have ml := iv.ml
  have ntt := iv.nt
  have ll := iv.lens
  have hc : v.came.contains a = false := by simpa using hnew
  have hd : decide (v.prior ≤ a) = false := decide_eq_false (by omega)
  change TF D c (execs [_, _, _, _, _] c.env) _ Q X
  walk_at "WW"
  refine O_notin_ints hs.c ?_
  rw [hc]
  walk_at "WW"
  walk_at "T"
  walk_at "WW"
  rw [hd]
  walk_at "F"
  walk_at "F"
  walk_at "WW"
  refine O_notin_ints hs.c ?_
  rw [hc]
  walk_at "WW"
  walk_at "T"
  walk_at "WW"
  rw [hd]
  walk_at "F"
  walk_at "F"
  walk_at "WW"
  refine ⟨_, _, _, rfl, hs.u.x, hs.u.d, rfl, ?_⟩
  walk_at "WW"
  refine onnew_law pf (P := max v.prior b) hs.u iv rfl ha hb i.pur (by omega) (fun q => absurd q hnew) (fun _ _ H1 b1 u1 => ?_) (fun _ q => absurd hlt q)
  have c1 := hs.keep b1 (by decide) rfl hs.c
  have w1 := hs.keep b1 (by decide) rfl hs.w
  have z1 : H1 z = _ := b1 _ _ (fun m => by
    obtain ⟨j, hj, e⟩ := List.mem_map.mp m
    exact nz j (by simp at hj; omega) e) hz
  walk_at "WW"
  refine O_notin_ints c1 ?_
  rw [hc]
  walk_at "WW"
  walk_at "T"
  walk_at "WW"
  refine ⟨_, _, rfl, c1, ?_⟩
  walk_at "WW"
  refine B_append i.pur c1 (by rw [List.length_map]; omega) ?_
  rw [show (v.came.map AV.int ++ [.int a]) = (v.came ++ [a]).map .int from by simp]
  have b2 : H.But (H1.set (f 11) (.list ((v.came ++ [a]).map .int))) ([4, 5, 6, 7, 8, 11].map f) := (b1.mono (by simp)).set (by simp)
  have n11 : ∀ j, j < 18 → (j == 11) = false → f j ≠ f 11 := fun j hj hn => hs.ne hj (by decide) hn
  have c2 : (H1.set (f 11) (.list ((v.came ++ [a]).map .int))) (f 11) = _ := Hp.set_eq
  have w2 := Hp.set_ne (o := .list ((v.came ++ [a]).map .int)) (n11 13 (by decide) rfl) w1
  have z2 := Hp.set_ne (o := .list ((v.came ++ [a]).map .int)) (nz 11 (by decide)).symm z1
  have u2 : Usr (H1.set (f 11) (.list ((v.came ++ [a]).map .int))) (uaOf f) _ := ⟨Hp.set_ne (n11 3 (by decide) rfl) u1.x, Hp.set_ne (n11 4 (by decide) rfl) u1.d, Hp.set_ne (n11 5 (by decide) rfl) u1.k, Hp.set_ne (n11 6 (by decide) rfl) u1.u, Hp.set_ne (n11 7 (by decide) rfl) u1.t, Hp.set_ne (n11 8 (by decide) rfl) u1.w, u1.kt, u1.uw⟩
  generalize H1.set (f 11) (.list ((v.came ++ [a]).map .int)) = H2 at b2 c2 w2 z2 u2 ⊢
  walk_at "WW"
  rw [show decide (a < v.prior) = true from decide_eq_true hlt]
  walk_at "T"
  walk_at "WW"
  refine ⟨_, _, rfl, w2, ?_⟩
  walk_at "WW"
  refine B_append i.pur w2 (by rw [List.length_map]; omega) ?_
  rw [show (v.word.map AV.int ++ [.int a]) = (v.word ++ [a]).map .int from by simp]
  have b3 : H.But (H2.set (f 13) (.list ((v.word ++ [a]).map .int))) ([4, 5, 6, 7, 8, 11, 13].map f) := (b2.mono (by simp)).set (by simp)
  have n13 : ∀ j, j < 18 → (j == 13) = false → f j ≠ f 13 := fun j hj hn => hs.ne hj (by decide) hn
  have c3 := Hp.set_ne (o := .list ((v.word ++ [a]).map .int)) (n13 11 (by decide) rfl) c2
  have w3 : (H2.set (f 13) (.list ((v.word ++ [a]).map .int))) (f 13) = _ := Hp.set_eq
  have z3 := Hp.set_ne (o := .list ((v.word ++ [a]).map .int)) (nz 13 (by decide)).symm z2
  have u3 : Usr (H2.set (f 13) (.list ((v.word ++ [a]).map .int))) (uaOf f) _ := ⟨Hp.set_ne (n13 3 (by decide) rfl) u2.x, Hp.set_ne (n13 4 (by decide) rfl) u2.d, Hp.set_ne (n13 5 (by decide) rfl) u2.k, Hp.set_ne (n13 6 (by decide) rfl) u2.u, Hp.set_ne (n13 7 (by decide) rfl) u2.t, Hp.set_ne (n13 8 (by decide) rfl) u2.w, u2.kt, u2.uw⟩
  generalize H2.set (f 13) (.list ((v.word ++ [a]).map .int)) = H3 at b3 c3 w3 z3 u3 ⊢
  walk_at "WW"
  refine h H3 (upd f 10 z) { v with came := v.came ++ [a], word := v.word ++ [a] } _ ⟨hs.iKeep b3 rfl, u3, hs.keep b3 (by decide) rfl hs.m, z3, c3, hs.keep b3 (by decide) rfl hs.s, w3, hs.keep b3 (by decide) rfl hs.t, hs.keep b3 (by decide) rfl hs.l, hs.keep b3 (by decide) rfl hs.p, hs.keep b3 (by decide) rfl hs.q, hs.pe, hs.qe, upd_inj hs.inj nz⟩ ?_ ?_ rfl
  · refine ⟨ht, by show v.n ≤ t + 1; omega, iv.lim, iv.as0, iv.as1, iv.bl, iv.bb, iv.mb, iv.md, by show v.mine.length ≤ t + 1 + 1; omega, fun x hx => ?_, ?_, List.mem_append_left _ iv.c0, ?_, ?_, iv.hm, fun x hx => ?_, iv.ch, iv.cu, by show v.used.length ≤ 25 * (t + 1) + 1; omega, fun x x0 xn xc => ?_⟩
    · have hx' : x ∈ v.came ++ [a] := hx
      rcases List.mem_append.mp hx' with hx' | hx'
      · exact iv.cb x hx'
      · rw [List.mem_singleton.mp hx']; show 0 ≤ a ∧ a ≤ (v.n : Int); omega
    · show (v.came ++ [a]).Nodup
      rw [List.nodup_append]
      refine ⟨iv.cd, by simp, fun x hx y hy => ?_⟩
      rw [List.mem_singleton.mp hy]
      exact fun q => hnew (q ▸ hx)
    · show (v.came ++ [a]).length ≤ t + 1 + 1
      rw [List.length_append]; simp only [List.length_singleton]; omega
    · show (v.came ++ [a]).Perm (v.has ++ (v.word ++ [a]) ++ v.tl)
      refine List.perm_iff_count.mpr fun x => ?_
      have := iv.pm.count_eq x
      simp only [List.count_append, List.count_cons, List.count_nil] at this ⊢
      omega
    · have hx' : x ∈ v.word ++ [a] := hx
      rcases List.mem_append.mp hx' with hx' | hx'
      · exact iv.wm x hx'
      · rw [List.mem_singleton.mp hx']; exact iv.nm a (by omega) ha.2 hnew
    · exact iv.nm x x0 xn fun q => xc (List.mem_append_left _ q)
  · exact Sub.cons rfl (Sub.cons rfl (Sub.cons rfl (Sub.cons rfl (Sub.cons rfl (Sub.cons rfl (Sub.cons rfl (Sub.cons rfl (Sub.cons rfl (Sub.cons rfl (Sub.cons rfl (Sub.nil _)))))))))))
end
theorem filter_contains {l ns : List Int} {P : Int} (hs : ∀ x ∈ ns, x ∈ l) : (ns.filter fun n => !((l.filter fun x => decide (P ≤ x)).contains n)) = ns.filter fun n => decide (n < P) := by
  refine List.filter_congr fun x hx => ?_
  have h1 := hs x hx
  by_cases q : P ≤ x
  · have : (l.filter fun x => decide (P ≤ x)).contains x = true := by simp [h1, q]
    rw [this]; simp [Int.not_lt.mpr q]
  · have : (l.filter fun x => decide (P ≤ x)).contains x = false := by simp [q]
    rw [this]; simp [Int.not_le.mp q]
theorem c_getD {l : List Int} {n : Int} : l.contains n = false ↔ n ∉ l := by simp
theorem c1vars_over (f : Nat → Addr) (v : LV) (rs a b : Int) (z z3 : Addr) (kd fr : AV) : Sub (c1vars f v rs a b z3 kd fr) (("later", .obj z3) :: c1vars f v rs a b z kd fr) := Sub.both (Sub.new (by kernel_rfl))
section
variable {D : Wd} {c : Cx} {X : Int → St → Prop}
/-- up to the test of the limit: later is made anew -/
theorem brC_new1 (pf : PF D) {L : Addr} {room t : Nat} (i : In f227.1 227 L room c) (hr : 30 < room) {f : Nat → Addr} {v : LV} {xs : List AV} {H : Hp} {rs a b P : Int} {z : Addr} {kd fr : AV} (hP : P = max v.prior b) (hs : LSt H f v xs) (iv : Inv t v) (ha : 1 ≤ a ∧ a ≤ v.n) (hz : H z = some (.dict (ones v.has))) (nz : ∀ i, i < 18 → f i ≠ z) (hnew : a ∉ v.came) (hge : ¬ a < v.prior) {Q : AF → St → Prop}
    (h : ∀ H' z', LSt H' f v xs → H' z' = some (.dict (ones ((v.has ++ [a]).filter fun x => decide (P ≤ x)))) → (∀ i, i < 18 → f i ≠ z') →
      TF D c (execs ((ifB sC).drop 4) c.env) ⟨c1vars f v rs a b z' kd fr, H'⟩ Q X) : TF D c (execs ((ifB sC).drop 3) c.env) ⟨c1vars f v rs a b z kd fr, H⟩ Q X := by
  have hrm := i.room
  have ul := iv.ul
  have cl := iv.cl
  have ml := iv.ml
  have ntt := iv.nt
  have ll := iv.lens
  have tt := iv.tt
  have nd := iv.nd
  have hc : v.came.contains a = false := by simpa using hnew
  have hd : decide (v.prior ≤ a) = true := decide_eq_true (by omega)
  have hah : a ∉ v.has := fun q => hnew (iv.pm.mem_iff.mpr (by rw [List.append_assoc]; exact List.mem_append_left _ q))
  have ndh : v.has.Nodup := by
    rw [List.append_assoc] at nd
    exact (List.nodup_append.mp nd).1
  have nda : (v.has ++ [a]).Nodup := by
    rw [List.nodup_append]
    refine ⟨ndh, by simp, fun x hx y hy => ?_⟩
    rw [List.mem_singleton.mp hy]
    exact fun q => hah (q ▸ hx)
  change TF D c (execs [_, _, _, _, _] c.env) _ Q X
  walk_at "WW"
  refine O_notin_ints hs.c ?_
  rw [hc]
  walk_at "WW"
  walk_at "T"
  walk_at "WW"
  rw [hd]
  walk_at "T"
  walk_at "WW"
  walk_at "T"
  walk_at "WW"
  refine O_setitem i.pur hz (by rw [ones_length]; omega) ?_
  rw [ones_put hah]
  have b1 : H.But (H.set z (.dict (ones (v.has ++ [a])))) [z] := (Hp.But.refl _ _).set (by simp)
  have zz : (H.set z (.dict (ones (v.has ++ [a])))) z = _ := Hp.set_eq
  have h1 : LSt (H.set z (.dict (ones (v.has ++ [a])))) f v xs := by
    have k : ∀ j o, j < 18 → H (f j) = some o → (H.set z (.dict (ones (v.has ++ [a])))) (f j) = some o := fun j o hj ho => Hp.set_ne (nz j hj) ho
    exact ⟨⟨k 0 _ (by decide) hs.i.x, k 1 _ (by decide) hs.i.d, k 2 _ (by decide) hs.i.i⟩, ⟨k 3 _ (by decide) hs.u.x, k 4 _ (by decide) hs.u.d, k 5 _ (by decide) hs.u.k, k 6 _ (by decide) hs.u.u, k 7 _ (by decide) hs.u.t, k 8 _ (by decide) hs.u.w, hs.u.kt, hs.u.uw⟩, k 9 _ (by decide) hs.m, k 10 _ (by decide) hs.h, k 11 _ (by decide) hs.c, k 12 _ (by decide) hs.s, k 13 _ (by decide) hs.w, k 14 _ (by decide) hs.t, k 15 _ (by decide) hs.l, k 16 _ (by decide) hs.p, k 17 _ (by decide) hs.q, hs.pe, hs.qe, hs.inj⟩
  generalize H.set z (.dict (ones (v.has ++ [a]))) = H1 at h1 zz ⊢
  walk_at "WW"
  refine TE_compN Int i rfl rfl (fun _ => rfl) rfl (fun p hp => by
    rcases List.mem_cons.mp hp with rfl | hp
    · exact mem_of_lookup rfl
    rcases List.mem_cons.mp hp with rfl | hp
    · exact mem_of_lookup rfl
    cases hp) (by simp) ?_
  walk_at "WW"
  refine ⟨v.has ++ [a], .int, fun y => .tup [.int y, .int 1], fun y => decide (P ≤ y), false, [("prior", .int v.prior), ("before", .int b)], .dict zz (by simp [ones]), (by rw [List.length_append]; simp only [List.length_singleton]; omega), ⟨⟨rfl, by kernel_rfl, rfl⟩, ⟨rfl, by kernel_rfl, rfl⟩, trivial⟩, fun c'' y ic hy => ⟨?_, fun hp => ?_⟩, fun z2 hz2 => ?_⟩
  · walk_at "WW"
    refine B_maxP ?_
    rw [ifmax, ← hP]
    walk_at "WW"
  · walk_at "WW"
  walk_at "WW"
  have lf : ((v.has ++ [a]).filter fun y => decide (P ≤ y)).length ≤ (v.has ++ [a]).length := List.length_filter_le _ _
  have la : (v.has ++ [a]).length = v.has.length + 1 := by simp
  refine B_dict (kvs := ones ((v.has ++ [a]).filter fun y => decide (P ≤ y))) (Hp.set_eq.trans (by rw [pairs_ones])) (by rw [ones_keys]; exact nda.filter _) (by rw [ones_length]; omega) fun z3 hz3 => ?_
  obtain ⟨_, hz30⟩ := Hp.none_of hz3
  have nz3 := h1.fresh hz30
  have h2 := h1.nil ((Hp.But.refl _ []).new hz2 (o := .list (((v.has ++ [a]).filter fun y => decide (P ≤ y)).map fun y => .tup [.int y, .int 1])))
  have h3 := h2.nil ((Hp.But.refl _ []).new hz3 (o := .dict (ones ((v.has ++ [a]).filter fun y => decide (P ≤ y)))))
  have g : TF D c (execs ((ifB sC).drop 4) c.env) ⟨("later", .obj z3) :: c1vars f v rs a b z kd fr, (H1.set z2 (.list (((v.has ++ [a]).filter fun y => decide (P ≤ y)).map fun y => .tup [.int y, .int 1]))).set z3 (.dict (ones ((v.has ++ [a]).filter fun y => decide (P ≤ y))))⟩ Q X :=
    T.sub (c1vars_over f v rs a b z z3 kd fr) (h _ z3 h3 Hp.set_eq nz3)
  repeat (first | exact g | walk_at "W")
end
noncomputable def Tabs (H : Hp) : Prop := (∃ ps, H 212 = some (.raw (tabObj ps))) ∧ ∃ ps, H 224 = some (.raw (tabObj ps))
theorem LSt.freshB {H H' : Hp} {f : Nat → Addr} {v : LV} {xs : List AV} {js : List Nat} (h : LSt H f v xs) (b : H.But H' (js.map f)) (hj : ∀ j ∈ js, j < 18 ∧ ∃ o, H' (f j) = some o) {z : Addr} (hz : H' z = none) : ∀ i, i < 18 → f i ≠ z := fun i hi e => by
  by_cases q : i ∈ js
  · obtain ⟨_, o, ho⟩ := hj i q
    rw [e, hz] at ho; cases ho
  · obtain ⟨o, ho⟩ := h.tracked i hi
    have := b _ _ (fun m => by
      obtain ⟨j, hm, e'⟩ := List.mem_map.mp m
      have := h.inj j i (hj j hm).1 hi e'
      exact q (this ▸ hm)) ho
    rw [e, hz] at this; cases this
section
variable {D : Wd} {c : Cx} {X : Int → St → Prop}
theorem brC_new2 (pf : PF D) (lf : LF D) {L : Addr} {room t : Nat} (i : In f227.1 227 L room c) (hr : 40 < room) {f : Nat → Addr} {v : LV} {xs : List AV} {H : Hp} {rs a b P : Int} {z : Addr} {kd fr : AV} (hP : P = max v.prior b) (hs : LSt H f v xs) (iv : Inv t v) (ht : t + 1 ≤ 20) (ha : 1 ≤ a ∧ a ≤ v.n) (hb : b ≤ a) (hz : H z = some (.dict (ones ((v.has ++ [a]).filter fun x => decide (P ≤ x))))) (nz : ∀ i, i < 18 → f i ≠ z) (hnew : a ∉ v.came) (hge : ¬ a < v.prior) {Q : AF → St → Prop}
    (h9 : ∀ σ', Tabs σ'.hp → Q (.ret (.bool true)) σ')
    (h : ¬ v.limit < (((v.has ++ [a]).filter fun x => decide (P ≤ x)).length : Int) → TF D c (execs ((ifB sC).drop 5) c.env) ⟨c1vars f v rs a b z kd fr, H⟩ Q X) : TF D c (execs ((ifB sC).drop 4) c.env) ⟨c1vars f v rs a b z kd fr, H⟩ Q X := by
  have hrm := i.room
  have ll := iv.lens
  have tt := iv.tt
  have hc : v.came.contains a = false := by simpa using hnew
  have hd : decide (v.prior ≤ a) = true := decide_eq_true (by omega)
  have lf1 : ((v.has ++ [a]).filter fun x => decide (P ≤ x)).length ≤ (v.has ++ [a]).length := List.length_filter_le _ _
  have la : (v.has ++ [a]).length = v.has.length + 1 := by simp
  change TF D c (execs [_, _, _, _] c.env) _ Q X
  walk_at "WW"
  refine O_notin_ints hs.c ?_
  rw [hc]
  walk_at "WW"
  walk_at "T"
  walk_at "WW"
  rw [hd]
  walk_at "T"
  walk_at "WW"
  refine B_len_dict hz (by rw [ones_length]; omega) ?_
  rw [ones_length]
  walk_at "WW"
  refine ⟨fun hq => ?_, fun hq => ?_⟩
  · have hq' := of_decide_eq_true hq
    walk_at "W"
    walk_at "T"
    walk_at "W"
    walk_at "W"
    walk_at "W"
    have hq17 : H 224 = some (.raw (tabObj #[])) := hs.qe ▸ hs.q
    refine TE_law_code pf i (by omega) _ [("user", .obj (f 3)), ("at", .int a), ("before", .int b), ("cid", .bytes (cidOf a)), ("token", .bytes (tokOf a))] hq17 rfl lf.c226 (ln := 0) trivial (Nat.zero_le _) rfl lf.b224 rfl (fun _ _ _ _ => rfl) rfl rfl rfl (by decide +kernel) (by kernel_rfl) ⟨⟨rfl, rfl⟩, ⟨rfl, rfl⟩, ⟨rfl, rfl⟩, ⟨rfl, rfl⟩, ⟨rfl, rfl⟩, trivial⟩ ⟨⟨rfl, rfl, rfl, rfl, rfl⟩, ⟨rfl, rfl, rfl, rfl, rfl⟩, ⟨rfl, rfl, rfl, rfl, rfl⟩, ⟨rfl, rfl, rfl, rfl, rfl⟩, ⟨rfl, rfl, rfl, rfl, rfl⟩, trivial⟩ (i.kd rfl) fun D' pf' c2 il ps H1 b1 t1 n1 => ?_
    have b1' : H.But H1 ([17].map f) := by
      rw [show [17].map f = [224] from by rw [List.map_singleton, hs.qe]]
      exact b1
    have u1 := hs.uKeep b1' rfl
    walk_at "WW"
    refine ⟨_, _, _, rfl, u1.x, u1.d, rfl, ?_⟩
    walk_at "WW"
    refine onnew_law pf' (P := P) u1 iv hP ha hb il.pur (by rw [il.room]; omega) (fun q => absurd q hnew) (fun _ q => absurd q hge) (fun _ _ H2 cur' used' ns b2 srt u2 m1 m2 m3 => ⟨fun _ H3 b3 => ?_, fun q => absurd hq' q⟩)
    walk_at "WW"
    refine h9 _ ⟨⟨#[], b3 _ _ (by simp) (b2 _ _ (hs.pe ▸ hs.notin (i := 16) (js := [4, 5, 6, 7, 8]) (by decide) rfl) (b1 _ _ (by decide) (hs.pe ▸ hs.p)))⟩, ps, b3 _ _ (by simp) (b2 _ _ (hs.qe ▸ hs.notin (i := 17) (js := [4, 5, 6, 7, 8]) (by decide) rfl) t1)⟩
  · have hq' := of_decide_eq_false hq
    walk_at "F"
    repeat (first | exact h hq' | walk_at "W")
end
theorem inv_new {t : Nat} {v : LV} {a b P cur' : Int} {used' ns : List Int} (iv : Inv t v) (ht : t + 1 ≤ 20) (ha : 1 ≤ a ∧ a ≤ v.n) (hb : b ≤ a) (hnew : a ∉ v.came) (srt : Srt ns (v.has ++ [a])) (m1 : cur' ∈ used') (m2 : cur' ∈ (v.has ++ [a]).filter fun x => decide (P ≤ x)) (m3 : used'.length ≤ v.used.length + v.has.length + 1) :
    Inv (t + 1) { v with came := v.came ++ [a], prior := P, has := (v.has ++ [a]).filter (fun x => decide (P ≤ x)), word := v.word ++ ns.filter (fun n => decide (n < P)), cur := cur', used := used' } := by
  have ul := iv.ul
  have cl := iv.cl
  have ml := iv.ml
  have ntt := iv.nt
  have ll := iv.lens
  have tt := iv.tt
  have am : a ∈ v.mine := iv.nm a (by omega) ha.2 hnew
  have hm : ∀ x ∈ v.has ++ [a], x ∈ v.mine := fun x hx => by
    rcases List.mem_append.mp hx with hx | hx
    · exact iv.hm x hx
    · rw [List.mem_singleton.mp hx]; exact am
  refine ⟨ht, by show v.n ≤ t + 1; omega, iv.lim, iv.as0, iv.as1, iv.bl, iv.bb, iv.mb, iv.md, by show v.mine.length ≤ t + 1 + 1; omega, fun x hx => ?_, ?_, List.mem_append_left _ iv.c0, ?_, ?_, fun x hx => hm x (List.mem_filter.mp hx).1, fun x hx => ?_, m2, m1, by show used'.length ≤ 25 * (t + 1) + 1; omega, fun x x0 xn xc => ?_⟩
  · have hx' : x ∈ v.came ++ [a] := hx
    rcases List.mem_append.mp hx' with hx' | hx'
    · exact iv.cb x hx'
    · rw [List.mem_singleton.mp hx']; show 0 ≤ a ∧ a ≤ (v.n : Int); omega
  · show (v.came ++ [a]).Nodup
    rw [List.nodup_append]
    refine ⟨iv.cd, by simp, fun x hx y hy => ?_⟩
    rw [List.mem_singleton.mp hy]
    exact fun q => hnew (q ▸ hx)
  · show (v.came ++ [a]).length ≤ t + 1 + 1
    rw [List.length_append]; simp only [List.length_singleton]; omega
  · show (v.came ++ [a]).Perm ((v.has ++ [a]).filter (fun x => decide (P ≤ x)) ++ (v.word ++ ns.filter (fun n => decide (n < P))) ++ v.tl)
    refine List.perm_iff_count.mpr fun x => ?_
    have h1 := iv.pm.count_eq x
    have h2 := (srt.1.filter fun n => decide (n < P)).count_eq x
    have h3 := (List.filter_append_perm (fun x => decide (P ≤ x)) (v.has ++ [a])).count_eq x
    rw [List.filter_congr (l := v.has ++ [a]) (p := fun x => !decide (P ≤ x)) (q := fun n => decide (n < P)) (fun y _ => by rw [Bool.eq_iff_iff]; simp)] at h3
    rw [List.count_append] at h3
    rw [List.count_append, List.count_append, List.count_append, List.count_append, h2]
    rw [List.count_append, List.count_append] at h1
    rw [List.count_append] at h3
    omega
  · have hx' : x ∈ v.word ++ ns.filter (fun n => decide (n < P)) := hx
    rcases List.mem_append.mp hx' with hx' | hx'
    · exact iv.wm x hx'
    · exact hm x (srt.1.mem_iff.mp (List.mem_filter.mp hx').1)
  · exact iv.nm x x0 xn fun q => xc (List.mem_append_left _ q)
section
variable {D : Wd} {c : Cx} {X : Int → St → Prop}
theorem brC_new3 (pf : PF D) {L : Addr} {room t : Nat} (i : In f227.1 227 L room c) (hr : 40 < room) {f : Nat → Addr} {v : LV} {xs : List AV} {H : Hp} {rs a b P : Int} {z : Addr} {kd fr : AV} (hP : P = max v.prior b) (hs : LSt H f v xs) (iv : Inv t v) (ht : t + 1 ≤ 20) (ha : 1 ≤ a ∧ a ≤ v.n) (hb : b ≤ a) (hz : H z = some (.dict (ones ((v.has ++ [a]).filter fun x => decide (P ≤ x))))) (nz : ∀ i, i < 18 → f i ≠ z) (hnew : a ∉ v.came) (hge : ¬ a < v.prior) {Q : AF → St → Prop}
    (hq' : ¬ v.limit < (((v.has ++ [a]).filter fun x => decide (P ≤ x)).length : Int))
    (h : ∀ H' f' v' vs, LSt H' f' v' xs → Inv (t + 1) v' → Sub (cvars f' v') vs → f' 15 = f 15 → Q .next ⟨vs, H'⟩) : TF D c (execs ((ifB sC).drop 5) c.env) ⟨c1vars f v rs a b z kd fr, H⟩ Q X := by
  have hrm := i.room
  have ul := iv.ul
  have cl := iv.cl
  have ml := iv.ml
  have ntt := iv.nt
  have ll := iv.lens
  have tt := iv.tt
  have hc : v.came.contains a = false := by simpa using hnew
  change TF D c (execs [_, _, _] c.env) _ Q X
  walk_at "WW"
  refine ⟨_, _, _, rfl, hs.u.x, hs.u.d, rfl, ?_⟩
  walk_at "WW"
  refine onnew_law pf (P := P) hs.u iv hP ha hb i.pur (by omega) (fun q => absurd q hnew) (fun _ q => absurd q hge) (fun _ _ H1 cur' used' ns b1 srt u1 m1 m2 m3 => ⟨fun q => absurd q hq', fun _ => ?_⟩)
  have c1 := hs.keep b1 (by decide) rfl hs.c
  have w1 := hs.keep b1 (by decide) rfl hs.w
  have hh1 := hs.keep b1 (by decide) rfl hs.h
  have z1 : H1 z = _ := b1 _ _ (fun m => by
    obtain ⟨j, hj, e⟩ := List.mem_map.mp m
    exact nz j (by simp at hj; omega) e) hz
  walk_at "WW"
  refine O_notin_ints c1 ?_
  rw [hc]
  walk_at "WW"
  walk_at "T"
  walk_at "WW"
  refine ⟨_, _, rfl, c1, ?_⟩
  walk_at "WW"
  refine B_append i.pur c1 (by rw [List.length_map]; omega) ?_
  rw [show (v.came.map AV.int ++ [.int a]) = (v.came ++ [a]).map .int from by simp]
  have b2 : H.But (H1.set (f 11) (.list ((v.came ++ [a]).map .int))) ([4, 5, 6, 7, 8, 11].map f) := (b1.mono (by simp)).set (by simp)
  have n11 : ∀ j, j < 18 → (j == 11) = false → f j ≠ f 11 := fun j hj hn => hs.ne hj (by decide) hn
  have c2 : (H1.set (f 11) (.list ((v.came ++ [a]).map .int))) (f 11) = _ := Hp.set_eq
  have z2 := Hp.set_ne (o := .list ((v.came ++ [a]).map .int)) (nz 11 (by decide)).symm z1
  have u2 : Usr (H1.set (f 11) (.list ((v.came ++ [a]).map .int))) (uaOf f) _ := ⟨Hp.set_ne (n11 3 (by decide) rfl) u1.x, Hp.set_ne (n11 4 (by decide) rfl) u1.d, Hp.set_ne (n11 5 (by decide) rfl) u1.k, Hp.set_ne (n11 6 (by decide) rfl) u1.u, Hp.set_ne (n11 7 (by decide) rfl) u1.t, Hp.set_ne (n11 8 (by decide) rfl) u1.w, u1.kt, u1.uw⟩
  generalize H1.set (f 11) (.list ((v.came ++ [a]).map .int)) = H2 at b2 c2 z2 u2 ⊢
  walk_at "WW"
  rw [show decide (a < v.prior) = false from decide_eq_false hge]
  walk_at "F"
  walk_at "W"
  walk_at "W"
  walk_at "W"
  walk_at "W"
  have w2 := hs.keep b2 (by decide) rfl hs.w
  have hh2 := hs.keep b2 (by decide) rfl hs.h
  refine TE_compN Int i rfl rfl (fun _ => rfl) rfl (fun p hp => by rcases List.mem_cons.mp hp with rfl | hp; exact mem_of_lookup rfl; cases hp) (List.pairwise_singleton ..) ?_
  walk_at "WW"
  refine B_list_dict i.pur hh2 (by rw [ones_length]; omega) fun z3 hz3 => ?_
  rw [ones_keys]
  have e3 : (H2.set z3 (.list (v.has.map .int))) z3 = some (.list (v.has.map .int)) := Hp.set_eq
  have x3 : H2.But (H2.set z3 (.list (v.has.map .int))) [] := (Hp.But.refl _ _).new hz3
  try dsimp only at hz3 ⊢
  generalize H2.set z3 (.list (v.has.map .int)) = H3 at e3 x3 ⊢
  walk_at "WW"
  intro z4 hz4
  have e4 : (H3.set z4 (.list [.int a])) z4 = some (.list [.int a]) := Hp.set_eq
  have e34 := Hp.set_new (o := .list [.int a]) hz4 e3
  have x4 := x3.new (o := .list [.int a]) hz4
  try dsimp only at hz4 e34 x4 ⊢
  generalize H3.set z4 (.list [.int a]) = H4 at e4 e34 x4 ⊢
  refine O_addl i.pur e34 e4 (by rw [List.length_map]; simp only [List.length_singleton]; omega) fun z5 hz5 => ?_
  rw [show (v.has.map AV.int ++ [.int a]) = (v.has ++ [a]).map .int from by simp]
  have x5 := x4.new (o := .list ((v.has ++ [a]).map .int)) hz5
  have e5 : (H4.set z5 (.list ((v.has ++ [a]).map .int))) z5 = some (.list ((v.has ++ [a]).map .int)) := Hp.set_eq
  try dsimp only at hz5 x5 ⊢
  generalize H4.set z5 (.list ((v.has ++ [a]).map .int)) = H5 at e5 x5 ⊢
  walk_at "WW"
  refine B_sorted_list i.pur e5 (by rw [List.length_append]; simp only [List.length_singleton]; omega) fun z6 ns2 hz6 srt2 => ?_
  have en : ns2 = ns := srt2.uniq srt
  subst en
  have x6 := x5.new (o := .list (ns2.map .int)) hz6
  have e6 : (H5.set z6 (.list (ns2.map .int))) z6 = some (.list (ns2.map .int)) := Hp.set_eq
  try dsimp only at hz6 x6 ⊢
  generalize H5.set z6 (.list (ns2.map .int)) = H6 at e6 x6 ⊢
  have z6' := x6 _ _ (by simp) z2
  have w6 := x6 _ _ (by simp) w2
  have lns : ns2.length = v.has.length + 1 := by
    rw [srt.1.length_eq, List.length_append]; rfl
  refine ⟨ns2, .int, .int, fun n => !(((v.has ++ [a]).filter fun x => decide (P ≤ x)).contains n), true, [("later", .obj z)], .list e6, (by omega), ⟨⟨rfl, by kernel_rfl, rfl⟩, trivial⟩, fun c'' y ic hy => ⟨?_, fun hp => ?_⟩, fun z7 hz7 => ?_⟩
  · walk_at "WW"
    refine O_notin_dict z6' ?_
    rw [ones_lookup]
    exact ⟨_, rfl, rfl⟩
  · walk_at "WW"
  rw [filter_contains (fun x hx => srt.1.mem_iff.mp hx)]
  have lf2 : (ns2.filter fun n => decide (n < P)).length ≤ ns2.length := List.length_filter_le _ _
  have x7 := x6.new (o := .list ((ns2.filter fun n => decide (n < P)).map .int)) hz7
  have w7 := Hp.set_new (o := .list ((ns2.filter fun n => decide (n < P)).map .int)) hz7 w6
  have e7 : (H6.set z7 (.list ((ns2.filter fun n => decide (n < P)).map .int))) z7 = some (.list ((ns2.filter fun n => decide (n < P)).map .int)) := Hp.set_eq
  try dsimp only at hz7 x7 w7 ⊢
  generalize H6.set z7 (.list ((ns2.filter fun n => decide (n < P)).map .int)) = H7 at e7 x7 w7 ⊢
  refine O_addl i.pur w7 e7 (by rw [List.length_map, List.length_map]; omega) fun z8 hz8 => ?_
  rw [← List.map_append]
  have b7 : H.But H7 ([4, 5, 6, 7, 8, 11].map f) := b2.trans (x7.mono (fun _ h => nomatch h))
  have u7 := u2.but x7 (by simp)
  have c7 := x7 _ _ (by simp) c2
  have z7' := x7 _ _ (by simp) z2
  have fr8 := hs.freshB b7 (fun j hj => by
    simp only [List.mem_cons, List.not_mem_nil, or_false] at hj
    rcases hj with rfl | rfl | rfl | rfl | rfl | rfl
    · exact ⟨by decide, _, u7.d⟩
    · exact ⟨by decide, _, u7.k⟩
    · exact ⟨by decide, _, u7.u⟩
    · exact ⟨by decide, _, u7.t⟩
    · exact ⟨by decide, _, u7.w⟩
    · exact ⟨by decide, _, c7⟩) hz8
  have x8 := x7.new (o := .list ((v.word ++ ns2.filter fun n => decide (n < P)).map .int)) hz8
  have b8 := b7.new (o := .list ((v.word ++ ns2.filter fun n => decide (n < P)).map .int)) hz8
  have e8 : (H7.set z8 (.list ((v.word ++ ns2.filter fun n => decide (n < P)).map .int))) z8 = some (.list ((v.word ++ ns2.filter fun n => decide (n < P)).map .int)) := Hp.set_eq
  have nz8 : z ≠ z8 := Hp.ne_new z7' hz8
  try dsimp only at hz8 x8 b8 ⊢
  generalize H7.set z8 (.list ((v.word ++ ns2.filter fun n => decide (n < P)).map .int)) = H8 at e8 x8 b8 ⊢
  walk_at "WW"
  refine B_max i.pur ?_
  rw [ifmax, ← hP]
  walk_at "WW"
  refine h H8 (upd (upd f 10 z) 13 z8) { v with came := v.came ++ [a], prior := P, has := (v.has ++ [a]).filter (fun x => decide (P ≤ x)), word := v.word ++ ns2.filter (fun n => decide (n < P)), cur := cur', used := used' } _ ⟨hs.iKeep b8 rfl, u2.but x8 (by simp), hs.keep b8 (by decide) rfl hs.m, x8 _ _ (by simp) z2, x8 _ _ (by simp) c2, hs.keep b8 (by decide) rfl hs.s, e8, hs.keep b8 (by decide) rfl hs.t, hs.keep b8 (by decide) rfl hs.l, hs.keep b8 (by decide) rfl hs.p, hs.keep b8 (by decide) rfl hs.q, hs.pe, hs.qe, upd_inj (upd_inj hs.inj nz) fun j hj => by
    unfold upd
    split
    · exact nz8
    · exact fr8 j hj⟩ ?_ ?_ rfl
  · exact inv_new iv ht ha hb hnew srt m1 m2 m3
  · exact Sub.cons rfl (Sub.cons rfl (Sub.cons rfl (Sub.cons rfl (Sub.cons rfl (Sub.cons rfl (Sub.cons rfl (Sub.cons rfl (Sub.cons rfl (Sub.cons rfl (Sub.cons rfl (Sub.nil _)))))))))))
end
section
variable {D : Wd} {c : Cx} {σ : St} {X : Int → St → Prop} {fd : FuncData} {f L : Addr} {room : Nat} {scope : Scope} {cl : List (Str × Addr)}
theorem TE_compP {s : Str} {Q : AV → St → Prop} {iter : Expr} {x y : Str} {xp yp tp ep pos : Pos} {k : Nat} (i : In fd f L room c) (ok : compOk fd scope = true) (hx : (relN scope fd).lookup x = some .local) (hy : (relN scope fd).lookup y = some .local) (hv : plainVarC fd scope y = true) (hs : ∀ x, foldedSetIterable iter c.env x = pure x) (hcl : closureFor scope (callEnvC fd L f) = pure cl)
    (hsub : ∀ p ∈ cl, p ∈ cellsFrom (L + 1) fd.scope.names []) (hap : (cl.map (·.2)).Pairwise (· ≠ ·))
    (h : TE D c (eval iter c.env) σ (fun a σ₁ => ∃ (l : Addr) (ns : List Int), a = .obj l ∧ σ₁.hp l = some (.list (ns.map fun n : Int => .tup [.str s, .int n])) ∧ ns.length ≤ 1000 ∧ ∀ z, σ₁.hp z = none → Q (.obj z) { σ₁ with hp := σ₁.hp.set z (.list (ns.map .int)) }) X) :
    TE D c (eval (.ListComp (.Name y ep) [⟨.Tuple [.Name x xp, .Name y yp] k tp, iter, [], 0⟩] scope pos) c.env) σ Q X := by
  obtain ⟨k1, k2, k3⟩ := compOk_of ok
  refine TE_comp (ι := Int) (caps := []) hs (by rw [i.env]; exact hcl) k1 k3 goes_tuple (h.mono (fun a σ₁ q => ?_) fun _ _ q => q)
  obtain ⟨l, ns, rfl, hl, hz, hq⟩ := q
  refine ⟨ns, fun n => .tup [.str s, .int n], .int, fun _ => true, fun n => [(y, .int n), (x, .str s)], true, .list hl, hz, (fun q => nomatch q), ⟨capOk_of i ok hsub hap trivial, fun C n _ => ⟨lays_pair ?_ ?_ ?_ rfl, fun z av e => ?_⟩, fun C n _ => ⟨?_, fun _ => ?_⟩⟩, fun z hz => ?_⟩
  · show (relabel scope c.env).names.lookup x = _
    rw [rel_eq i]; exact hx
  · show (relabel scope c.env).names.lookup y = _
    rw [rel_eq i]; exact hy
  · show (scope.kind == .class || (scope.kind == .module && _)) = false
    rw [k1]; rfl
  · rw [rel_eq i]
    rw [lookup_cons'] at e
    split at e
    · rename_i q; rw [q]; exact hy
    · rw [lookup_cons'] at e
      split at e
      · rename_i q; rw [q]; exact hx
      · cases e
  · exact T_tests0 (c := compCx c scope cl C) rfl
  · refine TE_vC (c := compCx c scope cl C) (inC i C) hv (av := .int n) ?_ rfl
    show List.lookup y ((y, AV.int n) :: _) = _
    rw [List.lookup_cons, beq_self_eq_true]
  · rw [List.filter_eq_self.mpr (fun _ _ => rfl)]
    exact hq z hz
end
theorem idsOf_without (l : List Int) (k : Int) : ((idsOf l).filter fun p => decide (p.1 ≠ k)) = idsOf (l.filter fun x => decide (x ≠ k)) := by
  unfold idsOf
  rw [List.filter_map]; rfl
noncomputable def forT : Stmt → Expr
  | .For t _ _ _ _ => t
  | _ => .Constant .none 0 ⟨0, 0, 0, 0⟩
noncomputable def sE : Stmt := nth (ifE sD) 3
theorem Inv.up {t : Nat} {v : LV} (iv : Inv t v) (ht : t + 1 ≤ 20) : Inv (t + 1) v := by
  have ul := iv.ul
  have cl := iv.cl
  have ml := iv.ml
  have ntt := iv.nt
  exact ⟨ht, by omega, iv.lim, iv.as0, iv.as1, iv.bl, iv.bb, iv.mb, iv.md, by omega, iv.cb, iv.cd, iv.c0, by omega, iv.pm, iv.hm, iv.wm, iv.ch, iv.cu, by omega, iv.nm⟩
/-- one word told -/
noncomputable def LV.tell (v : LV) (n : Int) : LV := { v with tl := v.tl ++ [n], mine := v.mine.filter fun x => decide (x ≠ n) }
theorem Inv.tell {t : Nat} {v : LV} {n : Int} {r : List Int} (iv : Inv t { v with word := n :: r }) : Inv t { v.tell n with word := r } := by
  have nd : (v.has ++ n :: r ++ v.tl).Nodup := iv.nd
  have pm : v.came.Perm (v.has ++ n :: r ++ v.tl) := iv.pm
  have wm : ∀ x ∈ n :: r, x ∈ v.mine := iv.wm
  have ml : v.mine.length ≤ t + 1 := iv.ml
  have nh : ∀ x ∈ v.has, x ≠ n := fun x hx q => by
    subst q
    rw [List.append_assoc, List.nodup_append] at nd
    exact nd.2.2 x hx x (by simp) rfl
  have nr : ∀ x ∈ r, x ≠ n := fun x hx q => by
    subst q
    rw [List.append_assoc, List.nodup_append] at nd
    have := nd.2.1
    rw [List.cons_append, List.nodup_cons] at this
    exact this.1 (by simp [hx])
  have lf : (v.mine.filter fun x => decide (x ≠ n)).length ≤ v.mine.length := List.length_filter_le _ _
  have fm : ∀ x, x ∈ v.mine → x ≠ n → x ∈ v.mine.filter fun x => decide (x ≠ n) := fun x hx q => List.mem_filter.mpr ⟨hx, by simpa using q⟩
  refine ⟨iv.tt, iv.nt, iv.lim, iv.as0, iv.as1, iv.bl, iv.bb, fun x hx => iv.mb x (List.mem_filter.mp hx).1, (show v.mine.Nodup from iv.md).filter _, by show (v.mine.filter fun x => decide (x ≠ n)).length ≤ t + 1; omega, iv.cb, iv.cd, iv.c0, iv.cl, ?_, fun x hx => fm x (iv.hm x hx) (nh x hx), fun x hx => fm x (wm x (List.mem_cons_of_mem _ hx)) (nr x hx), iv.ch, iv.cu, iv.ul, fun x x0 xn xc => fm x (iv.nm x x0 xn xc) fun q => xc ?_⟩
  · refine pm.trans ?_
    show (v.has ++ n :: r ++ v.tl).Perm (v.has ++ r ++ (v.tl ++ [n]))
    refine List.perm_iff_count.mpr fun x => ?_
    simp only [List.count_append, List.count_cons, List.count_nil]
    omega
  · rw [q]
    exact pm.mem_iff.mpr (by simp)
section
variable {D : Wd} {c : Cx} {X : Int → St → Prop}
theorem brE_loop (pf : PF D) {L : Addr} {room t : Nat} (i : In f227.1 227 L room c) (hr : 30 < room) {f : Nat → Addr} {xs all : List AV} {zf : Addr} (nz : ∀ j, j < 18 → f j ≠ zf) {Q : AF → St → Prop}
    (h : ∀ H' v' vs, LSt H' f v' xs → Inv t v' → Sub (cvars f v') vs → Q .next ⟨vs, H'⟩) : ∀ (r : List Int) (v : LV) (H : Hp) (vs : List (Str × AV)), LSt H f { v with word := [] } xs → Inv t { v with word := r } → Sub (cvars f v) vs → H zf = some (.list all) →
      LoopL D c (forT sE) (forB sE) zf all (r.map fun n => .tup [.str retName, .int n]) ⟨vs, H⟩ Q X := by
  have hrm := i.room
  intro r
  induction r with
  | nil =>
    intro v H vs hs iv sub hz
    exact LoopL_nil (h H _ vs hs iv sub)
  | cons n r ih =>
    intro v H vs hs iv sub hz
    have nd : (v.has ++ n :: r ++ v.tl).Nodup := iv.nd
    have pm : v.came.Perm (v.has ++ n :: r ++ v.tl) := iv.pm
    have ll := iv.lens
    have tt := iv.tt
    have ml : v.mine.length ≤ t + 1 := iv.ml
    have ntt : v.n ≤ t := iv.nt
    have hch : v.cur ∈ v.has := iv.ch
    have hnm : n ∈ v.mine := iv.wm n (List.mem_cons_self ..)
    have lw : v.has.length + (n :: r).length + v.tl.length ≤ t + 1 := ll
    have ltl : v.tl.length ≤ 1000 := by omega
    have lhs : v.has.length ≤ 1000 := by omega
    have ncur : n ≠ v.cur := fun q => by
      subst q
      rw [List.append_assoc, List.nodup_append] at nd
      exact nd.2.2 _ hch v.cur (by simp) rfl
    have ntl : v.tl.contains n = false := by
      rw [List.nodup_append] at nd
      simpa using fun q => nd.2.2 n (by simp) n q rfl
    have hnc : n ∈ v.came := pm.mem_iff.mpr (by simp)
    have hcc : v.cur ∈ v.came := pm.mem_iff.mpr (by simp [hch])
    have bn : 0 ≤ n ∧ n ≤ v.n := iv.cb n hnc
    have bc : 0 ≤ v.cur ∧ v.cur ≤ v.n := iv.cb _ hcc
    change LoopL D c (.Tuple [_, _] _ _) [_, _, _, _] zf all (.tup [.str retName, .int n] :: _) ⟨vs, H⟩ Q X
    refine LoopL_cons ?_
    refine TO1.sub sub ?_
    refine TA_tuple rfl rfl (TAs_cons (TA_name i.pur (by walk_at "sto") (TAs_cons (TA_name i.pur (by walk_at "sto") (TAs_nil ?_)))))
    walk_at "WW"
    refine O_in_ints hs.t ?_
    rw [show ({ v with word := [] } : LV).tl = v.tl from rfl, ntl]
    walk_at "WW"
    walk_at "F"
    walk_at "WW"
    refine ⟨_, _, rfl, hs.t, ?_⟩
    walk_at "WW"
    refine B_append i.pur hs.t (by rw [List.length_map]; exact ltl) ?_
    rw [show (({ v with word := [] } : LV).tl.map AV.int ++ [.int n]) = (v.tl ++ [n]).map .int from by simp]
    have b1 : H.But (H.set (f 14) (.list ((v.tl ++ [n]).map .int))) ([14].map f) := (Hp.But.refl _ _).set (by simp)
    have t1 : (H.set (f 14) (.list ((v.tl ++ [n]).map .int))) (f 14) = _ := Hp.set_eq
    generalize H.set (f 14) (.list ((v.tl ++ [n]).map .int)) = H1 at b1 t1 ⊢
    have i1 := hs.iKeep b1 rfl
    have u1 := hs.uKeep b1 rfl
    walk_at "WW"
    refine ⟨_, _, _, rfl, i1.x, i1.d, rfl, ?_⟩
    walk_at "WW"
    refine ⟨_, _, _, rfl, u1.x, u1.d, rfl, ?_⟩
    walk_at "WW"
    refine present_ok pf (a := uaOf f) (v := ({ v with word := [] } : LV).uv) u1 (p := prOf v.cur) (prsOf_lookup hch) i.pur (by omega) fun H2 b2 => ?_
    have i2 := i1.but b2 (by simp)
    walk_at "WW"
    refine on_retire_ok pf (a := iaOf f) (n := n) (b := cidOf v.cur) i2 (by show (idsOf v.mine).length ≤ 500; unfold idsOf; rw [List.length_map]; omega) i.pur (by omega) (fun q => ?_) (fun _ _ _ H3 b3 i3 => ?_)
    · exfalso
      rcases q with q | q | q
      · have q' : (v.n : Int) + 1 ≤ n := q
        omega
      · cases q
      · have q' : (idsOf v.mine).lookup n = some (cidOf v.cur) := q
        rw [idsOf_lookup hnm] at q'
        exact ncur (cidOf_inj ⟨bn.1, by omega⟩ ⟨bc.1, by omega⟩ (Option.some.inj q'))
    have b3' : H2.But H3 ([2].map f) := b3
    have bt : H.But H3 ([14, 2].map f) := (b1.mono (by simp)).trans ((b2.mono (fun _ h => nomatch h)).trans (b3'.mono (by simp)))
    have m3 := hs.keep bt (by decide) rfl hs.m
    have ne2 : f 14 ≠ f 2 := hs.ne (by decide) (by decide) rfl
    have t3 : H3 (f 14) = some (.list ((v.tl ++ [n]).map .int)) := b3' _ _ (by simpa using ne2) (b2 _ _ (by simp) t1)
    walk_at "WW"
    refine ⟨_, _, rfl, m3, ?_⟩
    walk_at "WW"
    refine B_pop i.pur m3 (by rw [ones_length]; show v.mine.length ≤ 1000; omega) (ones_get hnm) ?_
    rw [ones_del]
    have b4 : H.But (H3.set (f 9) (.dict (ones (v.mine.filter fun x => decide (x ≠ n))))) ([14, 2, 9].map f) := (bt.mono (by simp)).set (by simp)
    have m4 : (H3.set (f 9) (.dict (ones (v.mine.filter fun x => decide (x ≠ n))))) (f 9) = _ := Hp.set_eq
    have t4 := Hp.set_ne (o := .dict (ones (v.mine.filter fun x => decide (x ≠ n)))) (hs.ne (i := 14) (j := 9) (by decide) (by decide) rfl) t3
    have i4 : Iss (H3.set (f 9) (.dict (ones (v.mine.filter fun x => decide (x ≠ n))))) (iaOf f) _ := ⟨Hp.set_ne (hs.ne (i := 0) (j := 9) (by decide) (by decide) rfl) i3.x, Hp.set_ne (hs.ne (i := 1) (j := 9) (by decide) (by decide) rfl) i3.d, Hp.set_ne (hs.ne (i := 2) (j := 9) (by decide) (by decide) rfl) i3.i⟩
    have z4 : (H3.set (f 9) (.dict (ones (v.mine.filter fun x => decide (x ≠ n))))) zf = some (.list all) := b4 _ _ (fun m => by
      obtain ⟨j, hj, e⟩ := List.mem_map.mp m
      exact nz j (by simp at hj; omega) e) hz
    generalize H3.set (f 9) (.dict (ones (v.mine.filter fun x => decide (x ≠ n)))) = H4 at b4 m4 t4 i4 z4 ⊢
    walk_at "WW"
    refine ⟨z4, ih (v.tell n) H4 _ ⟨?_, hs.uKeep b4 rfl, m4, hs.keep b4 (by decide) rfl hs.h, hs.keep b4 (by decide) rfl hs.c, hs.keep b4 (by decide) rfl hs.s, hs.keep b4 (by decide) rfl hs.w, t4, hs.keep b4 (by decide) rfl hs.l, hs.keep b4 (by decide) rfl hs.p, hs.keep b4 (by decide) rfl hs.q, hs.pe, hs.qe, hs.inj⟩ iv.tell ?_ z4⟩
    · have e : ({ v.tell n with word := [] } : LV).iv = { ({ v with word := [] } : LV).iv with issued := ({ v with word := [] } : LV).iv.issued.filter fun p => decide (p.1 ≠ n) } := by
        show ({ limit := v.limit, next := (v.n : Int) + 1, prior := v.asked, issued := idsOf (v.mine.filter fun x => decide (x ≠ n)), empty := false } : IV) = { limit := v.limit, next := (v.n : Int) + 1, prior := v.asked, issued := (idsOf v.mine).filter fun p => decide (p.1 ≠ n), empty := false }
        rw [idsOf_without]
      rw [e]
      exact i4
    · exact Sub.cons rfl (Sub.cons rfl (Sub.cons rfl (Sub.cons rfl (Sub.cons rfl (Sub.cons rfl (Sub.cons rfl (Sub.cons rfl (Sub.cons rfl (Sub.cons rfl (Sub.cons rfl (Sub.nil _)))))))))))
end
section
variable {D : Wd} {c : Cx} {X : Int → St → Prop}
theorem brE_ok (pf : PF D) {L : Addr} {room t : Nat} (i : In f227.1 227 L room c) (hr : 30 < room) {f : Nat → Addr} {v : LV} {xs : List AV} {H : Hp} {rs : Int} (hs : LSt H f v xs) (iv : Inv t v) (ht : t + 1 ≤ 20) {Q : AF → St → Prop}
    (h : ∀ H' f' v' vs, LSt H' f' v' xs → Inv (t + 1) v' → Sub (cvars f' v') vs → f' 15 = f 15 → Q .next ⟨vs, H'⟩) : TF D c (execs (ifE sD) c.env) ⟨rvars f v rs, H⟩ Q X := by
  have hrm := i.room
  have ll := iv.lens
  have tt := iv.tt
  obtain ⟨o, fr⟩ := i.frames
  change TF D c (execs [_, _, _, _] c.env) _ Q X
  walk_at "WW"
  refine ⟨_, _, _, rfl, hs.u.x, hs.u.d, rfl, ?_⟩
  walk_at "WW"
  refine frames_ok pf (a := uaOf f) (v := v.uv) hs.u (by show v.word.length ≤ 1000; omega) i.pur (by omega) fun zf w1 H1 fz fw1 nzw b1 e1 u1 => ?_
  have b1' : H.But H1 ([4].map f) := b1
  have nzf := hs.fresh fz
  have w1' := hs.keep b1' (by decide) rfl hs.w
  walk_at "WW"
  refine TE_compP (s := retName) i rfl rfl rfl rfl (fun _ => rfl) rfl (fun p hp => nomatch hp) .nil ?_
  walk_at "WW"
  refine ⟨zf, v.word, rfl, e1, by omega, fun z2 hz2 => ?_⟩
  walk_at "WW"
  refine B_sorted_list i.pur Hp.set_eq (by omega) fun z3 ns3 hz3 s3 => ?_
  walk_at "WW"
  refine B_sorted_list i.pur (Hp.set_new hz3 (Hp.set_new hz2 w1')) (by omega) fun z4 ns4 hz4 s4 => ?_
  refine O_ne_ints (Hp.set_new hz4 Hp.set_eq) Hp.set_eq ?_
  have q1 : ns3 = ns4 := s3.uniq s4
  have x4 := (((Hp.But.refl H1 []).new hz2 (o := .list (v.word.map .int))).new hz3 (o := .list (ns3.map .int))).new hz4 (o := .list (ns4.map .int))
  rw [show (!decide (ns3 = ns4)) = false from by simp [q1]]
  try dsimp only at x4 ⊢
  generalize ((H1.set z2 (.list (v.word.map .int))).set z3 (.list (ns3.map .int))).set z4 (.list (ns4.map .int)) = H2 at x4 ⊢
  have u2 := u1.but x4 (by simp)
  have e2 := x4 _ _ (by simp) e1
  have b2 : H.But H2 ([4].map f) := b1'.trans (x4.mono (fun _ h => nomatch h))
  walk_at "WW"
  walk_at "F"
  walk_at "WW"
  refine ⟨_, _, _, rfl, u2.x, u2.d, rfl, ?_⟩
  walk_at "WW"
  refine frames_ok pf (a := { uaOf f with w := w1 }) (v := { v.uv with word := [] }) u2 (by show 0 ≤ 1000; omega) i.pur (by omega) fun zg w2 H3 _ fw2 _ b3 e3 u3 => ?_
  have b3' : H2.But H3 ([4].map f) := b3
  have b4 : H.But H3 ([4].map f) := b2.trans b3'
  have e4 : H3 zf = some (.list (v.word.map fun n => .tup [.str retName, .int n])) := b3' _ _ (fun m => by
    obtain ⟨j, hj, e⟩ := List.mem_map.mp m
    exact nzf j (by simp at hj; omega) e) e2
  have frw : ∀ j, j < 18 → f j ≠ w2 := hs.freshB b2 (fun j hj => by
    simp only [List.mem_cons, List.not_mem_nil, or_false] at hj
    subst hj
    exact ⟨by decide, _, u2.d⟩) fw2
  have zfw : zf ≠ w2 := Hp.ne_new e2 fw2
  walk_at "WW"
  intro z5 hz5
  refine O_ne_empty (Hp.set_new hz5 e3) Hp.set_eq ?_
  have x5 := (Hp.But.refl H3 []).new hz5 (o := .list [])
  try dsimp only at x5 ⊢
  generalize H3.set z5 (.list []) = H4 at x5 ⊢
  rw [show (!(([] : List Int).map fun n => AV.tup [.str retName, .int n]).isEmpty) = false from rfl]
  walk_at "WW"
  walk_at "F"
  walk_at "W"
  walk_at "F"
  walk_at "WW"
  intro z6 hz6
  have x6 := x5.new (o := .list []) hz6
  have e6 : (H4.set z6 (.list [])) z6 = some (.list []) := Hp.set_eq
  have b5 : H.But H4 ([4].map f) := b4.trans (x5.mono (fun _ h => nomatch h))
  have u4 := u3.but x5 (by simp)
  have fr6 : ∀ j, j < 18 → f j ≠ z6 := hs.freshB b5 (fun j hj => by
    simp only [List.mem_cons, List.not_mem_nil, or_false] at hj
    subst hj
    exact ⟨by decide, _, u4.d⟩) hz6
  have nw6 : w2 ≠ z6 := Hp.ne_new u4.w hz6
  have b6 := b5.new (o := .list []) hz6
  have u6 := u3.but x6 (by simp)
  have e7 := x6 _ _ (by simp) e4
  have nzf6 : zf ≠ z6 := Hp.ne_new (x5 _ _ (by simp) e4) hz6
  try dsimp only at b6 u6 e6 e7 ⊢
  generalize H4.set z6 (.list []) = H5 at b6 u6 e6 e7 ⊢
  walk_at "W"
  walk_at "W"
  walk_at "W"
  refine TF_for_list (fun _ => rfl) goes_tuple i.pur fr i.frame ?_
  walk_at "WW"
  refine ⟨zf, _, rfl, e7, ?_⟩
  have inj : ∀ a b, a < 18 → b < 18 → upd (upd f 8 w2) 13 z6 a = upd (upd f 8 w2) 13 z6 b → a = b := upd_inj (upd_inj hs.inj frw) fun j hj => by
    unfold upd
    split
    · exact nw6
    · exact fr6 j hj
  have hs' : LSt H5 (upd (upd f 8 w2) 13 z6) { v with word := [] } xs := ⟨hs.iKeep b6 rfl, u6, hs.keep b6 (by decide) rfl hs.m, hs.keep b6 (by decide) rfl hs.h, hs.keep b6 (by decide) rfl hs.c, hs.keep b6 (by decide) rfl hs.s, e6, hs.keep b6 (by decide) rfl hs.t, hs.keep b6 (by decide) rfl hs.l, hs.keep b6 (by decide) rfl hs.p, hs.keep b6 (by decide) rfl hs.q, hs.pe, hs.qe, inj⟩
  refine brE_loop pf i hr (f := upd (upd f 8 w2) 13 z6) (t := t) (fun j hj => ?_) (fun H' v' vs a1 a2 a3 => ?_) v.word v H5 _ hs' iv ?_ e7
  · unfold upd
    split
    · exact nzf6.symm
    · split
      · exact zfw.symm
      · exact nzf j hj
  · walk_at "WW"
    exact h H' _ v' vs a1 (a2.up ht) a3 rfl
  · exact Sub.cons rfl (Sub.cons rfl (Sub.cons rfl (Sub.cons rfl (Sub.cons rfl (Sub.cons rfl (Sub.cons rfl (Sub.cons rfl (Sub.cons rfl (Sub.cons rfl (Sub.cons rfl (Sub.nil _)))))))))))
end
section
variable {D : Wd} {c : Cx} {X : Int → St → Prop}
theorem TF_thenDo {st : Stmt} {σ : St} {Q : AF → St → Prop} (h : TF D c (exec st c.env) σ Q X) : TF D c (exec st c.env) σ (thenDo D c [] Q X) X :=
  T.mono h (fun fl σ' q => by
    cases fl with
    | next => exact TF_nil q
    | brk => exact q
    | cont => exact q
    | ret v => exact q) fun _ _ q => q
theorem brC_ok (pf : PF D) (lf : LF D) {L : Addr} {room t : Nat} (i : In f227.1 227 L room c) (hr : 40 < room) {f : Nat → Addr} {v : LV} {xs : List AV} {H : Hp} {rs : Int} (hs : LSt H f v xs) (iv : Inv t v) (ht : t + 1 ≤ 20) (hn : v.n ≠ 0) {Q : AF → St → Prop}
    (h9 : ∀ σ', Tabs σ'.hp → Q (.ret (.bool true)) σ')
    (h : ∀ H' f' v' vs, LSt H' f' v' xs → Inv (t + 1) v' → Sub (cvars f' v') vs → f' 15 = f 15 → Q .next ⟨vs, H'⟩) : TF D c (execs (ifB sC) c.env) ⟨rvars f v rs, H⟩ Q X := by
  refine brC1 pf i (by omega) hs iv ht hn fun k b z H1 kd fr hk hb h1 hz nz => ?_
  have ha : 1 ≤ (k : Int) + 1 ∧ (k : Int) + 1 ≤ v.n := ⟨by omega, by omega⟩
  have hb' : b ≤ (k : Int) + 1 := by omega
  generalize (k : Int) + 1 = a at ha hb' ⊢
  by_cases hold : a ∈ v.came
  · exact brC_old pf i (by omega) h1 iv ht ha hb' hz nz hold h
  by_cases hlt : a < v.prior
  · exact brC_late pf i (by omega) h1 iv ht ha hb' hz nz hold hlt h
  refine brC_new1 pf i (by omega) (P := max v.prior b) rfl h1 iv ha hz nz hold hlt fun H2 z2 h2 hz2 nz2 => ?_
  refine brC_new2 pf lf i hr rfl h2 iv ht ha hb' hz2 nz2 hold hlt h9 fun hq => ?_
  exact brC_new3 pf i hr rfl h2 iv ht ha hb' hz2 nz2 hold hlt hq h
theorem chain_ok (pf : PF D) (lf : LF D) {L : Addr} {room t : Nat} (i : In f227.1 227 L room c) (hr : 40 < room) {f : Nat → Addr} {v : LV} {xs : List AV} {H : Hp} {rs fm : Int} {vs : List (Str × AV)} (hs : LSt H f v xs) (iv : Inv t v) (ht : t + 1 ≤ 20) (sub : Sub (("form", .int fm) :: rvars f v rs) vs) {Q : AF → St → Prop}
    (h9 : ∀ σ', Tabs σ'.hp → Q (.ret (.bool true)) σ')
    (h : ∀ H' f' v' vs, LSt H' f' v' xs → Inv (t + 1) v' → Sub (cvars f' v') vs → f' 15 = f 15 → Q .next ⟨vs, H'⟩) : TF D c (exec sA c.env) ⟨vs, H⟩ Q X := by
  have hlen : (framesOf 0 v.bs).length = v.n := by rw [framesOf_length, iv.bl]
  have s2 : Sub (rvars f v rs) (("form", .int fm) :: rvars f v rs) := Sub.new (by kernel_rfl)
  have gA : ∀ H, LSt H f v xs → TF D c (execs (ifB sA) c.env) ⟨("form", .int fm) :: rvars f v rs, H⟩ Q X := fun H hs => T.sub s2 (brA_ok pf i (by omega) hs iv ht fun H' v' vs a b d => h H' f v' vs a b d rfl)
  have gB : ∀ H, LSt H f v xs → TF D c (execs (ifB sB) c.env) ⟨("form", .int fm) :: rvars f v rs, H⟩ Q X := fun H hs => T.sub s2 (brB_ok pf i (by omega) hs iv ht fun H' v' vs a b d => h H' f v' vs a b d rfl)
  have gD : ∀ H, LSt H f v xs → TF D c (execs (ifB sD) c.env) ⟨("form", .int fm) :: rvars f v rs, H⟩ Q X := fun H hs => T.sub s2 (brD_ok pf i (by omega) hs iv ht fun H' v' vs a b d => h H' f v' vs a b d rfl)
  have gE : ∀ H, LSt H f v xs → TF D c (execs (ifE sD) c.env) ⟨("form", .int fm) :: rvars f v rs, H⟩ Q X := fun H hs => T.sub s2 (brE_ok pf i (by omega) hs iv ht h)
  have gD' : ∀ H, LSt H f v xs → TF D c (execs [sD] c.env) ⟨("form", .int fm) :: rvars f v rs, H⟩ Q X := by
    intro H hs
    refine TF_cons (TF_thenDo ?_)
    change TF D c (exec (.If _ (ifB sD) (ifE sD) _) c.env) _ Q X
    refine TF_if ?_
    walk_at "WW"
    exact ⟨fun _ => gD H hs, fun _ => gE H hs⟩
  have gC' : ∀ H, LSt H f v xs → TF D c (execs [sC] c.env) ⟨("form", .int fm) :: rvars f v rs, H⟩ Q X := by
    intro H hs
    refine TF_cons (TF_thenDo ?_)
    change TF D c (exec (.If _ (ifB sC) [sD] _) c.env) _ Q X
    refine TF_if ?_
    walk_at "WW"
    refine ⟨fun _ => ?_, fun _ => ⟨fun q => (nomatch q), fun _ => gD' H hs⟩⟩
    walk_at "WW"
    intro z hz
    refine O_ne_empty (Hp.set_new hz hs.s) Hp.set_eq ?_
    have hs' := hs.nil ((Hp.But.refl H []).new hz (o := .list []))
    refine ⟨_, rfl, fun hb => TB_and_nil ⟨fun _ => ?_, fun q => nomatch q⟩, fun _ => ⟨fun q => (nomatch q), fun _ => gD' _ hs'⟩⟩
    refine T.sub s2 (brC_ok pf lf i hr hs' iv ht (fun hn => ?_) h9 h)
    rw [List.length_eq_zero_iff.mp (hlen.trans hn)] at hb
    cases hb
  have gB' : ∀ H, LSt H f v xs → TF D c (execs [sB] c.env) ⟨("form", .int fm) :: rvars f v rs, H⟩ Q X := by
    intro H hs
    refine TF_cons (TF_thenDo ?_)
    change TF D c (exec (.If _ (ifB sB) [sC] _) c.env) _ Q X
    refine TF_if ?_
    walk_at "WW"
    exact ⟨fun _ => gB H hs, fun _ => gC' H hs⟩
  refine T.sub sub ?_
  change TF D c (exec (.If _ (ifB sA) [sB] _) c.env) _ Q X
  refine TF_if ?_
  walk_at "WW"
  refine ⟨fun _ => ⟨fun _ => gA H hs, fun q => nomatch q⟩, fun _ => ?_⟩
  walk_at "WW"
  refine ⟨fun _ => ⟨fun _ => gA H hs, fun q => nomatch q⟩, fun _ => ?_⟩
  walk_at "WW"
  exact ⟨fun q => (nomatch q), fun _ => gB' H hs⟩
end
section
variable {D : Wd} {c : Cx} {X : Int → St → Prop}
theorem LSt.stands (pf : PF D) {t : Nat} {H : Hp} {f : Nat → Addr} {v : LV} {xs : List AV} {vs : List (Str × AV)} {Q : AV → St → Prop} (hs : LSt H f v xs) (iv : Inv t v) (hpu : c.pur = false) (hr : 9 < c.room)
    (h : ∀ H', LSt H' f v xs → Q (.bool true) ⟨vs, H'⟩) : TO D c VR [.obj (f 0), .obj (f 3), .obj (f 9), .obj (f 10), .int v.asked] (fun vs => call (.ref 222) vs) ⟨vs, H⟩ Q X := by
  have ntt := iv.nt
  have tt := iv.tt
  have ll := iv.lens
  have ml := iv.ml
  refine stands_ok pf (σ := ⟨vs, H⟩) (ai := iaOf f) (au := uaOf f) (vi := v.iv) (vu := v.uv) (mine := v.mine) (has := v.has) (asked := v.asked) (p := prOf v.cur) hs.i hs.u hs.m hs.h (hs.ne (i := 9) (j := 2) (by decide) (by decide) rfl) (hs.ne (i := 9) (j := 5) (by decide) (by decide) rfl) (hs.ne (i := 9) (j := 7) (by decide) (by decide) rfl) (hs.ne (i := 9) (j := 10) (by decide) (by decide) rfl) rfl (prsOf_keys _) (fun n hn => ?_) iv.md (by omega) (by omega) (prsOf_lookup iv.ch) rfl (iv.hm _ iv.ch) iv.ch rfl hpu hr fun H' b => h H' (hs.nil b)
  have := iv.mb n hn
  omega
theorem turn_ok (pf : PF D) (lf : LF D) {L : Addr} {room t : Nat} (i : In f227.1 227 L room c) (hr : 40 < room) {f : Nat → Addr} {v : LV} {xs : List AV} {H : Hp} {m : Int} {vs : List (Str × AV)} (hs : LSt H f v xs) (iv : Inv t v) (ht : t + 1 ≤ 20) (sub : Sub (cvars f v) vs) {Q : AF → St → Prop}
    (h9 : ∀ σ', Tabs σ'.hp → Q (.ret (.bool true)) σ')
    (h : ∀ H' f' v' vs, LSt H' f' v' xs → Inv (t + 1) v' → Sub (cvars f' v') vs → f' 15 = f 15 → Q .next ⟨vs, H'⟩) : TF D c (execs lb c.env) ⟨("number", .int m) :: vs, H⟩ Q X := by
  have hrm := i.room
  refine T.sub (Sub.both sub) ?_
  change TF D c (execs [_, sA, _] c.env) _ Q X
  walk_at "W"
  refine TF_assignSwap (names := ["form", "rest"]) rfl (by rw [i.env]; rfl) ?_
  walk_at "WW"
  refine O_mod (by omega) ?_
  walk_at "WW"
  refine O_div (by omega) rfl ?_
  walk_at "WW"
  refine ⟨rfl, TAs_cons (TO1_bind i.pur (by walk_at "sto") (TAs_cons (TO1_bind i.pur (by walk_at "sto") (TAs_nil ?_))))⟩
  dsimp only [St.put]
  refine TF_cons ?_
  refine chain_ok pf lf i hr hs iv ht (fm := m.fmod 6) (rs := m.fdiv 6) ?_ h9 fun H1 f1 v1 vs1 h1 iv1 sub1 hf => ?_
  · exact Sub.both (Sub.both (Sub.new (by kernel_rfl)))
  walk_at "W"
  refine T.sub sub1 ?_
  walk_at "WW"
  refine LSt.stands pf h1 iv1 i.pur (by omega) fun H2 h2 => ⟨_, rfl, fun q => (nomatch q), fun _ => TF_nil (TF_nil ?_)⟩
  exact h H2 f1 v1 _ h2 iv1 (Sub.refl _) hf
/-- the loop, whole -/
theorem loop_ok (pf : PF D) (lf : LF D) {L : Addr} {room : Nat} (i : In f227.1 227 L room c) (hr : 40 < room) {xs : List AV} {l : Addr} {p : Pos} {Q : AF → St → Prop}
    (h9 : ∀ σ', Tabs σ'.hp → Q (.ret (.bool true)) σ')
    (h : ∀ H' t' f' v' vs, LSt H' f' v' xs → Inv t' v' → Sub (cvars f' v') vs → Q .next ⟨vs, H'⟩) : ∀ (r : List Int) (t : Nat) (f : Nat → Addr) (v : LV) (H : Hp) (vs : List (Str × AV)), LSt H f v xs → Inv t v → t + r.length ≤ 20 → Sub (cvars f v) vs → f 15 = l →
      LoopL D c (.Name "number" p) lb l xs (r.map .int) ⟨vs, H⟩ Q X := by
  intro r
  induction r with
  | nil => exact fun t f v H vs hs iv _ sub _ => LoopL_nil (h H t f v vs hs iv sub)
  | cons m r ih =>
    intro t f v H vs hs iv ht sub hl
    rw [List.length_cons] at ht
    refine LoopL_cons ?_
    refine TA_name i.pur (by walk_at "sto") ?_
    refine turn_ok pf lf i hr hs iv (by omega) sub h9 fun H1 f1 v1 vs1 h1 iv1 sub1 hf => ?_
    exact ⟨hl ▸ hf ▸ h1.l, ih (t + 1) f1 v1 H1 vs1 h1 iv1 (by omega) sub1 (hf.trans hl)⟩
end
/-- addresses told apart, all in use -/
structure TL (H : Hp) (l : List Addr) : Prop where
  nd : l.Nodup
  tr : ∀ a ∈ l, ∃ o, H a = some o
theorem TL.nil (H : Hp) : TL H [] := ⟨.nil, fun _ h => nomatch h⟩
theorem TL.but {H H' : Hp} {l : List Addr} (x : TL H l) (b : H.But H' []) : TL H' l := ⟨x.nd, fun a ha => by
  obtain ⟨o, ho⟩ := x.tr a ha
  exact ⟨o, b _ _ (by simp) ho⟩⟩
theorem TL.cons {H H' : Hp} {l : List Addr} {z : Addr} {o : AO} (x : TL H l) (hz : H' z = some o) (b : H.But H' []) (n : z ∉ l) : TL H' (z :: l) := ⟨List.nodup_cons.mpr ⟨n, x.nd⟩, fun a ha => by
  rcases List.mem_cons.mp ha with rfl | ha
  · exact ⟨o, hz⟩
  · exact (x.but b).tr a ha⟩
theorem TL.notin {H : Hp} {l : List Addr} (x : TL H l) {z : Addr} (hz : H z = none) : z ∉ l := fun m => by
  obtain ⟨o, ho⟩ := x.tr z m
  rw [hz] at ho; cases ho
theorem TL.new {H : Hp} {l : List Addr} (x : TL H l) {z : Addr} (hz : H z = none) (o : AO) : TL (H.set z o) (z :: l) := x.cons Hp.set_eq ((Hp.But.refl _ _).new hz) (x.notin hz)
section
variable {D : Wd} {c : Cx} {X : Int → St → Prop}
noncomputable def st5 : { s : Stmt // b227.1.drop 5 = [s] } := ⟨_, rfl⟩
theorem end_ok {b5 : List Stmt} (h5 : b227.1.drop 5 = b5) (pf : PF D) (lf : LF D) {L : Addr} {room t : Nat} (i : In f227.1 227 L room c) (hr : 40 < room) {f : Nat → Addr} {v : LV} {xs : List AV} {H : Hp} {vs : List (Str × AV)} (hs : LSt H f v xs) (iv : Inv t v) (sub : Sub (cvars f v) vs) {Q : AF → St → Prop}
    (h9 : ∀ σ', Tabs σ'.hp → Q (.ret (.bool true)) σ') : TF D c (execs b5 c.env) ⟨vs, H⟩ Q X := by
  have hrm := i.room
  have ntt := iv.nt
  have tt := iv.tt
  have ll := iv.lens
  have ml := iv.ml
  have nd := iv.nd
  have ndh : v.has.Nodup := by
    rw [List.append_assoc] at nd
    exact (List.nodup_append.mp nd).1
  refine T.sub sub ?_
  rw [← h5, st5.2]
  unfold st5
  dsimp only
  walk_at "WW"
  refine wrong_ok pf lf (ai := iaOf f) (au := uaOf f) (vi := v.iv) (vu := v.uv) (p := prOf v.cur) hs.i hs.u (hs.pe ▸ hs.p) (hs.qe ▸ hs.q) (by show ((idsOf v.mine).map (·.1)).Nodup; rw [idsOf_keys]; exact iv.md) (by show ((prsOf v.has).map (·.1)).Nodup; rw [prsOf_keys]; exact ndh) (by show ((prsOf v.came).map (·.1)).Nodup; rw [prsOf_keys]; exact iv.cd)
    (by show (idsOf v.mine).length < 64; unfold idsOf; rw [List.length_map]; omega) (by show (prsOf v.has).length ≤ 500; rw [prsOf_length]; omega) (fun q => ?_) (by show (prsOf v.came).lookup 0 = _; rw [prsOf_lookup iv.c0]; rfl) (prsOf_none fun q => by have := (iv.cb _ q).2; omega) (prsOf_lookup iv.ch) i.pur (by omega) fun H' ps e1 e2 => h9 _ ⟨⟨_, e1⟩, _, e2⟩
  have q' : idsOf v.mine = [] := q
  have hm := iv.hm _ iv.ch
  rw [List.map_eq_nil_iff.mp q'] at hm
  cases hm
end
section
variable {D : Wd} {c : Cx} {X : Int → St → Prop}
noncomputable def someOf (ns : List Int) : List Int := ((ns.take 16).map fun n => (if n < 0 then -n else n).fmod 1009) ++ [(ns.length : Int) + 1, 0, 3, 2]
noncomputable def st0 : { q : Stmt × Stmt // b227.1 = q.1 :: q.2 :: b227.1.drop 2 } := ⟨(_, _), rfl⟩
/-- the first two statements -/
theorem head1_ok {b0 b2 : List Stmt} (h0 : b227.1 = b0) (h2 : b227.1.drop 2 = b2) (pf : PF D) {L : Addr} {room : Nat} (i : In f227.1 227 L room c) (hr : 40 < room) {a : Addr} {vs : List Value} {ns : List Int} (ha : D.base.IsList a (List.toArray vs)) (hi : IntsAre vs ns) (hz : ns.length ≤ 63) {H : Hp} {Q : AF → St → Prop}
    (h : ∀ z H' lim, 2 ≤ lim ∧ lim ≤ 4 → H.But H' [] → H' z = some (.list ((someOf ns).map .int)) → H z = none → TF D c (execs b2 c.env) ⟨[("limit", .int lim), ("some", .obj z)], H'⟩ Q X) :
    TF D c (execs b0 c.env) ⟨[("script", .stat (.ref a))], H⟩ Q X := by
  have hrm := i.room
  rw [← h0, st0.2]
  unfold st0
  dsimp only
  rw [h2]
  clear h0 h2
  walk_at "W"
  walk_at "W"
  walk_at "W"
  refine TE_compN Int i rfl rfl (fun _ => rfl) rfl (fun p hp => nomatch hp) .nil ?_
  refine TE_uptoS (fun _ _ => rfl) ?_
  walk_at "WW"
  refine ⟨a, vs, ns, rfl, ha, hi, by omega, fun z1 hz1 => ?_⟩
  have lt : (ns.take 16).length ≤ 16 := List.length_take_le _ _
  refine ⟨ns.take 16, .int, fun n => .int ((if n < 0 then -n else n).fmod 1009), fun _ => true, true, [], .list Hp.set_eq, by omega, trivial, fun c'' y ic hy => ⟨?_, fun hp => ?_⟩, fun z2 hz2 => ?_⟩
  · walk_at "WW"
  · walk_at "WW"
    refine B_abs ?_
    walk_at "WW"
    exact O_mod (by omega) rfl
  rw [List.filter_eq_self.mpr (fun _ _ => rfl)]
  walk_at "WW"
  refine B_lenS ha hi (by omega) ?_
  walk_at "WW"
  intro z3 hz3
  refine O_addl i.pur (Hp.set_new hz3 Hp.set_eq) Hp.set_eq (by rw [List.length_map]; simp only [List.length_cons, List.length_nil]; omega) fun z4 hz4 => ?_
  rw [show ((ns.take 16).map fun n => AV.int ((if n < 0 then -n else n).fmod 1009)) ++ [AV.int ((ns.length : Int) + 1), .int 0, .int 3, .int 2] = (someOf ns).map .int from by
    unfold someOf
    rw [List.map_append, List.map_map]
    rfl]
  have b4 := (((((Hp.But.refl H []).new hz1 (o := .list ((ns.take 16).map .int))).new hz2 (o := .list ((ns.take 16).map fun n => AV.int ((if n < 0 then -n else n).fmod 1009)))).new hz3 (o := .list [AV.int ((ns.length : Int) + 1), .int 0, .int 3, .int 2])).new hz4 (o := .list ((someOf ns).map .int)))
  have e4 : (((( H.set z1 (.list ((ns.take 16).map .int))).set z2 (.list ((ns.take 16).map fun n => AV.int ((if n < 0 then -n else n).fmod 1009)))).set z3 (.list [AV.int ((ns.length : Int) + 1), .int 0, .int 3, .int 2])).set z4 (.list ((someOf ns).map .int))) z4 = _ := Hp.set_eq
  have f4 : H z4 = none := (Hp.none_of (Hp.none_of (Hp.none_of hz4).2).2).2
  dsimp only
  generalize (((( H.set z1 (.list ((ns.take 16).map .int))).set z2 (.list ((ns.take 16).map fun n => AV.int ((if n < 0 then -n else n).fmod 1009)))).set z3 (.list [AV.int ((ns.length : Int) + 1), .int 0, .int 3, .int 2])).set z4 (.list ((someOf ns).map .int))) = H4 at b4 e4 ⊢
  obtain ⟨x, hx⟩ : ∃ x, (someOf ns)[0]? = some x := by
    have : 0 < (someOf ns).length := by unfold someOf; simp only [List.length_append, List.length_map, List.length_cons, List.length_nil]; omega
    exact ⟨_, List.getElem?_eq_getElem this⟩
  walk_at "WW"
  refine O_item_list (x := .int x) (fun _ _ => rfl) e4 (by omega) (by omega) (by rw [List.getElem?_map]; exact congrArg (Option.map AV.int) hx) ?_
  walk_at "WW"
  refine O_mod (by omega) ?_
  have m0 : 0 ≤ x.fmod 3 := Int.fmod_nonneg_of_pos _ (by omega)
  have m1 : x.fmod 3 < 3 := Int.fmod_lt_of_pos _ (by omega)
  generalize x.fmod 3 = y at m0 m1 ⊢
  repeat (first | (refine T.sub ?_ (h z4 H4 (2 + y) ⟨by omega, by omega⟩ b4 e4 f4); exact Sub.both (Sub.both (Sub.nil _))) | walk_at "W")
end
theorem TL.more {H H' : Hp} {l l' : List Addr} (x : TL H l) (nd : l'.Nodup) (hn : ∀ a ∈ l', H a = none) (ht : ∀ a ∈ l', ∃ o, H' a = some o) (b : H.But H' []) : TL H' (l' ++ l) := ⟨List.nodup_append.mpr ⟨nd, x.nd, fun a ha b' hb e => by
    subst e
    obtain ⟨o, ho⟩ := x.tr a hb
    rw [hn a ha] at ho; cases ho⟩, fun a ha => by
  rcases List.mem_append.mp ha with ha | ha
  · exact ht a ha
  · exact (x.but b).tr a ha⟩
theorem Iss.ne {H : Hp} {a : IA} {v : IV} (h : Iss H a v) : [a.x, a.d, a.i].Nodup := by
  have h1 := Hp.ne_tag h.x h.d rfl
  have h2 := Hp.ne_tag h.x h.i rfl
  have h3 := Hp.ne_tag h.d h.i rfl
  simp [h1, h2, h3]
theorem Usr.nd {H : Hp} {a : UA} {v : UV} (h : Usr H a v) : [a.x, a.d, a.k, a.u, a.t, a.w].Nodup := by
  obtain ⟨h1, h2, h3, h4, h5, h6, h7, h8, h9, h10, h11, h12, h13, h14, h15⟩ := h.ne
  simp [*]
noncomputable def st2 : { s : Stmt // b227.1.drop 2 = s :: b227.1.drop 3 } := ⟨_, rfl⟩
section
variable {D : Wd} {c : Cx} {X : Int → St → Prop}
set_option maxHeartbeats 4000000 in
/-- the making of the two sides -/
theorem head2_ok {b2 b3 : List Stmt} (h2 : b227.1.drop 2 = b2) (h3 : b227.1.drop 3 = b3) (pf : PF D) {L : Addr} {room : Nat} (i : In f227.1 227 L room c) (hr : 40 < room) {lim : Int} {z : Addr} {H : Hp} {l : List Addr} {Q : AF → St → Prop} (tl : TL H l)
    (h : ∀ (ai : IA) (au : UA) H', TL H' ([au.x, au.d, au.k, au.u, au.t, au.w] ++ ([ai.x, ai.d, ai.i] ++ l)) →
      H.But H' [] → Iss H' ai { limit := lim, next := 1, prior := 0, issued := [(0, cidOf 0)], empty := false } → Usr H' au { limit := lim, cur := 0, prior := 0, known := [(0, (cidOf 0, none))], told := [(0, (cidOf 0, none))], used := [0], word := [], empty := false } →
      TF D c (execs b3 c.env) ⟨[("limit", .int lim), ("some", .obj z), ("issuer", .obj ai.x), ("user", .obj au.x)], H'⟩ Q X) :
    TF D c (execs b2 c.env) ⟨[("limit", .int lim), ("some", .obj z)], H⟩ Q X := by
  have hrm := i.room
  rw [← h2, st2.2]
  unfold st2
  dsimp only
  rw [h3]
  clear h2 h3
  walk_at "W"
  refine TF_assign rfl (by rw [i.env]; rfl) rfl ?_
  walk_at "WW"
  refine law_id_ok pf (n := 0) (by omega) (by omega) i.pur (by omega) fun H1 b1 => ?_
  walk_at "WW"
  refine O_item_tup (fun _ _ => rfl) (by omega) (by omega) rfl ?_
  walk_at "WW"
  refine LocalIds_ok pf (by rw [cidOf_size]; omega) i.pur (by omega) fun ai H2 x2 d2 i2 b2 e2 => ?_
  walk_at "WW"
  refine law_id_ok pf (n := 0) (by omega) (by omega) i.pur (by omega) fun H3 b3 => ?_
  walk_at "WW"
  refine O_item_tup (fun _ _ => rfl) (by omega) (by omega) rfl ?_
  walk_at "WW"
  refine RemoteIds_ok pf (t := none) (by rw [cidOf_size]; omega) i.pur (by omega) fun au H4 x4 d4 k4 u4 t4 w4 b4 e4 => ?_
  rw [show ((cidOf 0).size == 0) = false from by rw [cidOf_size]; rfl] at e2 e4
  have b1 : H.But H1 [] := b1
  have b2 : H1.But H2 [] := b2
  have b3 : H2.But H3 [] := b3
  have b4 : H3.But H4 [] := b4
  have n2 : EachP (fun a => H1 a = none) [ai.x, ai.d, ai.i] := ⟨x2, d2, i2, trivial⟩
  have r2 : EachP (fun a => ∃ o, H2 a = some o) [ai.x, ai.d, ai.i] := ⟨⟨_, e2.x⟩, ⟨_, e2.d⟩, ⟨_, e2.i⟩, trivial⟩
  have n4 : EachP (fun a => H3 a = none) [au.x, au.d, au.k, au.u, au.t, au.w] := ⟨x4, d4, k4, u4, t4, w4, trivial⟩
  have r4 : EachP (fun a => ∃ o, H4 a = some o) [au.x, au.d, au.k, au.u, au.t, au.w] := ⟨⟨_, e4.x⟩, ⟨_, e4.d⟩, ⟨_, e4.k⟩, ⟨_, e4.u⟩, ⟨_, e4.t⟩, ⟨_, e4.w⟩, trivial⟩
  have t2 := (tl.but b1).more e2.ne n2.all r2.all b2
  have t4 := (t2.but b3).more e4.nd n4.all r4.all b4
  have i4 : Iss H4 ai _ := (e2.but b3 (by simp)).but b4 (by simp)
  walk_at "WW"
  refine TA_tuple rfl rfl (TAs_cons (TA_name i.pur (by walk_at "sto") (TAs_cons (TA_name i.pur (by walk_at "sto") (TAs_nil ?_)))))
  dsimp only [St.put]
  refine T.sub ?_ (h ai au H4 t4 (((b1.trans b2).trans b3).trans b4) i4 e4)
  exact Sub.cons (by kernel_rfl) (Sub.cons (by kernel_rfl) (Sub.cons (by kernel_rfl) (Sub.cons (by kernel_rfl) (Sub.nil _))))
end
noncomputable def st3 : { s : Stmt // b227.1.drop 3 = s :: b227.1.drop 4 } := ⟨_, rfl⟩
structure News8 (H : Hp) (m ha ca se wo to : Addr) : Prop where
  m : H m = some (.dict [(0, .int 1)])
  h : H ha = some (.dict [(0, .int 1)])
  c : H ca = some (.list [.int 0])
  s : H se = some (.list [])
  w : H wo = some (.list [])
  t : H to = some (.list [])
section
variable {D : Wd} {c : Cx} {X : Int → St → Prop}
set_option maxHeartbeats 4000000 in
/-- the law's own data -/
theorem head3_ok {b3 b4 : List Stmt} (h3 : b227.1.drop 3 = b3) (h4 : b227.1.drop 4 = b4) (pf : PF D) {L : Addr} {room : Nat} (i : In f227.1 227 L room c) (hr : 40 < room) {vs : List (Str × AV)} {H : Hp} {l : List Addr} {Q : AF → St → Prop} (tl : TL H l)
    (h : ∀ m ha ca se wo to H', TL H' (to :: wo :: se :: ca :: ha :: m :: l) → H.But H' [] → News8 H' m ha ca se wo to →
      TF D c (execs b4 c.env) ⟨("told", .obj to) :: ("word", .obj wo) :: ("prior", .int 0) :: ("asked", .int 0) :: ("sent", .obj se) :: ("came", .obj ca) :: ("has", .obj ha) :: ("mine", .obj m) :: vs, H'⟩ Q X) :
    TF D c (execs b3 c.env) ⟨vs, H⟩ Q X := by
  have hrm := i.room
  rw [← h3, st3.2]
  unfold st3
  dsimp only
  rw [h4]
  clear h3 h4
  walk_at "W"
  refine TF_assign rfl (by rw [i.env]; rfl) rfl ?_
  walk_at "WW"
  refine TE_dict1 (fun m hm => ?_) i.pur
  walk_at "WW"
  refine ⟨Hp.set_eq, ?_⟩
  rw [Hp.set_set]
  walk_at "WW"
  refine TE_dict1 (fun ha hh => ?_) i.pur
  walk_at "WW"
  refine ⟨Hp.set_eq, ?_⟩
  rw [Hp.set_set]
  walk_at "WW"
  intro ca hc
  walk_at "WW"
  intro se hs
  walk_at "WW"
  intro wo hw
  walk_at "WW"
  intro to ht
  walk_at "WW"
  refine TA_tuple rfl rfl (TAs_cons (TA_name i.pur (by walk_at "sto") (TAs_cons (TA_name i.pur (by walk_at "sto") (TAs_cons (TA_name i.pur (by walk_at "sto") (TAs_cons (TA_name i.pur (by walk_at "sto") (TAs_cons (TA_name i.pur (by walk_at "sto") (TAs_cons (TA_name i.pur (by walk_at "sto") (TAs_cons (TA_name i.pur (by walk_at "sto") (TAs_cons (TA_name i.pur (by walk_at "sto") (TAs_nil ?_)))))))))))))))))
  dsimp only [St.put] at *
  have t1 := tl.new hm (.dict [(0, .int 1)])
  have t2 := t1.new hh (.dict [(0, .int 1)])
  have t3 := t2.new hc (.list [.int 0])
  have t4 := t3.new hs (.list [])
  have t5 := t4.new hw (.list [])
  have t6 := t5.new ht (.list [])
  have b := ((((((Hp.But.refl H []).new hm (o := .dict [(0, .int 1)])).new hh (o := .dict [(0, .int 1)])).new hc (o := .list [.int 0])).new hs (o := .list [])).new hw (o := .list [])).new ht (o := .list [])
  exact h m ha ca se wo to _ t6 b ⟨by walk_at "hp", by walk_at "hp", by walk_at "hp", by walk_at "hp", by walk_at "hp", by walk_at "hp"⟩
end
theorem inj_list {l : List Addr} (nd : l.Nodup) {i j : Nat} (hi : i < l.length) (hj : j < l.length) (e : l.getD i 0 = l.getD j 0) : i = j := by
  rw [List.getD_eq_getElem?_getD, List.getD_eq_getElem?_getD, List.getElem?_eq_getElem hi, List.getElem?_eq_getElem hj] at e
  exact (List.getElem_inj nd).mp e
noncomputable def fIdx : List Nat := [13, 14, 15, 7, 8, 9, 10, 11, 12, 6, 5, 4, 3, 2, 1, 0, 17, 18]
theorem fIdx_lt : ∀ i, i < 18 → fIdx.getD i 0 < 19 := by decide
theorem fIdx_inj : ∀ i, i < 18 → ∀ j, j < 18 → fIdx.getD i 0 = fIdx.getD j 0 → i = j := by decide
noncomputable def fOf (l : List Addr) (i : Nat) : Addr := l.getD (fIdx.getD i 0) 0
theorem fOf_inj {l : List Addr} (nd : l.Nodup) (hl : l.length = 19) : ∀ i j, i < 18 → j < 18 → fOf l i = fOf l j → i = j := fun i j hi hj e =>
  fIdx_inj i hi j hj (inj_list nd (hl ▸ fIdx_lt i hi) (hl ▸ fIdx_lt j hj) e)
/-- what stands ahead of the first turn -/
noncomputable def v0 (lim : Int) : LV := { n := 0, limit := lim, asked := 0, prior := 0, cur := 0, mine := [0], has := [0], came := [0], word := [], tl := [], used := [0], bs := [] }
theorem inv0 {lim : Int} (h : 2 ≤ lim ∧ lim ≤ 4) : Inv 0 (v0 lim) where
  tt := by decide
  nt := by simp [v0]
  lim := h
  as0 := by simp [v0]
  as1 := by simp [v0]
  bl := rfl
  bb := fun k b e => by cases e
  mb := by simp [v0]
  md := by simp [v0]
  ml := by simp [v0]
  cb := by simp [v0]
  cd := by simp [v0]
  c0 := by simp [v0]
  cl := by simp [v0]
  pm := .refl _
  hm := by simp [v0]
  wm := by simp [v0]
  ch := by simp [v0]
  cu := by simp [v0]
  ul := by simp [v0]
  nm := fun x h1 h2 h3 => absurd (List.mem_singleton.mpr (Int.le_antisymm h2 h1)) h3
theorem lst0 {H : Hp} {ai : IA} {au : UA} {m ha ca se wo to zl z : Addr} {lim : Int} {xs : List AV} (tl : TL H (zl :: to :: wo :: se :: ca :: ha :: m :: ([au.x, au.d, au.k, au.u, au.t, au.w] ++ ([ai.x, ai.d, ai.i] ++ [z, 212, 224]))))
    (ei : Iss H ai { limit := lim, next := 1, prior := 0, issued := [(0, cidOf 0)], empty := false }) (eu : Usr H au { limit := lim, cur := 0, prior := 0, known := [(0, (cidOf 0, none))], told := [(0, (cidOf 0, none))], used := [0], word := [], empty := false })
    (n8 : News8 H m ha ca se wo to) (hl : H zl = some (.list xs)) (hp : H 212 = some (.raw (tabObj #[]))) (hq : H 224 = some (.raw (tabObj #[]))) :
    LSt H (fOf (zl :: to :: wo :: se :: ca :: ha :: m :: ([au.x, au.d, au.k, au.u, au.t, au.w] ++ ([ai.x, ai.d, ai.i] ++ [z, 212, 224])))) (v0 lim) xs :=
  ⟨ei, eu, n8.m, n8.h, n8.c, n8.s, n8.w, n8.t, hl, hp, hq, rfl, rfl, fOf_inj tl.nd rfl⟩
noncomputable def st4 : { q : Expr × Pos // ∃ p, b227.1.drop 4 = Stmt.For (.Name "number" p) q.1 lb [] q.2 :: b227.1.drop 5 } := ⟨(_, _), _, rfl⟩
theorem someOf_length (ns : List Int) : (someOf ns).length ≤ 20 := by
  have : (ns.take 16).length ≤ 16 := List.length_take_le _ _
  unfold someOf
  simp only [List.length_append, List.length_map, List.length_cons, List.length_nil]
  omega
section
variable {D : Wd} {c : Cx} {X : Int → St → Prop}
set_option maxHeartbeats 4000000 in
theorem law_ok {b0 : List Stmt} (h0 : b227.1 = b0) (pf : PF D) (lf : LF D) {L : Addr} {room : Nat} (i : In f227.1 227 L room c) (hr : 40 < room) {a : Addr} {vs : List Value} {ns : List Int} (ha : D.base.IsList a (List.toArray vs)) (hi : IntsAre vs ns) (hz : ns.length ≤ 63) {H : Hp} (hp : H 212 = some (.raw (tabObj #[]))) (hq : H 224 = some (.raw (tabObj #[]))) {Q : AF → St → Prop}
    (h9 : ∀ σ', Tabs σ'.hp → Q (.ret (.bool true)) σ') :
    TF D c (execs b0 c.env) ⟨[("script", .stat (.ref a))], H⟩ Q X := by
  have t0 : TL H [212, 224] := ⟨by decide, fun a m => by
    rcases List.mem_cons.mp m with rfl | m
    · exact ⟨_, hp⟩
    · rw [List.mem_singleton.mp m]; exact ⟨_, hq⟩⟩
  obtain ⟨b2, h2⟩ : ∃ b, b227.1.drop 2 = b := ⟨_, rfl⟩
  obtain ⟨b3, h3⟩ : ∃ b, b227.1.drop 3 = b := ⟨_, rfl⟩
  obtain ⟨b4, h4⟩ : ∃ b, b227.1.drop 4 = b := ⟨_, rfl⟩
  obtain ⟨b5, h5⟩ : ∃ b, b227.1.drop 5 = b := ⟨_, rfl⟩
  refine head1_ok h0 h2 pf i hr ha hi hz fun z H1 lim hlim b1 e1 n1 => ?_
  have t1 := t0.cons e1 b1 (t0.notin n1)
  refine head2_ok h2 h3 pf i hr t1 fun ai au H2 t2 b2 ei eu => ?_
  refine head3_ok h3 h4 pf i hr t2 fun m ha ca se wo to H3 t3 b3 n8 => ?_
  have e3 : H3 z = some (.list ((someOf ns).map .int)) := b3 _ _ (by simp) (b2 _ _ (by simp) e1)
  have p3 : H3 212 = some (.raw (tabObj #[])) := b3 _ _ (by simp) (b2 _ _ (by simp) (b1 _ _ (by simp) hp))
  have q3 : H3 224 = some (.raw (tabObj #[])) := b3 _ _ (by simp) (b2 _ _ (by simp) (b1 _ _ (by simp) hq))
  have i3 : Iss H3 ai _ := ei.but b3 (by simp)
  have u3 : Usr H3 au _ := eu.but b3 (by simp)
  have hend : ∀ (H' : Hp) (t' : Nat) (f' : Nat → Addr) (v' : LV) (vs : List (Str × AV)), LSt H' f' v' (((someOf ns).drop 1).map .int) → Inv t' v' → Sub (cvars f' v') vs → TF D c (execs b5 c.env) ⟨vs, H'⟩ Q X := fun H' t' f' v' vs hs iv sub => end_ok h5 pf lf i hr hs iv sub h9
  obtain ⟨pn, e4⟩ := st4.2
  rw [← h4, e4]
  unfold st4
  dsimp only
  rw [h5]
  clear h0 h2 h3 h4 h5 e4
  obtain ⟨o, fr⟩ := i.frames
  refine TF_cons (TF_for_list (fun _ => rfl) goes_name i.pur fr i.frame ?_)
  refine TE_from (fun _ _ => rfl) i.pur ?_
  walk_at "WW"
  refine ⟨z, _, rfl, e3, by rw [List.length_map]; have := someOf_length ns; omega, fun zl hzl => ⟨zl, _, rfl, Hp.set_eq, ?_⟩⟩
  have b4 := (Hp.But.refl H3 []).new hzl (o := .list (((someOf ns).map AV.int).drop 1))
  have t4 := t3.new hzl (.list (((someOf ns).map AV.int).drop 1))
  have p4 := b4 _ _ (by simp) p3
  have q4 := b4 _ _ (by simp) q3
  have i4 : Iss _ ai _ := i3.but b4 (by simp)
  have u4 : Usr _ au _ := u3.but b4 (by simp)
  have n4 : News8 _ m ha ca se wo to := ⟨b4 _ _ (by simp) n8.m, b4 _ _ (by simp) n8.h, b4 _ _ (by simp) n8.c, b4 _ _ (by simp) n8.s, b4 _ _ (by simp) n8.w, b4 _ _ (by simp) n8.t⟩
  have l4 : (H3.set zl (.list (((someOf ns).map AV.int).drop 1))) zl = _ := Hp.set_eq
  rw [← List.map_drop] at *
  have ls := lst0 t4 i4 u4 n4 l4 p4 q4
  have len := someOf_length ns
  refine loop_ok (Q := thenDo D c b5 Q X) pf lf i hr (fun σ' h => h9 σ' h) (fun H' t' f' v' vs hs iv sub => hend H' t' f' v' vs hs iv sub) ((someOf ns).drop 1) 0 _ _ _ _ ls (inv0 hlim) (by rw [List.length_drop]; omega) ?_ rfl
  exact Sub.cons (by kernel_rfl) (Sub.cons (by kernel_rfl) (Sub.cons (by kernel_rfl) (Sub.cons (by kernel_rfl) (Sub.cons (by kernel_rfl) (Sub.cons (by kernel_rfl) (Sub.cons (by kernel_rfl) (Sub.cons (by kernel_rfl) (Sub.cons (by kernel_rfl) (Sub.cons (by kernel_rfl) (Sub.cons (by kernel_rfl) (Sub.nil _)))))))))))
end
theorem fn227 {D : Wd} (pf : PF D) : FnOk D 227 f227.1 ["script"] b227.1 where
  at_ := by obtain ⟨P, hK⟩ := pf.K; rw [hK]; exact f227.2 P
  code := by obtain ⟨P, hK⟩ := pf.K; rw [hK]; kernel_rfl
  body := b227.2
  glob := rfl
  blt := rfl
  clo := rfl
  kind := rfl
  co := rfl
  gen := rfl
  bind := fun vs h => by
    obtain ⟨a0, r0, rfl, h0⟩ := len_succ (n := 0) h
    obtain rfl := len_zero h0
    rfl
  kinds := by
    intro n x hx
    rcases List.mem_cons.mp hx with rfl | hx
    · first | exact .inl rfl | exact .inr ⟨rfl, rfl⟩
    cases hx
  nodup := by decide +kernel
/-- what is tracked at the start: the two tables -/
noncomputable def H00 : Hp := fun b => if b = 212 ∨ b = 224 then some (.raw (tabObj #[])) else none
theorem H00_some {b : Addr} {o : AO} (h : H00 b = some o) : (b = 212 ∨ b = 224) ∧ o = .raw (tabObj #[]) := by
  unfold H00 at h
  split at h
  · rename_i q; cases h; exact ⟨q, rfl⟩
  · cases h
/-- the call of the law -/
theorem entry {D : Wd} {s : Shared} {fd : FuncData} {body : List Stmt} (st : Stat D) (ok : FnOk D 227 fd ["script"] body) (hD : D.s₀ = s) (hbase : ∀ b o, D.base.get? b = some o → s.heap.get? b = some o) (h212 : s.heap.get? 212 = some (tabObj #[])) (h224 : s.heap.get? 224 = some (tabObj #[])) (n212 : D.base.get? 212 = none) (n224 : D.base.get? 224 = none)
    {a : Addr} (run : ∀ c L, In fd 227 L 600 c → TF D c (execs body c.env) ⟨[("script", .stat (.ref a))], H00⟩ (fun fl σ' => fl = .ret (.bool true) ∧ Tabs σ'.hp) (fun _ _ => False)) {R : Result → Shared → Prop}
    (hR : ∀ s' h' tk, s' = { s with heap := h', toks := tk } → (∀ b o, D.base.get? b = some o → h'.get? b = some o) → (∃ ps, h'.get? 212 = some (tabObj ps)) → (∃ ps, h'.get? 224 = some (tabObj ps)) → R (.ok (.ret (.bool true))) s') :
    codeAny (model D.prog D.w) callerA (.call (.ref 227) ⟨[.ref a], []⟩) R s := by
  obtain ⟨oc, od, osl, hK⟩ := ok.at_
  have hKs : s.heap.get? 227 = _ := hbase _ _ (st.K _ _ hK)
  have keyOf : ∀ x ∈ (["script"] : List Str).zip [Value.ref a], x.1 ∈ (["script"] : List Str) := fun x hx => (List.of_mem_zip hx).1
  have hv : VRs s.heap [AV.stat (.ref a)] [Value.ref a] := ⟨_, _, rfl, rfl, rfl⟩
  refine codeAny_call_cells (by decide) hKs rfl (st.nolimit.keeps hbase) (codeRec_of (fun b o e => hbase b o (st.K b o e)) ok.code) ok.body (ok.bind [.ref a] rfl) ok.clo (fun x hx => ok.kinds _ x.1 (keyOf x hx)) (fun s₁ x => ?_) ok.co ok.gen ok.kind
  obtain ⟨h₁, tk, rfl, hk⟩ := x.done
  have lt_none : ∀ b, s.heap.objs.size ≤ b → s.heap.get? b = none := fun b hb => Heap.get?_none_of_le hb
  have newc : ∀ b ∈ fa (callEnvC fd s.heap.objs.size 227), s.heap.get? b = none := fun b hb => by
    rcases List.mem_cons.mp hb with rfl | hb
    · exact lt_none _ (Nat.le_refl _)
    · obtain ⟨p, hp, rfl⟩ := List.mem_map.mp hb
      exact lt_none _ (Nat.le_of_lt (x.above p.1 p.2 hp))
  let c : Cx := { A := callerA.deeper (callEnvC fd s.heap.objs.size 227), env := callEnvC fd s.heap.objs.size 227, frames := [callEnvC fd s.heap.objs.size 227], pur := false, room := 600 }
  have okc : CxOk c := by
    refine ⟨ok.kind, ok.glob, ok.blt, Around.frames_deeper rfl, rfl, ?_, ?_, List.pairwise_map.mpr x.apart, fun m => ?_⟩
    · show 1 + claimMargin + 1 + 600 < recursionLimit; decide
    · show 4 + 3 + 8 * 600 + 200 < cLine; decide
    · obtain ⟨p, hp, e⟩ := List.mem_map.mp m
      exact absurd (x.above p.1 p.2 hp) (by rw [e]; exact Nat.lt_irrefl _)
  have hnd : ((callEnvC fd s.heap.objs.size 227).cells.map (·.1)).Nodup := cellsFrom_names fd.scope.names 0 (s.heap.objs.size + 1) [] [] rfl ▸ ok.nodup
  have t : TK s.heap h₁ := TK.of_keeps hk
  have kdx : ∀ y, (callEnvC fd s.heap.objs.size 227).kindOf y = fd.scope.names.lookup y ∨ ∀ k, fd.scope.names.lookup y ≠ some k := fun y => by
    cases q : fd.scope.names.lookup y with
    | none => exact .inr fun k e => nomatch e
    | some k => exact .inl q
  have fr : FrRep (callEnvC fd s.heap.objs.size 227) (bindV ["script"] [.stat (.ref a)] []) h₁ := by
    refine ⟨⟨_, x.toInCall.ns, bindL_vars (hv.mono t) (fun _ _ e => by cases e)⟩, fun y av e1 e2 => ?_, fun p hp => ⟨_, x.cell p.1 p.2 (lookup_of_mem_nodup hnd hp)⟩⟩
    have hy : y ∈ (["script"] : List Str) := bindV_names (fun _ h => h) (fun _ _ e => by cases e) e1
    have nl : (callEnvC fd s.heap.objs.size 227).kindOf y ≠ some .local := fun q => by rw [q] at e2; rcases e2 with e2 | e2 <;> cases e2
    obtain ⟨v, h1, h2⟩ := bindC_vars (hv.mono t) (fun _ _ e => by cases e) y av e1 nl
    rcases ok.kinds (s.heap.objs.size + 1) y hy with q | ⟨q, qc⟩
    · rcases kdx y with z | z
      · exact absurd (z.trans q) nl
      · exact absurd q (z _)
    · obtain ⟨b, hb⟩ := Option.isSome_iff_exists.mp qc
      exact ⟨b, v, hb, h1 ▸ x.cell y b hb, h2⟩
  have nH : ∀ b, s.heap.get? b = none → H00 b = none := fun b hb => by
    cases q : H00 b with
    | none => rfl
    | some o =>
      rcases (H00_some q).1 with rfl | rfl
      · rw [h212] at hb; cases hb
      · rw [h224] at hb; cases hb
  have nB : ∀ b, s.heap.get? b = none → D.base.get? b = none := fun b hb => by
    cases q : D.base.get? b with
    | none => rfl
    | some o => rw [hbase b o q] at hb; cases hb
  have r₁ : Rep D c ⟨bindV ["script"] [.stat (.ref a)] [], H00⟩ { s with heap := h₁, toks := tk } := by
    refine ⟨st, okc, fun b o e => ?_, fun b o e => ?_, fun b hb => nH b (newc b hb), fr, fun b o e => hk b o (hbase b o e), fun b hb => nB b (newc b (fw_fa hb)), ⟨h₁, tk, by rw [hD]⟩, ?_, fun L hL => ?_, fun d kvs e => ?_⟩
    · obtain ⟨q, rfl⟩ := H00_some e
      rcases q with rfl | rfl
      · exact ⟨_, hk _ _ h212, rawF rfl⟩
      · exact ⟨_, hk _ _ h224, rawF rfl⟩
    · rcases (H00_some e).1 with rfl | rfl
      · exact n212
      · exact n224
    · intro env he
      rw [List.mem_singleton.mp he]
      obtain ⟨o, es, ep, e, d, _⟩ := x.toInCall.ns
      exact ⟨by show fd.scope.kind ≠ _; rw [ok.kind]; decide, _, o, es, ep, rfl, nB _ (newc _ (List.mem_cons_self ..)), e, d⟩
    · have : L = s.heap.objs.size := List.mem_singleton.mp hL
      subst this
      exact nH _ (newc _ (List.mem_cons_self ..))
    · cases (H00_some e).2
  refine wpAny_mono (run c s.heap.objs.size ⟨rfl, rfl, rfl, ⟨[], rfl⟩, rfl⟩ _ r₁) (fun fl s' ⟨b, σ', r', x', v', q, tb⟩ => ?_) fun e s' ⟨_, _, _, _, _, _, _, q⟩ => q.elim
  subst q
  obtain ⟨u, rfl, hu⟩ := v'
  have hu' : u = .bool true := hu
  subst hu'
  obtain ⟨h', tk', e'⟩ := r'.same
  rw [hD] at e'
  obtain ⟨⟨ps, t1⟩, ps', t2⟩ := tb
  obtain ⟨o1, g1, rfl, _⟩ := r'.hp _ _ t1
  obtain ⟨o2, g2, rfl, _⟩ := r'.hp _ _ t2
  have eh : s'.heap = h' := by rw [e']
  rw [eh] at g1 g2
  exact hR s' h' tk' e' (fun b o e => eh ▸ r'.base b o e) ⟨_, g1⟩ ⟨_, g2⟩
theorem bat {base : Heap} {mg : Str → Option Value} {P : Addr} {p : Program} {loose : List Str} {mean : ExcName → Option Value} {mb : Str → Option Value} (T : Top p loose mean mg mb base) (n : base.get? P = none) : base.BuiltinsAt mg P := by
  obtain ⟨bm, ob, b1, b2, b3, b4, b5, b6⟩ := T.bmain
  refine ⟨bm, ob, b1, b2, fun q => ?_, fun q => ?_, b3, b4, b5, b6⟩
  · obtain ⟨o, es, ep, e, hd, _⟩ := T.g
    rw [q, e] at b3; cases b3; rw [hd] at b6; cases b6
  · rw [q, n] at b3; cases b3
/-- the call of the law, seen from the row -/
theorem called {prog : Program} {w : World} {s₁ : Shared} {mg mb : Str → Option Value} {p : Program} {loose : List Str} {mean : ExcName → Option Value} (KX : (hd.heap_1 w.params).In s₁.heap) (T : Top p loose mean mg mb s₁.heap) (hT : TabsAt [(216, 212), (226, 224)] s₁.heap)
    {a : Addr} {vs : List Value} {ns : List Int} (ha : s₁.heap.IsList a (List.toArray vs)) (hi : IntsAre vs ns) (hz : ns.length ≤ 63) {R : Result → Shared → Prop}
    (hR : ∀ s' h' tk, s' = { s₁ with heap := h', toks := tk } → (∀ b o, (ghostOf s₁.heap [(216, 212), (226, 224)]).get? b = some o → h'.get? b = some o) → (∃ ps, h'.get? 212 = some (tabObj ps)) → (∃ ps, h'.get? 224 = some (tabObj ps)) → R (.ok (.ret (.bool true))) s') :
    codeAny (model prog w) callerA (.call (.ref 227) ⟨[.ref a], []⟩) R s₁ := by
  have T' := ghost_top hT T
  have n1 : (ghostOf s₁.heap [(216, 212), (226, 224)]).get? 212 = none := hideAll_none _ (by simp)
  have n2 : (ghostOf s₁.heap [(216, 212), (226, 224)]).get? 224 = none := hideAll_none _ (by simp)
  have st : Stat ⟨prog, w, ghostOf s₁.heap [(216, 212), (226, 224)], s₁, hd.heap_1 w.params, mg, mb⟩ := ⟨ghost_K hT KX (by kernel_rfl), T'.g, T'.b, T'.builtins, T'.nolimit, T'.nodigits⟩
  have pf : PF ⟨prog, w, ghostOf s₁.heap [(216, 212), (226, 224)], s₁, hd.heap_1 w.params, mg, mb⟩ := ⟨w.params, rfl⟩
  have gc := ghost_code hT
  have lf : LF ⟨prog, w, ghostOf s₁.heap [(216, 212), (226, 224)], s₁, hd.heap_1 w.params, mg, mb⟩ := ⟨gc.1, gc.2.1, bat T' n1, bat T' n2⟩
  exact entry (D := ⟨prog, w, ghostOf s₁.heap [(216, 212), (226, 224)], s₁, hd.heap_1 w.params, mg, mb⟩) st (fn227 pf) rfl (fun b o e => of_hideAll _ e) (hT _ (.head _)).2 (hT _ (.tail _ (.head _))).2 n1 n2
    (fun c L i => law_ok rfl pf lf i (by decide) (ghost_list hT ha) hi hz rfl rfl fun σ' h => ⟨rfl, h⟩) hR
set_option maxHeartbeats 8000000 in
theorem main : PySem.Challenge.rw_no0071_01.Holds := hd (by
  intro w s₀ s₁ mg mb G Y fa o pm cd doc dV kV ho hd' hcd hD hmg hg args vals as hpre hlay hrd hwl hlo
  have KX := km_in_of Y
  have hT8 := km_tabs_of Y
  refine Ground.open G ?_
  intro T B D TE TW
  have hT9 : TabsAt [(216, 212), (226, 224)] s₁.heap := List.forall_mem_cons.mpr ⟨⟨codeHd_of_K KX (by kernel_rfl), hT8 212 (by simp)⟩, List.forall_mem_cons.mpr ⟨⟨codeHd_of_K KX (by kernel_rfl), hT8 224 (by simp)⟩, fun _ h => nomatch h⟩⟩
  have e227 : mg "law" = some (.ref 227) := mg_of KX T.g (by kernel_rfl)
  have ea : fa = 227 := by
    have h := hmg.symm.trans e227
    cases h; rfl
  subst ea
  clear hmg hd' hcd hD ho
  wrow_args hpre hlay hrd hwl hlo
  rename_i ns _ _ _ _ _ _ a vs _ hL _ _ _ hI _ hc _
  refine enter_call ?_
  refine kn_post hT9 (fun _ _ => rfl) ?_
  refine called KX T hT9 hL hI (by omega) fun s' h' tk e k t1 t2 => ⟨?_, ?_⟩
  · refine ⟨.inl ⟨.bool true, _, [], rfl, fun _ => rfl, .bool true, postW_of (by wrow_shape) (by wtm_val) (by w_fin), unshared_nil⟩, fun b o q => by rw [e]; exact k b o q, by rw [e], by rw [e]; exact hg⟩
  · rw [e]; exact ⟨t1, t2, trivial⟩)
end Mine

theorem PySem.Challenge.cw_no0071_01_holds : PySem.Challenge.rw_no0071_01.Holds :=
  Mine.main
