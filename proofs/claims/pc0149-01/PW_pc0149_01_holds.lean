import PyProof.Rows.All
import Wide.All
import OpenK.AllK
import Wide.FinOn
import Lean
import PySem.Challenge.RW_pc0149_01
open PySem PySem.W PySem.Calls PyProof.Rows
set_option Elab.async false
set_option autoImplicit false
set_option maxRecDepth 100000
set_option maxHeartbeats 1000000
set_option linter.unusedVariables false
set_option genInjectivity false
set_option genSizeOf false
set_option genSizeOfSpec false
set_option genCtorIdx false
set_option tactic.hygienic false
set_option backward.match.sparseCases false
set_option bootstrap.genMatcherCode false
noncomputable section
namespace Mine
theorem sInj {α : Type} {a b : α} (h : some a = some b) : a = b := Option.some.inj h
theorem noS {α : Type} {a : α} {P : Prop} (h : none = some a) : P := by cases h
theorem noB {P : Prop} (h : false = true) : P := by cases h
theorem noR {α ε β : Type} {a : α} {x : ε} {s t : β} {P : Prop} (h : (Except.ok a, s) = (Except.error x, t)) : P := by cases h
theorem E1 {α : Type} {a : α} {motive : ∀ b : α, some a = some b → Prop} (k : motive a rfl) {b : α} (e : some a = some b) : motive b e := by cases e; exact k
theorem E1r {α : Type} {b : α} {motive : ∀ a : α, some a = some b → Prop} (k : motive b rfl) {a : α} (e : some a = some b) : motive a e := by cases e; exact k
theorem E2 {α β : Type} {a : α} {s : β} {motive : ∀ (b : α) (t : β), some (a, s) = some (b, t) → Prop} (k : motive a s rfl) {b : α} {t : β} (e : some (a, s) = some (b, t)) : motive b t e := by cases e; exact k
theorem E3 {α β ε : Type} {a : α} {s : β} {motive : ∀ (b : α) (t : β), some ((Except.ok a : Except ε α), s) = some (Except.ok b, t) → Prop} (k : motive a s rfl) {b : α} {t : β} (e : some ((Except.ok a : Except ε α), s) = some (Except.ok b, t)) : motive b t e := by cases e; exact k
theorem E4 {α β : Type} {a : α} {s : β} {motive : ∀ (b : α) (t : β), (a, s) = (b, t) → Prop} (k : motive a s rfl) {b : α} {t : β} (e : (a, s) = (b, t)) : motive b t e := by cases e; exact k
theorem E8 {α : Type} {a : α} {motive : ∀ b : α, a = b → Prop} (k : motive a rfl) {b : α} (e : a = b) : motive b e := by cases e; exact k
theorem iteE {α : Type} {c : Prop} [h : Decidable c] {a b r : α} {P : Prop} (e : (if c then a else b) = r) (k1 : c → a = r → P) (k2 : ¬c → b = r → P) : P := by
 cases h with
 | isTrue h => exact k1 h e
 | isFalse h => exact k2 h e
theorem iteS {α : Type} {c : Prop} [h : Decidable c] {a : Option α} {r : α} {P : Prop} (e : (if c then a else none) = some r) (k1 : c → a = some r → P) : P := by
 cases h with
 | isTrue h => exact k1 h e
 | isFalse h => cases e
theorem bindE {α β : Type} {o : Option α} {f : α → Option β} {r : β} {P : Prop} (e : o.bind f = some r) (k : ∀ d, o = some d → f d = some r → P) : P := by
 cases o with
 | some d => exact k d rfl e
 | none => cases e
theorem orE {β : Type} {o p : Option β} {r : β} {P : Prop} (e : o.or p = some r) (k1 : o = some r → P) (k2 : p = some r → P) : P := by
 cases o with
 | some d => exact k1 e
 | none => exact k2 e
theorem mapD {β : Type} {o : Option β} {f : β → Bool} (e : (o.map f).getD false = true) : ∃ d, o = some d ∧ f d = true := by
 cases o with
 | some d => exact ⟨d, rfl, e⟩
 | none => cases e
theorem mapE {α β : Type} {o : Option α} {f : α → β} {r : β} {P : Prop} (e : o.map f = some r) (k : ∀ d, o = some d → f d = r → P) : P := by
 cases o with
 | some d => exact k d rfl (sInj e)
 | none => cases e
noncomputable def arg1 {α : Type} : List α → Option α
 | [x] => some x
 | _ => none
noncomputable def arg2 {α : Type} : List α → Option (α × α)
 | [x, y] => some (x, y)
 | _ => none
noncomputable def arg3 {α : Type} : List α → Option (α × α × α)
 | [x, y, z] => some (x, y, z)
 | _ => none
theorem arg1_of {α : Type} {l : List α} {x : α} (h : arg1 l = some x) : l = [x] := by
 cases l with
 | nil => exact noS h
 | cons a l => cases l with
  | nil => rw [sInj h]
  | cons b l => exact noS h
theorem arg2_of {α : Type} {l : List α} {p : α × α} (h : arg2 l = some p) : l = [p.1, p.2] := by
 cases l with
 | nil => exact noS h
 | cons a l => cases l with
  | nil => exact noS h
  | cons b l => cases l with
   | nil => rw [← sInj h]
   | cons c l => exact noS h
theorem arg3_of {α : Type} {l : List α} {p : α × α × α} (h : arg3 l = some p) : l = [p.1, p.2.1, p.2.2] := by
 cases l with
 | nil => exact noS h
 | cons a l => cases l with
  | nil => exact noS h
  | cons b l => cases l with
   | nil => exact noS h
   | cons c l => cases l with
    | nil => rw [← sInj h]
    | cons d l => exact noS h
theorem iteT {α β : Type} {c : Prop} [h : Decidable c] {a b r : α} {a' b' r' : β} (e : (if c then a else b) = r) (k1 : c → a = r → a' = r') (k2 : ¬c → b = r → b' = r') : (if c then a' else b') = r' := by
 cases h with
 | isTrue h => exact k1 h e
 | isFalse h => exact k2 h e
set_option genCtorIdx true in
inductive V where
 | none
 | bool (b : Bool)
 | int (i : Int)
 | str (s : Str)
 | tup (l : List V)
 | hnd (k : Nat)
 | glob (a : Addr)
 | bi (id : String)
 | ty (id : String)
 | rng (a b c : Int)
 | lstK (l : List V)
 deriving Inhabited
set_option genCtorIdx true in
inductive O where
 | list (l : List V)
 | sdict (l : List (Str × V))
 | inst (C : Addr) (fs : List (Str × V))
 | cell (v : Option V)
 | lam (params : Arguments) (body : Expr) (sc : Scope) (qual : Str) (cl : List (Str × Nat))
 | tab (qual : Str)
 deriving Inhabited
abbrev Sto := List O
abbrev Led := List (Addr × Obj)
abbrev Al := List (Addr × Option Addr)
noncomputable def flat (al : Al) : List Addr := al.flatMap fun p => p.1 :: p.2.toList
section
variable (K : Frag)
mutual
inductive VR (news : Led) (al : Al) : Value → V → Prop where
 | none : VR news al .none .none
 | bool {b : Bool} : VR news al (.bool b) (.bool b)
 | int {i : Int} {t : Tok} : VR news al (.int i t) (.int i)
 | str {s : Str} {t : Tok} : VR news al (.str s t) (.str s)
 | tup {a : Addr} {vs : List Value} {l : List V} {n : Nat} : (a, ({ cls := .type "tuple", data := .seq vs.toArray n } : Obj)) ∈ news → VRs news al vs l → VR news al (.ref a) (.tup l)
 | tupK {a : Addr} {vs : List Value} {l : List V} {n : Nat} : K.lookup a = some { cls := .type "tuple", data := .seq vs.toArray n } → VRs news al vs l → VR news al (.ref a) (.tup l)
 | hnd {k : Nat} {a : Addr} {x : Option Addr} : al[k]? = some (a, x) → VR news al (.ref a) (.hnd k)
 | glob {a : Addr} : VR news al (.ref a) (.glob a)
 | bi {id : String} : VR news al (.builtin id) (.bi id)
 | ty {id : String} : VR news al (.type id) (.ty id)
 | rng {x : Addr} {a b c : Int} {t u v : Tok} : (x, ({ cls := .type "range", data := .fields #[.int a t, .int b u, .int c v] } : Obj)) ∈ news → VR news al (.ref x) (.rng a b c)
 | lstK {a : Addr} {o : Obj} {vs : List Value} {l : List V} {n : Nat} : K.lookup a = some o → o.cls = .type "list" → o.data = .seq vs.toArray n → VRs news al vs l → VR news al (.ref a) (.lstK l)
inductive VRs (news : Led) (al : Al) : List Value → List V → Prop where
 | nil : VRs news al [] []
 | cons {v : Value} {x : V} {vs : List Value} {l : List V} : VR news al v x → VRs news al vs l → VRs news al (v :: vs) (x :: l)
end
inductive FR (P : Params) (news : Led) (al : Al) : List DictEntry → List (Str × V) → Prop where
 | nil : FR P news al [] []
 | cons {x : Str} {t : Tok} {v : Value} {y : V} {es : List DictEntry} {fs : List (Str × V)} : VR K news al v y → FR P news al es fs → FR P news al (⟨PyData.keyHash P x, .str x t, v⟩ :: es) ((x, y) :: fs)
inductive PR (news : Led) (al : Al) {κ : Type} : List (κ × Value) → List (κ × V) → Prop where
 | nil : PR news al [] []
 | cons {k : κ} {v : Value} {y : V} {es : List (κ × Value)} {fs : List (κ × V)} : VR K news al v y → PR news al es fs → PR news al ((k, v) :: es) ((k, y) :: fs)
end
section
variable {K : Frag} {news : Led} {al : Al} {v : Value} {y : V} {vs : List Value} {l : List V}
theorem VR.inv (h : VR K news al v y) : match y with
  | .none => v = .none
  | .bool b => v = .bool b
  | .int i => ∃ t, v = .int i t
  | .str s => ∃ t, v = .str s t
  | .glob a => v = .ref a
  | .bi id => v = .builtin id
  | .ty id => v = .type id
  | .hnd k => ∃ a, v = .ref a ∧ ∃ x, al[k]? = some (a, x)
  | .rng a b c => ∃ x t u w, v = .ref x ∧ (x, ({ cls := .type "range", data := .fields #[.int a t, .int b u, .int c w] } : Obj)) ∈ news
  | .lstK l => ∃ a o vs n, v = .ref a ∧ K.lookup a = some o ∧ o.cls = .type "list" ∧ o.data = .seq vs.toArray n ∧ VRs K news al vs l
  | .tup l => ∃ a, v = .ref a := by
 cases h with
 | hnd h => exact ⟨_, rfl, _, h⟩
 | rng h => exact ⟨_, _, _, _, rfl, h⟩
 | lstK h h1 h2 h3 => exact ⟨_, _, _, _, rfl, h, h1, h2, h3⟩
 | _ => first | exact rfl | exact ⟨_, rfl⟩
noncomputable def V.int? : V → Option Int
 | .int i => some i
 | _ => Option.none
noncomputable def V.str? : V → Option Str
 | .str x => some x
 | _ => Option.none
noncomputable def V.tup? : V → Option (List V)
 | .tup l => some l
 | _ => Option.none
noncomputable def V.hnd? : V → Option Nat
 | .hnd k => some k
 | _ => Option.none
noncomputable def O.list? : O → Option (List V)
 | .list l => some l
 | _ => Option.none
noncomputable def O.sdict? : O → Option (List (Str × V))
 | .sdict l => some l
 | _ => Option.none
theorem V.int_of {i : Int} (h : y.int? = some i) : y = .int i := by cases y <;> first | exact noS h | exact congrArg V.int (sInj h)
theorem V.str_of {i : Str} (h : y.str? = some i) : y = .str i := by cases y <;> first | exact noS h | exact congrArg V.str (sInj h)
theorem V.tup_of {i : List V} (h : y.tup? = some i) : y = .tup i := by cases y <;> first | exact noS h | exact congrArg V.tup (sInj h)
theorem V.hnd_of {i : Nat} (h : y.hnd? = some i) : y = .hnd i := by cases y <;> first | exact noS h | exact congrArg V.hnd (sInj h)
theorem O.list_of {o : O} {i : List V} (h : o.list? = some i) : o = .list i := by cases o <;> first | exact noS h | exact congrArg O.list (sInj h)
theorem O.sdict_of {o : O} {i : List (Str × V)} (h : o.sdict? = some i) : o = .sdict i := by cases o <;> first | exact noS h | exact congrArg O.sdict (sInj h)
theorem VR.vint (h : VR K news al v y) {i : Int} (e : y.int? = some i) : ∃ t, v = .int i t := (V.int_of e ▸ h : VR K news al v (.int i)).inv
theorem VR.vstr (h : VR K news al v y) {i : Str} (e : y.str? = some i) : ∃ t, v = .str i t := (V.str_of e ▸ h : VR K news al v (.str i)).inv
theorem VR.vtup (h : VR K news al v y) {i : List V} (e : y.tup? = some i) : ∃ a, v = .ref a ∧ VR K news al (.ref a) (.tup i) := let ⟨a, ha⟩ := (V.tup_of e ▸ h : VR K news al v (.tup i)).inv; ⟨a, ha, ha ▸ V.tup_of e ▸ h⟩
theorem VR.vhnd (h : VR K news al v y) {i : Nat} (e : y.hnd? = some i) : ∃ a, v = .ref a ∧ VR K news al (.ref a) (.hnd i) := let ⟨a, ha, _⟩ := (V.hnd_of e ▸ h : VR K news al v (.hnd i)).inv; ⟨a, ha, ha ▸ V.hnd_of e ▸ h⟩
def lstAt (st : Sto) (k : Nat) : Option (List V) := st[k]?.bind O.list?
def dicAt (st : Sto) (k : Nat) : Option (List (Str × V)) := st[k]?.bind O.sdict?
theorem lstAt_of {st : Sto} {k : Nat} {l : List V} (h : lstAt st k = some l) : st[k]? = some (.list l) := bindE h fun _ h1 h2 => O.list_of h2 ▸ h1
theorem dicAt_of {st : Sto} {k : Nat} {l : List (Str × V)} (h : dicAt st k = some l) : st[k]? = some (.sdict l) := bindE h fun _ h1 h2 => O.sdict_of h2 ▸ h1
theorem VRs.inv (h : VRs K news al vs l) : match l with
  | [] => vs = []
  | y :: r => ∃ v ws, vs = v :: ws ∧ VR K news al v y ∧ VRs K news al ws r := by
 cases h with
 | nil => exact rfl
 | cons h1 h2 => exact ⟨_, _, rfl, h1, h2⟩
theorem VRs.inv1 (h : VRs K news al vs [y]) : ∃ v, vs = [v] ∧ VR K news al v y := by
 obtain ⟨v, ws, e, h1, h2⟩ := h.inv
 have e2 : ws = [] := h2.inv
 exact ⟨v, e2 ▸ e, h1⟩
def int1 (l : List V) : Option Int := (arg1 l).bind V.int?
def int2 (l : List V) : Option (Int × Int) := (arg2 l).bind fun p => p.1.int?.bind fun a => p.2.int?.bind fun b => some (a, b)
def int3 (l : List V) : Option (Int × Int × Int) := (arg3 l).bind fun p => p.1.int?.bind fun a => p.2.1.int?.bind fun b => p.2.2.int?.bind fun c => some (a, b, c)
theorem VRs.a1 (h : VRs K news al vs l) {x : V} (e : arg1 l = some x) : ∃ v, vs = [v] ∧ VR K news al v x := (arg1_of e ▸ h : VRs K news al vs [x]).inv1
theorem VRs.a2 (h : VRs K news al vs l) {p : V × V} (e : arg2 l = some p) : ∃ v w, vs = [v, w] ∧ VR K news al v p.1 ∧ VR K news al w p.2 := by
 obtain ⟨v, ws, e1, h1, h2⟩ := (arg2_of e ▸ h : VRs K news al vs [p.1, p.2]).inv
 obtain ⟨w, e2, h3⟩ := VRs.inv1 h2
 exact ⟨v, w, e2 ▸ e1, h1, h3⟩
theorem VRs.a3 (h : VRs K news al vs l) {p : V × V × V} (e : arg3 l = some p) : ∃ v w u, vs = [v, w, u] ∧ VR K news al v p.1 ∧ VR K news al w p.2.1 ∧ VR K news al u p.2.2 := by
 obtain ⟨v, ws, e1, h1, h2⟩ := (arg3_of e ▸ h : VRs K news al vs [p.1, p.2.1, p.2.2]).inv
 obtain ⟨w, u, e2, h3, h4⟩ := VRs.a2 h2 (p := p.2) rfl
 exact ⟨v, w, u, e2 ▸ e1, h1, h3, h4⟩
theorem VRs.i1 (h : VRs K news al vs l) {i : Int} (e : int1 l = some i) : ∃ t, vs = [.int i t] := bindE e fun x e1 e => by
 obtain ⟨v, e2, h1⟩ := h.a1 e1
 obtain ⟨t, e3⟩ := h1.vint e
 exact ⟨t, e3 ▸ e2⟩
theorem VRs.i2 (h : VRs K news al vs l) {i : Int × Int} (e : int2 l = some i) : ∃ t u, vs = [.int i.1 t, .int i.2 u] := bindE e fun x e1 e => bindE e fun a e2 e => bindE e fun b e3 e => by
 obtain ⟨v, w, e4, h1, h2⟩ := h.a2 e1
 obtain ⟨t, e5⟩ := h1.vint e2
 obtain ⟨u, e6⟩ := h2.vint e3
 exact sInj e ▸ ⟨t, u, e5 ▸ e6 ▸ e4⟩
theorem VRs.i3 (h : VRs K news al vs l) {i : Int × Int × Int} (e : int3 l = some i) : ∃ t u y, vs = [.int i.1 t, .int i.2.1 u, .int i.2.2 y] := bindE e fun x e1 e => bindE e fun a e2 e => bindE e fun b e3 e => bindE e fun c e4 e => by
 obtain ⟨v, w, z, e5, h1, h2, h3⟩ := h.a3 e1
 obtain ⟨t, e6⟩ := h1.vint e2
 obtain ⟨u, e7⟩ := h2.vint e3
 obtain ⟨y, e8⟩ := h3.vint e4
 exact sInj e ▸ ⟨t, u, y, e6 ▸ e7 ▸ e8 ▸ e5⟩
theorem VRs.ind {P : ∀ (vs : List Value) (l : List V), VRs K news al vs l → Prop} (nil : P [] [] .nil) (cons : ∀ {v : Value} {x : V} {vs : List Value} {l : List V} (h : VR K news al v x) (hs : VRs K news al vs l), P vs l hs → P (v :: vs) (x :: l) (.cons h hs)) {vs : List Value} {l : List V} (h : VRs K news al vs l) : P vs l h :=
 VRs.rec (motive_1 := fun _ _ _ => True) (motive_2 := fun vs l h => P vs l h) trivial trivial trivial trivial (fun _ _ _ => trivial) (fun _ _ _ => trivial) (fun _ => trivial) trivial trivial trivial (fun _ => trivial) (fun _ _ _ _ _ => trivial) nil (fun h hs _ ih => cons h hs ih) h
end
end Mine
namespace Mine
section
variable (K : Frag) (prog : Program) (w : World)
inductive OR (news : Led) (al : Al) : Addr × Option Addr → O → Prop where
 | list {a : Addr} {vs : List Value} {n : Nat} {l : List V} : (a, listOf vs.toArray n) ∈ news → VRs K news al vs l → OR news al (a, none) (.list l)
 | sdict {a : Addr} {o : Obj} {kvs : List (Str × Value)} {fs : List (Str × V)} : (a, o) ∈ news → o.IsDictOf (strKind prog w) kvs → (a == sysModules) = false → PR K news al kvs fs → OR news al (a, none) (.sdict fs)
 | inst {a C dx : Addr} {es : List DictEntry} {n : Nat} {fs : List (Str × V)} : (a, instObj C dx) ∈ news → (dx, dictOf es n) ∈ news → FR K w.params news al es fs → OR news al (a, some dx) (.inst C fs)
 | cell {a : Addr} {o : Obj} {v : Value} {x : V} : (a, o) ∈ news → o.data = .cell (some v) → VR K news al v x → OR news al (a, none) (.cell (some x))
 | cell0 {a : Addr} {o : Obj} : (a, o) ∈ news → o.data = .cell none → OR news al (a, none) (.cell none)
 | lam {f c' : Addr} {oc : Obj} {vs : Array Value} {t : Tok} {name qual : Str} {params : Arguments} {body : Expr} {sc : Scope} {clos : List (Str × Addr)} {cl : List (Str × Nat)} {pm ctv : Value} :
   (f, kla_obj name qual params body sc clos pm c' ctv) ∈ news → (c', oc) ∈ news → oc.data = .fields vs → vs[1]? = some (.str qual t) →
   (∀ x k, cl.lookup x = some k → ∃ a, clos.lookup x = some a ∧ al[k]? = some (a, none)) → OR news al (f, none) (.lam params body sc qual cl)
 | tab {P : Addr} {ps : Array Value} {qual : Str} : (P, tabObj ps) ∈ news → TriplesOk ps.toList →
   (∀ pos cv, codeAmong pos ps.toList = some cv → ∃ c' oc vs t, cv = .ref c' ∧ (c', oc) ∈ news ∧ oc.data = .fields vs ∧ vs[1]? = some (.str qual t)) → OR news al (P, none) (.tab qual)
structure HR (news : Led) (al : Al) (st : Sto) : Prop where
 nd : (news.map (·.1)).Nodup
 len : al.length = st.length
 nda : (flat al).Nodup
 obj : ∀ (k : Nat) (p : Addr × Option Addr) (o : O), al[k]? = some p → st[k]? = some o → OR K prog w news al p o
structure Ext (news : Led) (al : Al) (news' : Led) (al' : Al) : Prop where
 more : ∃ β : Al, al' = al ++ β ∧ ∀ a ∈ flat β, a ∉ news.map (·.1)
 keep : ∀ p ∈ news, p.1 ∉ flat al → p ∈ news'
 dom : ∀ a ∈ news.map (·.1), a ∈ news'.map (·.1)
variable {K prog w}
theorem nodup_eq {news : Led} (nd : (news.map (·.1)).Nodup) {a : Addr} {o o' : Obj} (h : (a, o) ∈ news) (h' : (a, o') ∈ news) : o = o' := by
 induction news with
 | nil => cases h
 | cons p r ih =>
  simp only [List.map_cons, List.nodup_cons] at nd
  rcases List.mem_cons.mp h with e | h
  ·rcases List.mem_cons.mp h' with e' | h'
   ·rw [← e] at e'; exact (Prod.mk.inj e'.symm).2
   ·exact absurd (List.mem_map_of_mem (f := (·.1)) h') (by rw [← e] at nd; exact nd.1)
  ·rcases List.mem_cons.mp h' with e' | h'
   ·exact absurd (List.mem_map_of_mem (f := (·.1)) h) (by rw [← e'] at nd; exact nd.1)
   ·exact ih nd.2 h h'
theorem mem_flat {al : Al} {a : Addr} : a ∈ flat al ↔ ∃ (k : Nat) (p : Addr × Option Addr), al[k]? = some p ∧ (a = p.1 ∨ p.2 = some a) := by
 unfold flat
 rw [List.mem_flatMap]
 constructor
 ·rintro ⟨p, hp, ha⟩
  obtain ⟨k, hk⟩ := List.getElem?_of_mem hp
  refine ⟨k, p, hk, ?_⟩
  rcases List.mem_cons.mp ha with e | h
  ·exact .inl e
  ·exact .inr (Option.mem_toList.mp h)
 ·rintro ⟨k, p, hk, h⟩
  refine ⟨p, List.mem_of_getElem? hk, ?_⟩
  rcases h with e | h
  ·exact e ▸ List.mem_cons_self
  ·exact List.mem_cons_of_mem _ (Option.mem_toList.mpr h)
theorem flat_append (a b : Al) : flat (a ++ b) = flat a ++ flat b := List.flatMap_append
theorem HR.at {news : Led} {al : Al} {st : Sto} (H : HR K prog w news al st) {k : Nat} {p : Addr × Option Addr} (hk : al[k]? = some p) : ∃ o, st[k]? = some o ∧ OR K prog w news al p o := by
 have : k < st.length := H.len ▸ (List.getElem?_eq_some_iff.mp hk).1
 exact ⟨st[k], List.getElem?_eq_getElem this, H.obj k p _ hk (List.getElem?_eq_getElem this)⟩
def Free (o : Obj) : Prop := (o.cls = .type "tuple" ∧ ∃ vs n, o.data = .seq vs n) ∨ (∃ vs, o.data = .fields vs ∧ (o.cls = .type "range" ∨ ∃ x t, vs[1]? = some (.str x t)))
theorem triples_1 {l : List Value} (h : TriplesOk l) : ∀ x t, l[1]? ≠ some (.str x t) := by
 intro x t e
 cases l with
 | nil => cases e
 | cons a l => cases l with
  | nil => cases e
  | cons b l =>
   have e1 : b = .str x t := sInj e
   subst e1
   cases a <;> exact h.elim
theorem nf_of {o : Obj} (h1 : o.cls ≠ .type "tuple") (h2 : ∀ vs, o.data = .fields vs → o.cls ≠ .type "range" ∧ ∀ x t, vs[1]? ≠ some (.str x t)) : ¬ Free o := fun q => q.elim (fun q => h1 q.1) fun ⟨_, e, q⟩ => q.elim (fun q => (h2 _ e).1 q) fun ⟨x, t, q⟩ => (h2 _ e).2 x t q
theorem nf_data {o : Obj} (h1 : ∀ vs n, o.data ≠ .seq vs n) (h2 : ∀ vs, o.data ≠ .fields vs) : ¬ Free o := fun q => q.elim (fun ⟨_, vs, n, e⟩ => h1 vs n e) fun ⟨vs, e, _⟩ => h2 vs e
theorem ty_ne {a b : String} (h : a ≠ b) : Value.type a ≠ .type b := fun e => h (Value.type.inj e)
theorem OR.own {news : Led} {al : Al} {p : Addr × Option Addr} {o : O} (h : OR K prog w news al p o) : (∃ ob, (p.1, ob) ∈ news ∧ ¬ Free ob) ∧ ∀ d, p.2 = some d → ∃ ob, (d, ob) ∈ news ∧ ¬ Free ob := by
 cases h with
 | list h _ => exact ⟨⟨_, h, nf_of (ty_ne (by decide)) nofun⟩, nofun⟩
 | sdict h hd _ _ => exact ⟨⟨_, h, let ⟨es, ep, _, hdat, _⟩ := hd; nf_data (hdat ▸ nofun) (hdat ▸ nofun)⟩, nofun⟩
 | inst h h' _ => exact ⟨⟨_, h, nf_data nofun nofun⟩, fun _ e => ⟨_, sInj e ▸ h', nf_data (fun _ _ e => by cases e) (fun _ e => by cases e)⟩⟩
 | cell h hd _ => exact ⟨⟨_, h, nf_data (hd ▸ nofun) (hd ▸ nofun)⟩, nofun⟩
 | cell0 h hd => exact ⟨⟨_, h, nf_data (hd ▸ nofun) (hd ▸ nofun)⟩, nofun⟩
 | lam h _ _ _ _ => exact ⟨⟨_, h, nf_data nofun nofun⟩, nofun⟩
 | tab h ht _ => exact ⟨⟨_, h, nf_of nofun fun vs e => ⟨nofun, fun x t q => triples_1 ht x t ((Array.getElem?_toList (xs := _)).symm ▸ by cases e; exact q)⟩⟩, nofun⟩
theorem OR.inv {news : Led} {al : Al} {p : Addr × Option Addr} {o : O} (h : OR K prog w news al p o) : match o with
  | .list l => p.2 = none ∧ ∃ vs n, (p.1, listOf vs.toArray n) ∈ news ∧ VRs K news al vs l
  | .sdict fs => p.2 = none ∧ ∃ o kvs, (p.1, o) ∈ news ∧ o.IsDictOf (strKind prog w) kvs ∧ (p.1 == sysModules) = false ∧ PR K news al kvs fs
  | .inst C fs => ∃ dx es n, p.2 = some dx ∧ (p.1, instObj C dx) ∈ news ∧ (dx, dictOf es n) ∈ news ∧ FR K w.params news al es fs
  | .cell y => p.2 = none ∧ ∃ o v, (p.1, o) ∈ news ∧ o.data = .cell v ∧ ∀ z, y = some z → ∃ u, v = some u ∧ VR K news al u z
  | .lam ps b sc q cl => p.2 = none ∧ ∃ c' oc vs t name clos pm ctv, (p.1, kla_obj name q ps b sc clos pm c' ctv) ∈ news ∧ (c', oc) ∈ news ∧ oc.data = .fields vs ∧ vs[1]? = some (.str q t) ∧ ∀ x k, cl.lookup x = some k → ∃ a, clos.lookup x = some a ∧ al[k]? = some (a, none)
  | .tab q => p.2 = none ∧ ∃ ps, (p.1, tabObj ps) ∈ news ∧ TriplesOk ps.toList ∧ ∀ pos cv, codeAmong pos ps.toList = some cv → ∃ c' oc vs t, cv = .ref c' ∧ (c', oc) ∈ news ∧ oc.data = .fields vs ∧ vs[1]? = some (.str q t) := by
 cases h with
 | list h h1 => exact ⟨rfl, _, _, h, h1⟩
 | sdict h h1 h2 h3 => exact ⟨rfl, _, _, h, h1, h2, h3⟩
 | inst h h1 h2 => exact ⟨_, _, _, rfl, h, h1, h2⟩
 | cell h h1 h2 => exact ⟨rfl, _, _, h, h1, fun z e => ⟨_, rfl, sInj e ▸ h2⟩⟩
 | cell0 h h1 => exact ⟨rfl, _, _, h, h1, nofun⟩
 | lam h h1 h2 h3 h4 => exact ⟨rfl, _, _, _, _, _, _, _, _, h, h1, h2, h3, h4⟩
 | tab h h1 h2 => exact ⟨rfl, _, h, h1, h2⟩
theorem HR.own {news : Led} {al : Al} {st : Sto} (H : HR K prog w news al st) {a : Addr} (h : a ∈ flat al) : ∃ ob, (a, ob) ∈ news ∧ ¬ Free ob := by
 obtain ⟨k, p, hk, e⟩ := mem_flat.mp h
 obtain ⟨o, _, ho⟩ := H.at hk
 rcases e with rfl | e
 ·exact ho.own.1
 ·exact ho.own.2 a e
theorem HR.own_dom {news : Led} {al : Al} {st : Sto} (H : HR K prog w news al st) {a : Addr} (h : a ∈ flat al) : a ∈ news.map (·.1) := by
 obtain ⟨ob, hm, _⟩ := H.own h
 exact List.mem_map_of_mem (f := (·.1)) hm
theorem HR.free_of {news : Led} {al : Al} {st : Sto} (H : HR K prog w news al st) {a : Addr} {o : Obj} (h : (a, o) ∈ news) (hf : Free o) : a ∉ flat al := fun ha => by
 obtain ⟨ob, hm, hn⟩ := H.own ha
 exact hn (nodup_eq H.nd hm h ▸ hf)
theorem free_code {o : Obj} {vs : Array Value} {x : Str} {t : Tok} (h : o.data = .fields vs) (h' : vs[1]? = some (.str x t)) : Free o := .inr ⟨vs, h, .inr ⟨x, t, h'⟩⟩
structure Kp (news : Led) (al : Al) (news' : Led) (al' : Al) : Prop where
 more : ∃ β : Al, al' = al ++ β
 keep : ∀ p ∈ news, Free p.2 → p ∈ news'
theorem Kp.at {news news' : Led} {al al' : Al} (X : Kp news al news' al') {k : Nat} {p : Addr × Option Addr} (h : al[k]? = some p) : al'[k]? = some p := by
 obtain ⟨β, e⟩ := X.more
 rw [e]; exact (List.getElem?_append_left (List.getElem?_eq_some_iff.mp h).1).trans h
theorem Ext.kp {news news' : Led} {al al' : Al} {st : Sto} (H : HR K prog w news al st) (X : Ext news al news' al') : Kp news al news' al' :=
 ⟨let ⟨β, e, _⟩ := X.more; ⟨β, e⟩, fun p hp hf => X.keep p hp (H.free_of hp hf)⟩
theorem VR.kp {news news' : Led} {al al' : Al} (X : Kp news al news' al') {v : Value} {x : V} (h : VR K news al v x) : VR K news' al' v x :=
 VR.rec (motive_1 := fun v x _ => VR K news' al' v x) (motive_2 := fun vs l _ => VRs K news' al' vs l) .none .bool .int .str (fun h _ hs => .tup (X.keep _ h (.inl ⟨rfl, _, _, rfl⟩)) hs) (fun h _ hs => .tupK h hs) (fun h => .hnd (X.at h)) .glob .bi .ty (fun h => .rng (X.keep _ h (.inr ⟨_, rfl, .inl rfl⟩))) (fun h h1 h2 _ hs => .lstK h h1 h2 hs) .nil (fun _ _ h hs => .cons h hs) h
theorem VRs.kp {news news' : Led} {al al' : Al} (X : Kp news al news' al') {v : List Value} {x : List V} (h : VRs K news al v x) : VRs K news' al' v x := VRs.ind (P := fun vs l _ => VRs K news' al' vs l) .nil (fun h _ ih => .cons (h.kp X) ih) h
theorem FR.kp {P : Params} {news news' : Led} {al al' : Al} (X : Kp news al news' al') {es : List DictEntry} {fs} (h : FR K P news al es fs) : FR K P news' al' es fs := by
 induction h with
 | nil => exact .nil
 | cons h _ ih => exact .cons (h.kp X) ih
theorem PR.kp {κ : Type} {news news' : Led} {al al' : Al} (X : Kp news al news' al') {es : List (κ × Value)} {fs : List (κ × V)} (h : PR K news al es fs) : PR K news' al' es fs := by
 induction h with
 | nil => exact .nil
 | cons h _ ih => exact .cons (h.kp X) ih
theorem OR.kp {news news' : Led} {al al' : Al} (X : Kp news al news' al') {p : Addr × Option Addr} {o : O} (hm : ∀ a ob, (a = p.1 ∨ p.2 = some a) → (a, ob) ∈ news → (a, ob) ∈ news') (h : OR K prog w news al p o) : OR K prog w news' al' p o := by
 cases h with
 | list h hs => exact .list (hm _ _ (.inl rfl) h) (hs.kp X)
 | sdict h hd hn hs => exact .sdict (hm _ _ (.inl rfl) h) hd hn (hs.kp X)
 | inst h h' hs => exact .inst (hm _ _ (.inl rfl) h) (hm _ _ (.inr rfl) h') (hs.kp X)
 | cell h hd hv => exact .cell (hm _ _ (.inl rfl) h) hd (hv.kp X)
 | cell0 h hd => exact .cell0 (hm _ _ (.inl rfl) h) hd
 | lam h hc h1 h2 h3 => exact .lam (hm _ _ (.inl rfl) h) (X.keep _ hc (free_code h1 h2)) h1 h2 (by
   intro x k e
   obtain ⟨a, e1, e2⟩ := h3 x k e
   exact ⟨a, e1, X.at e2⟩)
 | tab h ht hc => exact .tab (hm _ _ (.inl rfl) h) ht (by
   intro pos cv e
   obtain ⟨c', oc, vs, t, e1, e2, e3, e4⟩ := hc pos cv e
   exact ⟨c', oc, vs, t, e1, X.keep _ e2 (free_code e3 e4), e3, e4⟩)
theorem VR.ext {news news' : Led} {al al' : Al} {st : Sto} (H : HR K prog w news al st) (X : Ext news al news' al') {v : Value} {x : V} (h : VR K news al v x) : VR K news' al' v x := h.kp (X.kp H)
theorem VRs.ext {news news' : Led} {al al' : Al} {st : Sto} (H : HR K prog w news al st) (X : Ext news al news' al') {v : List Value} {x : List V} (h : VRs K news al v x) : VRs K news' al' v x := h.kp (X.kp H)
theorem FR.ext {P : Params} {news news' : Led} {al al' : Al} {st : Sto} (H : HR K prog w news al st) (X : Ext news al news' al') {es : List DictEntry} {fs} (h : FR K P news al es fs) : FR K P news' al' es fs := h.kp (X.kp H)
theorem PR.ext {κ : Type} {news news' : Led} {al al' : Al} {st : Sto} (H : HR K prog w news al st) (X : Ext news al news' al') {es : List (κ × Value)} {fs : List (κ × V)} (h : PR K news al es fs) : PR K news' al' es fs := h.kp (X.kp H)
theorem OR.ext {news news' : Led} {al al' : Al} {st : Sto} (H : HR K prog w news al st) (X : Ext news al news' al') {p : Addr × Option Addr} {o : O} (hm : ∀ a ob, (a = p.1 ∨ p.2 = some a) → (a, ob) ∈ news → (a, ob) ∈ news') (h : OR K prog w news al p o) : OR K prog w news' al' p o := h.kp (X.kp H) hm
theorem Ext.refl {news : Led} {al : Al} : Ext news al news al := ⟨⟨[], by simp, by simp [flat]⟩, fun _ h _ => h, fun _ h => h⟩
theorem Ext.trans {n1 n2 n3 : Led} {a1 a2 a3 : Al} {st : Sto} (H : HR K prog w n1 a1 st) (X : Ext n1 a1 n2 a2) (Y : Ext n2 a2 n3 a3) : Ext n1 a1 n3 a3 := by
 obtain ⟨β, rfl, hβ⟩ := X.more
 obtain ⟨γ, rfl, hγ⟩ := Y.more
 refine ⟨⟨β ++ γ, by rw [List.append_assoc], fun a ha => ?_⟩, fun p hp hn => ?_, fun a ha => Y.dom a (X.dom a ha)⟩
 ·rw [flat_append] at ha
  rcases List.mem_append.mp ha with h | h
  ·exact hβ a h
  ·exact fun q => hγ a h (X.dom a q)
 ·refine Y.keep p (X.keep p hp hn) fun q => ?_
  rw [flat_append] at q
  rcases List.mem_append.mp q with h | h
  ·exact hn h
  ·exact hβ p.1 h (List.mem_map_of_mem (f := (·.1)) hp)
theorem Ext.free {news : Led} {al : Al} {a : Addr} {o : Obj} : Ext news al ((a, o) :: news) al :=
 ⟨⟨[], by simp, by simp [flat]⟩, fun _ h _ => List.mem_cons_of_mem _ h, fun _ h => List.mem_cons_of_mem _ h⟩
theorem Ext.owned {news : Led} {al : Al} {a : Addr} {o : Obj} (h : a ∉ news.map (·.1)) : Ext news al ((a, o) :: news) (al ++ [(a, none)]) :=
 ⟨⟨[(a, none)], rfl, fun b hb => by simp [flat] at hb; subst hb; exact h⟩, fun _ h _ => List.mem_cons_of_mem _ h, fun _ h => List.mem_cons_of_mem _ h⟩
noncomputable def dropLed (a : Addr) (news : Led) : Led := news.filter fun p => p.1 != a
theorem mem_dropLed {a : Addr} {p : Addr × Obj} {news : Led} : p ∈ dropLed a news ↔ p ∈ news ∧ p.1 ≠ a := by
 unfold dropLed; rw [List.mem_filter]; simp
theorem dropLed_nodup {a : Addr} : ∀ {news : Led}, (news.map (·.1)).Nodup → ((dropLed a news).map (·.1)).Nodup
 | [], _ => List.nodup_nil
 | p :: r, h => by
  simp only [List.map_cons, List.nodup_cons] at h
  unfold dropLed
  rw [List.filter_cons]
  split
  ·simp only [List.map_cons, List.nodup_cons]
   refine ⟨fun q => h.1 ?_, dropLed_nodup (a := a) h.2⟩
   obtain ⟨x, hx, e⟩ := List.mem_map.mp q
   exact List.mem_map.mpr ⟨x, (List.mem_filter.mp hx).1, e⟩
  ·exact dropLed_nodup h.2
theorem HR.drop {news : Led} {al : Al} {st : Sto} {a : Addr} (H : HR K prog w news al st) (ha : a ∉ flat al) (hf : ∀ o, (a, o) ∈ news → ¬ Free o) : HR K prog w (dropLed a news) al st ∧ Kp news al (dropLed a news) al := by
 have X : Kp news al (dropLed a news) al := ⟨⟨[], by simp⟩, fun p hp hfr => mem_dropLed.mpr ⟨hp, fun e => hf p.2 (by rw [← e]; exact hp) hfr⟩⟩
 exact ⟨⟨dropLed_nodup H.nd, H.len, H.nda, fun k p o hk hs => (H.obj k p o hk hs).kp X fun b ob hb hm => mem_dropLed.mpr ⟨hm, fun e => ha (mem_flat.mpr ⟨k, p, hk, by rw [← (show b = a from e)]; exact hb⟩)⟩⟩, X⟩
theorem HR.free {news : Led} {al : Al} {st : Sto} {a : Addr} {o : Obj} (H : HR K prog w news al st) (h : a ∉ news.map (·.1)) : HR K prog w ((a, o) :: news) al st :=
 ⟨List.nodup_cons.mpr ⟨h, H.nd⟩, H.len, H.nda, fun k p ob hk hs => (H.obj k p ob hk hs).ext H Ext.free fun _ _ _ hm => List.mem_cons_of_mem _ hm⟩
theorem HR.snoc {news : Led} {al : Al} {st : Sto} {p : Addr × Option Addr} {x : O} (H : HR K prog w news al st) (h1 : (p.1 :: p.2.toList).Nodup) (h2 : ∀ a ∈ p.1 :: p.2.toList, a ∉ flat al) (hx : OR K prog w news (al ++ [p]) p x) : HR K prog w news (al ++ [p]) (st ++ [x]) := by
 refine ⟨H.nd, by rw [List.length_append, List.length_append, H.len]; rfl, ?_, fun k q ob hk hs => ?_⟩
 ·rw [flat_append]
  refine List.nodup_append.mpr ⟨H.nda, ?_, fun b hb c hc e => h2 c ?_ (e ▸ hb)⟩
  ·rw [show flat [p] = p.1 :: p.2.toList from List.append_nil _]; exact h1
  ·rw [show flat [p] = p.1 :: p.2.toList from List.append_nil _] at hc; exact hc
 ·by_cases hlt : k < al.length
  ·rw [List.getElem?_append_left hlt] at hk
   rw [List.getElem?_append_left (H.len ▸ hlt)] at hs
   exact (H.obj k q ob hk hs).kp ⟨⟨[p], rfl⟩, fun _ h _ => h⟩ fun _ _ _ hm => hm
  ·have hk2 : k = al.length := by have := (List.getElem?_eq_some_iff.mp hk).1; rw [List.length_append] at this; exact Nat.le_antisymm (Nat.le_of_lt_succ this) (Nat.not_lt.mp hlt)
   rw [hk2, List.getElem?_concat_length] at hk
   rw [hk2, H.len, List.getElem?_concat_length] at hs
   rw [← sInj hk, ← sInj hs]
   exact hx
theorem HR.owned {news : Led} {al : Al} {st : Sto} {a : Addr} {o : Obj} {x : O} (H : HR K prog w news al st) (h : a ∉ news.map (·.1)) (hx : OR K prog w ((a, o) :: news) (al ++ [(a, none)]) (a, none) x) : HR K prog w ((a, o) :: news) (al ++ [(a, none)]) (st ++ [x]) :=
 (H.free h).snoc (p := (a, none)) (List.nodup_cons.mpr ⟨nofun, List.nodup_nil⟩) (fun b hb => List.mem_singleton.mp hb ▸ fun q => h (H.own_dom q)) hx
noncomputable def putLed (d : Addr) (o : Obj) (news : Led) : Led := news.map fun p => if p.1 = d then (d, o) else p
theorem putLed_dom (d : Addr) (o : Obj) (news : Led) : (putLed d o news).map (·.1) = news.map (·.1) := by
 induction news with
 | nil => rfl
 | cons p r ih =>
  unfold putLed at ih ⊢
  simp only [List.map_cons]
  rw [ih]
  split
  ·rename_i e; rw [e]
  ·rfl
theorem putLed_off {d : Addr} {o : Obj} : ∀ {news : Led}, d ∉ news.map (·.1) → putLed d o news = news
 | [], _ => rfl
 | p :: r, h => by
  simp only [List.map_cons, List.mem_cons, not_or] at h
  show (if p.1 = d then (d, o) else p) :: putLed d o r = p :: r
  rw [if_neg (Ne.symm h.1), putLed_off h.2]
theorem putLed_upd {d : Addr} {o o' : Obj} : ∀ {news : Led}, (news.map (·.1)).Nodup → (d, o) ∈ news → Upd d o o' news (putLed d o' news)
 | p :: r, nd, h => by
  simp only [List.map_cons, List.nodup_cons] at nd
  rcases List.mem_cons.mp h with e | h
  ·subst e
   show Upd d o o' ((d, o) :: r) ((if d = d then (d, o') else (d, o)) :: putLed d o' r)
   rw [if_pos rfl, putLed_off nd.1]
   exact .head fun p hp e => nd.1 (e ▸ List.mem_map_of_mem (f := (·.1)) hp)
  ·have hne : p.1 ≠ d := fun e => nd.1 (e ▸ List.mem_map_of_mem (f := (·.1)) h)
   show Upd d o o' (p :: r) ((if p.1 = d then (d, o') else p) :: putLed d o' r)
   rw [if_neg hne]
   exact .tail hne (putLed_upd nd.2 h)
theorem mem_putLed_ne {d a : Addr} {o ob : Obj} {news : Led} (h : (a, ob) ∈ news) (hn : a ≠ d) : (a, ob) ∈ putLed d o news :=
 List.mem_map.mpr ⟨(a, ob), h, if_neg hn⟩
theorem mem_putLed_at {d : Addr} {o ob : Obj} {news : Led} (h : (d, ob) ∈ news) : (d, o) ∈ putLed d o news := List.mem_map.mpr ⟨(d, ob), h, if_pos rfl⟩
theorem Ext.put {news : Led} {al : Al} {d : Addr} {o : Obj} (hd : d ∈ flat al) : Ext news al (putLed d o news) al :=
 ⟨⟨[], by simp, by simp [flat]⟩, fun p h hn => mem_putLed_ne (a := p.1) (ob := p.2) h fun e => hn (e ▸ hd), fun a ha => by rw [putLed_dom]; exact ha⟩
theorem flat_disj {al : Al} : (flat al).Nodup → ∀ {j k : Nat} {p q : Addr × Option Addr} {a : Addr}, al[j]? = some p → al[k]? = some q → j ≠ k → (a = p.1 ∨ p.2 = some a) → ¬ (a = q.1 ∨ q.2 = some a) := by
 induction al with
 | nil => intro _ j k p q a h; simp at h
 | cons x r ih =>
  intro nd j k p q a hj hk hne hp hq
  have nd' : (flat (x :: r)) = (x.1 :: x.2.toList) ++ flat r := rfl
  rw [nd', List.nodup_append] at nd
  obtain ⟨_, nr, dj⟩ := nd
  have inX : ∀ {b : Addr}, (b = x.1 ∨ x.2 = some b) → b ∈ x.1 :: x.2.toList := fun h => h.elim (fun e => e ▸ List.mem_cons_self) fun e => List.mem_cons_of_mem _ (Option.mem_toList.mpr e)
  cases j with
  | zero =>
   cases k with
   | zero => exact hne rfl
   | succ k =>
    simp at hj hk
    subst hj
    exact dj a (inX hp) a (mem_flat.mpr ⟨k, q, hk, hq⟩) rfl
  | succ j =>
   cases k with
   | zero =>
    simp at hj hk
    subst hk
    exact dj a (inX hq) a (mem_flat.mpr ⟨j, p, hj, hp⟩) rfl
   | succ k =>
    simp at hj hk
    exact ih nr hj hk (fun e => hne (by rw [e])) hp hq
theorem HR.put {news : Led} {al : Al} {st : Sto} {k : Nat} {p : Addr × Option Addr} {d : Addr} {o : Obj} {x : O} (H : HR K prog w news al st) (hk : al[k]? = some p) (hd : d = p.1 ∨ p.2 = some d)
  (hx : OR K prog w (putLed d o news) al p x) : HR K prog w (putLed d o news) al (st.set k x) := by
 have hdf : d ∈ flat al := mem_flat.mpr ⟨k, p, hk, hd⟩
 refine ⟨by rw [putLed_dom]; exact H.nd, by rw [List.length_set]; exact H.len, H.nda, fun j q ob hj hs => ?_⟩
 by_cases e : k = j
 ·subst e
  rw [hk] at hj
  induction hj using E1
  have hlt : k < st.length := H.len ▸ (List.getElem?_eq_some_iff.mp hk).1
  rw [List.getElem?_set_self hlt] at hs
  induction hs using E1
  exact hx
 ·rw [List.getElem?_set_ne e] at hs
  exact (H.obj j q ob hj hs).ext H (Ext.put hdf) fun a ob ha hm => mem_putLed_ne hm fun z => flat_disj H.nda hj hk (Ne.symm e) ha (z ▸ hd)
end
def M (α : Type) : Type := Sto → Option (Except Addr α × Sto)
noncomputable def M.pure {α : Type} (a : α) : M α := fun st => some (.ok a, st)
noncomputable def M.bind {α β : Type} (m : M α) (f : α → M β) : M β := fun st => match m st with
 | none => none
 | some (.ok a, st') => f a st'
 | some (.error C, st') => some (.error C, st')
noncomputable def stop {α : Type} : M α := fun _ => none
theorem M.elim {α β : Type} {m : M α} {f : α → M β} {st : Sto} {r : Except Addr β × Sto} {P : Prop} (e : M.bind m f st = some r) (k1 : ∀ a st1, m st = some (.ok a, st1) → f a st1 = some r → P) (k2 : ∀ C st1, m st = some (.error C, st1) → (.error C, st1) = r → P) : P := by
 unfold M.bind at e
 cases h : m st with
 | none => rw [h] at e; exact noS e
 | some p =>
  obtain ⟨r1, st1⟩ := p
  rw [h] at e
  cases r1 with
  | ok a => exact k1 a st1 h e
  | error C => exact k2 C st1 h (sInj e)
def ofOpt {α : Type} (o : Option α) : M α := match o with
 | some a => M.pure a
 | none => stop
structure Pg where
 prog : Program
 p : Program
 loose : List Str
 K : Params → Frag
 tabs : List (Addr × Addr)
 gl : Str → Option V
 keep : Addr → Bool
 flds : Addr → List Str
 meth : Addr → Str → Option Addr
 exc : Addr → Bool
structure Act where
 w : World
 mean : ExcName → Option Value
 mg : Str → Option Value
 mb : Str → Option Value
 A₀ : Around
 base : Heap
 h₀ : Heap
 outer : List Env
 cn : Str
 cs : Scope
 L : Addr
 a : Addr
 ccd : Value
 cl : List (Str × Addr)
 comp : Option (Addr × Scope × List (Str × Addr))
 fly : (Str → Option Value) → Addr → Value → Shared → Led → Al → Sto → Prop
 fnew : (Str → Option Value) → Addr → Value → Shared → Led → Al → Sto → Prop
 fheld : (Str → Option Value) → Addr → Value → Shared → Led → Al → Sto → Prop
noncomputable abbrev Act.fenv (c : Act) : Env := envX c.cn c.cs c.L c.a c.ccd c.cl
def Act.env (c : Act) : Env := match c.comp with
 | none => c.fenv
 | some (C, sc, cl) => compEnvC sc cl C c.fenv
def Act.nsc (c : Act) : Scope := match c.comp with
 | none => c.cs
 | some (_, sc, _) => relabel sc c.fenv
noncomputable def Act.ncl (c : Act) : List (Str × Addr) := match c.comp with
 | none => c.cl
 | some (_, _, cl) => cl
def Act.Look (c : Act) (news : Led) (al : Al) (m : Str → Option Value) (x : Str) (v : Value) : Prop := match c.comp with
 | none => m x = some v
 | some (C, _, _) => ∃ oC mm, (C, oC) ∈ news ∧ C ∉ flat al ∧ LCg.NsObj oC mm ∧ mm x = some v
noncomputable abbrev Act.fs (c : Act) : List Addr := c.outer.filterMap (·.frame)
def NewX (h h' : Heap) (e : Addr) (cls : Value) : Prop := (∀ b o, h.get? b = some o → h'.get? b = some o) ∧ h.get? e = none ∧ ∃ oe vs a0, h'.get? e = some oe ∧ oe.cls = cls ∧ oe.data = .fields vs ∧ vs[0]? = some a0 ∧ vs[1]? = some .none
inductive FlyOn (G : Pg) (c : Act) (m : Str → Option Value) (C : Addr) (s : Shared) (news : Led) (al : Al) (st : Sto) : Value → Prop where
 | mk {e : Addr} {h g : Heap} : KtsTurn c.fs c.h₀ g → Fr g c.L h m → h.UpToSlots s.heap → RaisedSN c.base h (c.fenv :: c.outer) e (.ref C) news s.heap → HR (G.K c.w.params) G.prog c.w news al st → FlyOn G c m C s news al st (.ref e)
inductive FlyNew (G : Pg) (c : Act) (m : Str → Option Value) (C : Addr) (s : Shared) (news : Led) (al : Al) (st : Sto) : Value → Prop where
 | mk {e : Addr} {h g : Heap} : KtsTurn c.fs c.h₀ g → Fr g c.L h m → News g c.L h news → NewX h s.heap e (.ref C) → HR (G.K c.w.params) G.prog c.w news al st → FlyNew G c m C s news al st (.ref e)
inductive FlyHeld (G : Pg) (c : Act) (m : Str → Option Value) (C : Addr) (s : Shared) (news : Led) (al : Al) (st : Sto) : Value → Prop where
 | mk {e : Addr} {h g : Heap} : KtsTurn c.fs c.h₀ g → Fr g c.L h m → h.UpToSlots s.heap → RaisedHN c.base h (c.fenv :: c.outer) c.L e (.ref C) news s.heap → HR (G.K c.w.params) G.prog c.w news al st → FlyHeld G c m C s news al st (.ref e)
noncomputable def Act.std (G : Pg) (c : Act) : Act := { c with fly := fun m C v s n a t => FlyOn G c m C s n a t v, fnew := fun m C v s n a t => FlyNew G c m C s n a t v, fheld := fun m C v s n a t => FlyHeld G c m C s n a t v }
section
variable {G : Pg} {c : Act} {m : Str → Option Value} {C : Addr} {s : Shared} {n : Led} {a : Al} {t : Sto} {v : Value}
theorem std_fl : FlyOn G c m C s n a t v ↔ FlyOn G (c.std G) m C s n a t v := ⟨fun | .mk a b d e f => .mk a b d e f, fun | .mk a b d e f => .mk a b d e f⟩
theorem std_fn : FlyNew G c m C s n a t v ↔ FlyNew G (c.std G) m C s n a t v := ⟨fun | .mk a b d e f => .mk a b d e f, fun | .mk a b d e f => .mk a b d e f⟩
theorem std_fh : FlyHeld G c m C s n a t v ↔ FlyHeld G (c.std G) m C s n a t v := ⟨fun | .mk a b d e f => .mk a b d e f, fun | .mk a b d e f => .mk a b d e f⟩
end
structure Act.Ok (G : Pg) (c : Act) : Prop where
 B : Below c.A₀ c.base c.outer c.h₀
 hk : c.cs.kind = .function
 hc : ∀ C sc cl, c.comp = some (C, sc, cl) → sc.kind = .function
 X : (G.K c.w.params).In c.base
 T : Top G.p G.loose c.mean c.mg c.mb c.base
 cd : ∀ q ∈ G.tabs, CodeHd c.base q.1 q.2
 fl : ∀ {m C v s n a t}, c.fly m C v s n a t ↔ FlyOn G c m C s n a t v
 fn : ∀ {m C v s n a t}, c.fnew m C v s n a t ↔ FlyNew G c m C s n a t v
 fh : ∀ {m C v s n a t}, c.fheld m C v s n a t ↔ FlyHeld G c m C s n a t v
theorem below_turn {A : Around} {base g g' : Heap} {outer : List Env} (K : Below A base outer g) (T : KtsTurn (outer.filterMap (·.frame)) g g') : Below A base outer g' :=
 ⟨K.stack, fun b o e => T.other b o (K.stays b o e) (fun hm => noS ((K.frames.mem hm).1.symm.trans e)), K.frames.of_keeps fun b o e _ => let ⟨_, hs⟩ := T.up e; ⟨_, hs, rfl⟩⟩
structure Ar (c : Act) (k : Nat) (q : Bool) (A : Around) : Prop where
 fr : A.frames = some (c.fenv :: c.outer)
 dep : A.depth + 8 * k + 16 < recursionLimit
 un : A.units + 64 * k + 128 < cLine
 hd : q = true → A.handled = none
def Same (s s' : Shared) : Prop := s'.os = s.os ∧ s'.gens = s.gens
theorem Same.refl {s : Shared} : Same s s := ⟨rfl, rfl⟩
theorem Same.trans {s s' s'' : Shared} (x : Same s s') (y : Same s' s'') : Same s s'' := ⟨y.1.trans x.1, y.2.trans x.2⟩
structure St (G : Pg) (c : Act) (CL : List (Str × Nat)) (ρ : List (Str × V)) (m : Str → Option Value) (s : Shared) (news : Led) (al : Al) (st : Sto) : Prop where
 gd : ∃ g, KtsTurn c.fs c.h₀ g ∧ Fr g c.L s.heap m ∧ News g c.L s.heap news
 H : HR (G.K c.w.params) G.prog c.w news al st
 R : ∀ x y, ρ.lookup x = some y → ∃ v, c.Look news al m x v ∧ VR (G.K c.w.params) news al v y
 C : ∀ x k, CL.lookup x = some k → ∃ a, c.ncl.lookup x = some a ∧ al[k]? = some (a, none)
 I : ∀ (i : Nat) (q : Addr × Addr), G.tabs[i]? = some q → al[i]? = some (q.2, none)
section
variable {G : Pg} {c : Act} {k : Nat} {q : Bool} {CL : List (Str × Nat)} {ρ : List (Str × V)} {m : Str → Option Value} {s s' : Shared} {news news' : Led} {al al' : Al} {st st' : Sto}
def St.gr (S : St G c CL ρ m s news al st) : Heap := S.gd.choose
theorem St.T (S : St G c CL ρ m s news al st) : KtsTurn c.fs c.h₀ S.gr := S.gd.choose_spec.1
theorem St.F (S : St G c CL ρ m s news al st) : Fr S.gr c.L s.heap m := S.gd.choose_spec.2.1
theorem St.N (S : St G c CL ρ m s news al st) : News S.gr c.L s.heap news := S.gd.choose_spec.2.2
theorem St.B (S : St G c CL ρ m s news al st) (hc : c.Ok G) : Below c.A₀ c.base c.outer S.gr := below_turn hc.B S.T
theorem St.sty (S : St G c CL ρ m s news al st) (hc : c.Ok G) : c.base.StaysIn s.heap := fun b o e => S.F.keep _ _ ((S.B hc).stays _ _ e)
theorem St.XG (S : St G c CL ρ m s news al st) (hc : c.Ok G) : (G.K c.w.params).In S.gr := hc.X.keeps (S.B hc).stays
theorem St.TG (S : St G c CL ρ m s news al st) (hc : c.Ok G) : Top G.p G.loose c.mean c.mg c.mb S.gr := hc.T.keeps (S.B hc).stays
theorem Act.Look.ext {x : Str} {v : Value} (h : c.Look news al m x v) (X : Ext news al news' al') : c.Look news' al' m x v := by
 unfold Act.Look at h ⊢
 split at h
 ·exact h
 ·obtain ⟨oC, mm, h1, h2, h3, h4⟩ := h
  refine ⟨oC, mm, X.keep _ h1 h2, fun q => ?_, h3, h4⟩
  obtain ⟨β, e, hβ⟩ := X.more
  rw [e, flat_append] at q
  rcases List.mem_append.mp q with q | q
  ·exact h2 q
  ·exact hβ _ q (List.mem_map_of_mem (f := (·.1)) h1)
theorem St.extg (S : St G c CL ρ m s news al st) (X : Ext news al news' al') (gd : ∃ g, KtsTurn c.fs c.h₀ g ∧ Fr g c.L s'.heap m ∧ News g c.L s'.heap news') (H : HR (G.K c.w.params) G.prog c.w news' al' st') : St G c CL ρ m s' news' al' st' :=
 ⟨gd, H, fun x y e => let ⟨v, h1, h2⟩ := S.R x y e; ⟨v, h1.ext X, h2.ext S.H X⟩, fun x k e => by
  obtain ⟨a, h1, h2⟩ := S.C x k e
  obtain ⟨β, rfl, _⟩ := X.more
  exact ⟨a, h1, (List.getElem?_append_left (List.getElem?_eq_some_iff.mp h2).1).trans h2⟩, fun i q e => by
  have h2 := S.I i q e
  obtain ⟨β, rfl, _⟩ := X.more
  exact (List.getElem?_append_left (List.getElem?_eq_some_iff.mp h2).1).trans h2⟩
theorem St.ext (S : St G c CL ρ m s news al st) (X : Ext news al news' al') (F : Fr S.gr c.L s'.heap m) (N : News S.gr c.L s'.heap news') (H : HR (G.K c.w.params) G.prog c.w news' al' st') : St G c CL ρ m s' news' al' st' := S.extg X ⟨_, S.T, F, N⟩ H
def ErrK {α : Type} (c : Act) (m : Str → Option Value) (E : Value → Shared → Prop) (s : Shared) (news : Led) (al : Al) (r : Except Addr α × Sto) : Prop :=
 ∀ C st', r = (.error C, st') → ∀ e s' news' al', c.fly m C e s' news' al' st' → Ext news al news' al' → Same s s' → E e s'
theorem ErrK.step {α : Type} {E : Value → Shared → Prop} {r : Except Addr α × Sto} (h : ErrK c m E s news al r) (S : St G c CL ρ m s news al st) (X : Ext news al news' al') (G : Same s s') : ErrK c m E s' news' al' r :=
 fun C st' e x s'' n' a' hf X' G' => h C st' e x s'' n' a' hf (X.trans S.H X') (G.trans G')
def Sound (G : Pg) (c : Act) (k : Nat) (q : Bool) (CL : List (Str × Nat)) (ρ : List (Str × V)) {α β : Type} (rel : Frag → Led → Al → α → β → Prop) (t : Sem α) (mm : M β) : Prop :=
 ∀ (st : Sto) (r : Except Addr β × Sto), mm st = some r → ∀ (A : Around) (s : Shared) (m : Str → Option Value) (news : Led) (al : Al) (Q : α → Shared → Prop) (E : Value → Shared → Prop),
  Ar c k q A → St G c CL ρ m s news al st → ErrK c m E s news al r →
  (∀ y st', r = (.ok y, st') → ∀ v s' news' al', St G c CL ρ m s' news' al' st' → Ext news al news' al' → rel (G.K c.w.params) news' al' v y → Same s s' → Q v s') →
  wpAny (model G.prog c.w) A t Q E s
theorem Sound.go {α β γ : Type} {rel : Frag → Led → Al → α → β → Prop} {t : Sem α} {m1 : M β} {f : β → M γ} {r : Except Addr γ × Sto} {A : Around} {Q : α → Shared → Prop} {E : Value → Shared → Prop}
  (h1 : Sound G c k q CL ρ rel t m1) (hr : M.bind m1 f st = some r) (hA : Ar c k q A) (S : St G c CL ρ m s news al st) (hE : ErrK c m E s news al r)
  (hQ : ∀ y st1, f y st1 = some r → ∀ v s1 n1 a1, St G c CL ρ m s1 n1 a1 st1 → Ext news al n1 a1 → rel (G.K c.w.params) n1 a1 v y → Same s s1 → Q v s1) : wpAny (model G.prog c.w) A t Q E s := by
 unfold M.bind at hr
 cases e : m1 st with
 | none => rw [e] at hr; cases hr
 | some p =>
  obtain ⟨r1, st1⟩ := p
  rw [e] at hr
  cases r1 with
  | ok y => exact h1 st _ e A s m news al Q E hA S (fun C st' x => by cases x) fun y' st' x v s1 n1 a1 S1 X1 R1 G1 => by cases x; exact hQ y st1 hr v s1 n1 a1 S1 X1 R1 G1
  | error C =>
   cases hr
   exact h1 st _ e A s m news al Q E hA S (fun C' st' x => by cases x; exact hE C st1 rfl) fun y' st' x => by cases x
abbrev relV (K : Frag) (news : Led) (al : Al) : Value → V → Prop := VR K news al
abbrev relVs (K : Frag) (news : Led) (al : Al) : List Value → List V → Prop := VRs K news al
abbrev relB (_ : Frag) (_ : Led) (_ : Al) (a b : Bool) : Prop := a = b
abbrev relU (_ : Frag) (_ : Led) (_ : Al) (_ _ : Unit) : Prop := True
theorem Sound.stop_ {α β : Type} {rel : Frag → Led → Al → α → β → Prop} {t : Sem α} : Sound G c k q CL ρ rel t (stop : M β) := fun st r e => by exact noS e
end
section
variable {K : Frag} {news news' : Led} {al : Al}
theorem VRs.length {vs : List Value} {l : List V} (h : VRs K news al vs l) : vs.length = l.length := VRs.ind (P := fun vs l _ => vs.length = l.length) rfl (fun _ _ ih => congrArg (· + 1) ih) h
theorem VRs.get {vs : List Value} {l : List V} (h : VRs K news al vs l) {i : Nat} {y : V} : l[i]? = some y → ∃ v, vs[i]? = some v ∧ VR K news al v y := by
 induction h using VRs.ind generalizing i with
 | nil => exact nofun
 | cons h hs ih => cases i with
  | zero => exact fun e => ⟨_, rfl, sInj e ▸ h⟩
  | succ i => exact ih
theorem VRs.append {vs ws : List Value} {l l' : List V} (h : VRs K news al vs l) (h' : VRs K news al ws l') : VRs K news al (vs ++ ws) (l ++ l') := VRs.ind (P := fun vs l _ => VRs K news al (vs ++ ws) (l ++ l')) h' (fun h _ ih => .cons h ih) h
theorem VRs.nil_iff {vs : List Value} {l : List V} (h : VRs K news al vs l) : vs = [] ↔ l = [] := by
 cases h <;> simp
end
section
variable {G : Pg} {c : Act} {k : Nat} {q : Bool} {CL : List (Str × Nat)} {ρ : List (Str × V)} {m : Str → Option Value} {s s' : Shared} {news news' : Led} {al al' : Al} {st st' : Sto} {A : Around} {E : Value → Shared → Prop}
theorem St.at (S : St G c CL ρ m s news al st) (e : s'.heap = s.heap) : St G c CL ρ m s' news al st := ⟨e ▸ S.gd, S.H, S.R, S.C, S.I⟩
theorem St.fresh (S : St G c CL ρ m s news al st) : s.heap.objs.size ∉ news.map (·.1) := fun h => by
 obtain ⟨p, hp, e⟩ := List.mem_map.mp h
 exact absurd (Heap.lt_size (S.N p hp).1) (by rw [e]; exact Nat.lt_irrefl _)
theorem St.new (S : St G c CL ρ m s news al st) {o : Obj} {h' : Heap} {tk : Nat} (F : Fr S.gr c.L h' m) (N : News S.gr c.L h' ((s.heap.objs.size, o) :: news)) :
  St G c CL ρ m { s with heap := h', toks := tk } ((s.heap.objs.size, o) :: news) al st := S.ext Ext.free F N (S.H.free S.fresh)
theorem St.tup (hc : c.Ok G) (S : St G c CL ρ m s news al st) {a : Addr} {l : List V} (h : VR (G.K c.w.params) news al (.ref a) (.tup l)) : ∃ vs : List Value, IsTup s.heap a vs.toArray ∧ VRs (G.K c.w.params) news al vs l := by
 cases h with
 | tup h hs => exact ⟨_, S.N.isTup h, hs⟩
 | tupK h hs => exact ⟨_, tupK (hc.X.keeps (S.sty hc)) h, hs⟩
def Cont {α β : Type} (G : Pg) (c : Act) (CL : List (Str × Nat)) (ρ : List (Str × V)) (m : Str → Option Value) (s : Shared) (news : Led) (al : Al) (rel : Frag → Led → Al → α → β → Prop) (y : β) (st' : Sto) (Q : α → Shared → Prop) : Prop :=
 ∀ v s' news' al', St G c CL ρ m s' news' al' st' → Ext news al news' al' → rel (G.K c.w.params) news' al' v y → Same s s' → Q v s'
theorem Cont.here {α β : Type} {rel : Frag → Led → Al → α → β → Prop} {y : β} {Q : α → Shared → Prop} (h : Cont G c CL ρ m s news al rel y st Q) (S : St G c CL ρ m s news al st) {v : α} (r : rel (G.K c.w.params) news al v y) {s' : Shared} (e : s'.heap = s.heap) (x : Same s s') : Q v s' :=
 h v s' news al (S.at e) Ext.refl r x
theorem St.newTup (S : St G c CL ρ m s news al st) {vs : List Value} {l : List V} {Q : Value → Shared → Prop} (h : VRs (G.K c.w.params) news al vs l) (hsz : l.length ≤ sizeLine) (hQ : Cont G c CL ρ m s news al relV (.tup l) st Q) :
  wpAny (model G.prog c.w) A (newTuple vs) Q E s :=
 newTuple_N S.F S.N (fun h' F N => hQ _ _ _ _ (S.new (tk := s.toks) F N) Ext.free (.tup (.head _) (h.ext S.H Ext.free)) ⟨rfl, rfl⟩) (by rw [h.length]; exact hsz)
noncomputable def mulOk (a b : Int) : Bool := !(decide (Builtin.Int.intBits a > shortFactorBits) && decide (Builtin.Int.intBits b > shortFactorBits) && Builtin.Int.intTooBig (Builtin.Int.intBits a + Builtin.Int.intBits b))
noncomputable def powOk (a n : Int) : Bool := decide (0 ≤ n) && decide ((Builtin.Int.intBits a : Int) * n ≤ 2 ^ 27)
noncomputable def isAdd : Operator → Bool
 | .Add => true
 | _ => false
def binI (op : Operator) (i j : Int) : Option Int := match op with
 | .Add => some (i + j)
 | .Sub => some (i - j)
 | .Mult => if mulOk i j then some (i * j) else none
 | .FloorDiv => if j = 0 ∨ Builtin.divisionGoesByPylong i j = true then none else some (i.fdiv j)
 | .Mod => if j = 0 then none else some (i.fmod j)
 | .Pow => if powOk i j then some (i ^ j.toNat) else none
 | _ => none
def binV (op : Operator) (a b : V) : Option V := match a with
 | .int i => b.int?.bind fun j => (binI op i j).map .int
 | .str x => b.str?.bind fun y => if isAdd op = true ∧ x.length + y.length ≤ sizeLine then some (.str (x ++ y)) else none
 | .tup l => b.tup?.bind fun l' => if isAdd op = true ∧ l.length + l'.length ≤ sizeLine then some (.tup (l ++ l')) else none
 | _ => none
theorem isAdd_of {op : Operator} (h : isAdd op = true) : op = .Add := by cases op <;> first | rfl | exact noB h
theorem binI_sound (S : St G c CL ρ m s news al st) {op : Operator} {i j r : Int} {t u : Tok} {Q : Value → Shared → Prop} (e : binI op i j = some r) (hQ : Cont G c CL ρ m s news al relV (.int r) st Q) : wpAny (model G.prog c.w) A (binaryOp op (.int i t) (.int j u)) Q E s := by
 have H : ∀ tk, Q (.int r tk) { s with toks := s.toks + 1 } := fun tk => hQ.here S .int rfl ⟨rfl, rfl⟩
 cases op with
 | Add => exact add_int (sInj e ▸ H _)
 | Sub => exact sub_int' (sInj e ▸ H _)
 | Mult => exact iteS e fun hm e => mul_int (sInj e ▸ H _) fun z => by unfold mulOk at hm; rw [z] at hm; exact noB hm
 | FloorDiv =>
  exact iteE e (fun _ e => noS e) fun hm e => by
   rw [not_or, Bool.not_eq_true] at hm
   exact floordiv_int hm.1 (sInj e ▸ H _) (.inl hm.2)
 | Mod => exact iteE e (fun _ e => noS e) fun hm e => mod_int' hm (sInj e ▸ H _)
 | Pow =>
  exact iteS e fun hm e => by
   unfold powOk at hm
   rw [Bool.and_eq_true, decide_eq_true_iff, decide_eq_true_iff] at hm
   exact pow_int hm.1 hm.2 (sInj e ▸ H _)
 | _ => exact noS e
theorem binV_sound (hc : c.Ok G) (S : St G c CL ρ m s news al st) {op : Operator} {v1 v2 : Value} {y1 y2 y : V} {Q : Value → Shared → Prop} (h1 : VR (G.K c.w.params) news al v1 y1) (h2 : VR (G.K c.w.params) news al v2 y2) (e : binV op y1 y2 = some y)
  (hQ : Cont G c CL ρ m s news al relV y st Q) : wpAny (model G.prog c.w) A (binaryOp op v1 v2) Q E s := by
 cases y1 with
 | int i =>
  obtain ⟨t, e1⟩ := h1.inv
  refine bindE e fun j e2 e => ?_
  obtain ⟨u, e3⟩ := h2.vint e2
  obtain ⟨r, e4, e5⟩ := Option.map_eq_some_iff.mp e
  rw [e1, e3]
  exact binI_sound S e4 (e5 ▸ hQ)
 | str x =>
  obtain ⟨t, e1⟩ := h1.inv
  refine bindE e fun y' e2 e => iteS e fun hl e => ?_
  obtain ⟨u, e3⟩ := h2.vstr e2
  rw [e1, e3, isAdd_of hl.1]
  rw [← sInj e] at hQ
  exact add_str (fun t' tk => hQ.here S .str rfl ⟨rfl, rfl⟩) hl.2
 | tup l =>
  obtain ⟨a, e1⟩ := h1.inv
  refine bindE e fun l' e2 e => iteS e fun hl e => ?_
  obtain ⟨b, e3, h2⟩ := h2.vtup e2
  rw [e1] at h1
  rw [e1, e3, isAdd_of hl.1]
  rw [← sInj e] at hQ
  obtain ⟨vs, t1, r1⟩ := S.tup hc h1
  obtain ⟨ws, t2, r2⟩ := S.tup hc h2
  refine add_tuples S.F S.N t1 t2 (fun q => ?_) (fun _ q => ?_) (fun _ _ h' F N => hQ _ _ _ _ (S.new (tk := s.toks) F N) Ext.free (.tup (.head _) ((r1.append r2).ext S.H Ext.free)) ⟨rfl, rfl⟩) (by rw [r1.length, r2.length]; exact hl.2)
  ·rw [r1.nil_iff.mp q] at hQ; exact hQ.here S h2 rfl ⟨rfl, rfl⟩
  ·rw [r2.nil_iff.mp q, List.append_nil] at hQ; exact hQ.here S h1 rfl ⟨rfl, rfl⟩
 | _ => exact noS e
noncomputable def truO : O → Option Bool
 | .list l => if l.length ≤ sizeLine then some (!l.isEmpty) else none
 | _ => none
def truthV (y : V) (st : Sto) : Option Bool := match y with
 | .none => some false
 | .bool b => some b
 | .int i => some (i != 0)
 | .str x => if x.length ≤ sizeLine then some ((x.length : Int) != 0) else none
 | .tup l => if l.length ≤ sizeLine then some (!l.isEmpty) else none
 | .hnd k => st[k]?.bind truO
 | _ => none
theorem St.list (S : St G c CL ρ m s news al st) {a : Addr} {k : Nat} {l : List V} (h : VR (G.K c.w.params) news al (.ref a) (.hnd k)) (e : st[k]? = some (.list l)) : ∃ (vs : List Value) (n : Nat), al[k]? = some (a, none) ∧ (a, listOf vs.toArray n) ∈ news ∧ s.heap.IsList a vs.toArray ∧ VRs (G.K c.w.params) news al vs l := by
 obtain ⟨a', e0, x, hal⟩ := h.inv
 rw [← Value.ref.inj e0] at hal
 obtain ⟨e1, vs, n, hm, hs⟩ := (S.H.obj k _ _ hal e).inv
 exact ⟨vs, n, (show x = none from e1) ▸ hal, hm, ⟨_, S.N.get hm, rfl, _, rfl⟩, hs⟩
theorem VRs.empty {K : Frag} {vs : List Value} {l : List V} (h : VRs K news al vs l) : (!vs.toArray.isEmpty) = !l.isEmpty := by
 cases l with
 | nil => rw [show vs = [] from h.inv]; rfl
 | cons y r => obtain ⟨v, ws, e, _⟩ := h.inv; rw [e]; rfl
theorem truthV_sound (hc : c.Ok G) (S : St G c CL ρ m s news al st) {v : Value} {y : V} {b : Bool} {Q : Bool → Shared → Prop} (h : VR (G.K c.w.params) news al v y) (e : truthV y st = some b)
  (hQ : Cont G c CL ρ m s news al relB b st Q) : wpAny (model G.prog c.w) A (truthy v) Q E s := by
 have H : ∀ {b' : Bool} {tk : Nat}, b' = b → Q b' { s with toks := tk } := fun e => hQ.here S e rfl ⟨rfl, rfl⟩
 cases y with
 | none => exact (show v = _ from h.inv) ▸ truthy_none (H (sInj e))
 | bool b' => exact (show v = _ from h.inv) ▸ wpAny_truthy_bool (H (sInj e))
 | int i =>
  obtain ⟨t, e0⟩ := h.inv
  exact e0 ▸ PySem.P.truthy_int (H (sInj e))
 | str x =>
  obtain ⟨t, e0⟩ := h.inv
  exact iteS e fun hl e => e0 ▸ PySem.P.truthy_str (by simp only [sizeLine] at hl; lia) (H (sInj e))
 | tup l =>
  obtain ⟨a, e0⟩ := h.inv
  rw [e0] at h ⊢
  obtain ⟨vs, t1, r1⟩ := S.tup hc h
  exact iteS e fun hl e => truthy_tuple t1 (by have := r1.length; simp only [sizeLine] at hl; simp; lia) (H (r1.empty.trans (sInj e)))
 | hnd k =>
  refine bindE e fun o hk e => ?_
  cases o with
  | list l =>
   obtain ⟨a, e0, _⟩ := h.inv
   rw [e0] at h ⊢
   obtain ⟨vs, n, _, _, t1, r1⟩ := S.list h hk
   exact iteS e fun hl e => wpAny_truthy_list t1 (by have := r1.length; simp only [sizeLine] at hl; simp; lia) (H (r1.empty.trans (sInj e)))
  | _ => exact noS e
 | _ => exact noS e
end
mutual
noncomputable def dat0 : V → Option PyData
 | .none => some .none
 | .bool b => some (.bool b)
 | .int i => some (.int i)
 | .str x => some (.str x)
 | .tup l => (dats0 l).map .tuple
 | _ => none
noncomputable def dats0 : List V → Option (List PyData)
 | [] => some []
 | y :: r => (dat0 y).bind fun d => (dats0 r).bind fun ds => some (d :: ds)
end
noncomputable def strL : List V → Option (List Str)
 | [] => some []
 | .str x :: r => (strL r).map (x :: ·)
 | _ => none
def datV (y : V) (st : Sto) : Option PyData := y.hnd?.bind fun k => (lstAt st k).bind fun l => (dats0 l).map .list
def eq0 (y z : V) : Option Bool := (dat0 y).bind fun d => (dat0 z).bind fun e => if SeqAt.shaped d && SeqAt.shaped e then some (PyData.eqv d e) else none
noncomputable def ordI (op : CmpOp) (i j : Int) : Option Bool := match op with
 | .Eq => some (i == j)
 | .NotEq => some (i != j)
 | .Lt => some (decide (i < j))
 | .LtE => some (decide (i ≤ j))
 | .Gt => some (decide (j < i))
 | .GtE => some (decide (j ≤ i))
 | _ => none
noncomputable def eqX (op : CmpOp) (r : Bool) : Option Bool := match op with
 | .Eq => some r
 | .NotEq => some (!r)
 | _ => none
noncomputable def inX (op : CmpOp) (r : Bool) : Option Bool := match op with
 | .In => some r
 | .NotIn => some (!r)
 | _ => none
def cmpI (op : CmpOp) (a b : V) : Option Bool := a.int?.bind fun i => b.int?.bind fun j => ordI op i j
def cmpS (op : CmpOp) (a b : V) : Option Bool := a.str?.bind fun x => b.str?.bind fun y => eqX op (x == y)
def cmpIn (op : CmpOp) (a b : V) : Option Bool := a.str?.bind fun x => b.tup?.bind fun l => (strL l).bind fun zs => inX op (zs.any (· == x))
def cmpD (op : CmpOp) (a b : V) : Option Bool := (eq0 a b).bind fun r => eqX op r
def cmpV (op : CmpOp) (a b : V) : Option Bool := (cmpI op a b).or ((cmpS op a b).or ((cmpIn op a b).or (cmpD op a b)))
section
variable {G : Pg} {c : Act} {k : Nat} {q : Bool} {CL : List (Str × Nat)} {ρ : List (Str × V)} {m : Str → Option Value} {s s' : Shared} {news news' : Led} {al al' : Al} {st st' : Sto} {A : Around} {E : Value → Shared → Prop}
theorem dats0_cons {h : Heap} {v : Value} {y : V} {vs : List Value} {l : List V} (h1 : ∀ {d : PyData}, dat0 y = some d → ∃ as, Reads h v d as) (h2 : ∀ {ds : List PyData}, dats0 l = some ds → ∃ as, ReadsAll h vs ds as) {ds : List PyData} (e : dats0 (y :: l) = some ds) : ∃ as, ReadsAll h (v :: vs) ds as := by
 unfold dats0 at e
 refine bindE e fun d e1 e => bindE e fun ds e2 e => ?_
 obtain ⟨as, r⟩ := h1 e1
 obtain ⟨bs, r'⟩ := h2 e2
 exact sInj e ▸ ⟨_, .cons r r'⟩
theorem dat0_reads (hc : c.Ok G) (S : St G c CL ρ m s news al st) {v : Value} {y : V} {d : PyData} (h : VR (G.K c.w.params) news al v y) : dat0 y = some d → ∃ as, Reads s.heap v d as :=
 VR.rec (motive_1 := fun v y _ => ∀ {d}, dat0 y = some d → ∃ as, Reads s.heap v d as) (motive_2 := fun vs l _ => ∀ {ds}, dats0 l = some ds → ∃ as, ReadsAll s.heap vs ds as)
  (fun e => sInj e ▸ ⟨_, .none⟩) (fun e => sInj e ▸ ⟨_, .bool _⟩) (fun e => sInj e ▸ ⟨_, .int _ _⟩) (fun e => sInj e ▸ ⟨_, .str _ _⟩)
  (fun h _ ih _ e => by
   obtain ⟨ds, e1, e2⟩ := Option.map_eq_some_iff.mp e
   obtain ⟨as, r⟩ := ih e1
   exact e2 ▸ ⟨_, .tuple (S.N.get h) rfl rfl r⟩)
  (fun h _ ih _ e => by
   obtain ⟨ds, e1, e2⟩ := Option.map_eq_some_iff.mp e
   obtain ⟨as, r⟩ := ih e1
   exact e2 ▸ ⟨_, .tuple (hc.X.keeps (S.sty hc) _ _ h) rfl rfl r⟩)
  (fun _ _ e => noS e) (fun e => noS e) (fun e => noS e) (fun e => noS e) (fun _ _ e => noS e) (fun _ _ _ _ _ _ e => noS e)
  (fun e => sInj e ▸ ⟨_, .nil⟩) (fun _ _ h1 h2 _ e => dats0_cons h1 h2 e) h
theorem dats0_reads (hc : c.Ok G) (S : St G c CL ρ m s news al st) {vs : List Value} {l : List V} (h : VRs (G.K c.w.params) news al vs l) : ∀ {ds : List PyData}, dats0 l = some ds → ∃ as, ReadsAll s.heap vs ds as :=
 VRs.ind (P := fun vs l _ => ∀ {ds : List PyData}, dats0 l = some ds → ∃ as, ReadsAll s.heap vs ds as) (fun e => sInj e ▸ ⟨_, .nil⟩) (fun h _ h2 _ e => dats0_cons (dat0_reads hc S h) h2 e) h
theorem datV_reads (hc : c.Ok G) (S : St G c CL ρ m s news al st) {v : Value} {y : V} {d : PyData} (h : VR (G.K c.w.params) news al v y) (e : datV y st = some d) : ∃ as, Reads s.heap v d as :=
 bindE e fun k e1 e => bindE e fun l e2 e => by
  obtain ⟨ds, e3, e4⟩ := Option.map_eq_some_iff.mp e
  obtain ⟨a, e5, h'⟩ := h.vhnd e1
  obtain ⟨vs, n, _, hm, t1, r1⟩ := S.list h' (lstAt_of e2)
  obtain ⟨as, r⟩ := dats0_reads hc S r1 e3
  exact e4 ▸ e5 ▸ ⟨_, .list (S.N.get hm) rfl rfl r⟩
theorem strL_vals {K : Frag} {vs : List Value} {l : List V} (h : VRs K news al vs l) : ∀ {zs : List Str}, strL l = some zs → vs.length = zs.length ∧ (∀ v ∈ vs, ∃ x t, v = .str x t ∧ x ∈ zs) ∧ ∀ x ∈ zs, ∃ t, Value.str x t ∈ vs := by
 induction h using VRs.ind with
 | nil => intro zs e; rw [← sInj e]; exact ⟨rfl, fun _ h => absurd h List.not_mem_nil, fun _ h => absurd h List.not_mem_nil⟩
 | @cons v y vs l h hs ih =>
  intro zs e
  cases y with
  | str x =>
   obtain ⟨t, e3⟩ := h.inv
   obtain ⟨zs, e1, e2⟩ := Option.map_eq_some_iff.mp e
   rw [← e2, e3]
   obtain ⟨l1, l2, l3⟩ := ih e1
   refine ⟨congrArg (· + 1) l1, fun v hv => ?_, fun y hy => ?_⟩
   ·rcases List.mem_cons.mp hv with e | hv
    ·exact ⟨x, t, e, .head _⟩
    ·obtain ⟨y, u, e2, e3⟩ := l2 v hv
     exact ⟨y, u, e2, .tail _ e3⟩
   ·rcases List.mem_cons.mp hy with e | hy
    ·exact ⟨t, e ▸ .head _⟩
    ·obtain ⟨u, e2⟩ := l3 y hy
     exact ⟨u, .tail _ e2⟩
  | _ => exact noS e
noncomputable def isStr (x : Str) : Value → Bool
 | .str z _ => z == x
 | _ => false
theorem isStr_any {vs : List Value} {zs : List Str} {x : Str} (l2 : ∀ v ∈ vs, ∃ z u, v = .str z u ∧ z ∈ zs) (l3 : ∀ z ∈ zs, ∃ u, Value.str z u ∈ vs) : vs.toArray.any (isStr x) = zs.any (· == x) := by
 rw [List.any_toArray, Bool.eq_iff_iff, List.any_eq_true, List.any_eq_true]
 exact ⟨fun ⟨v, hv, hz⟩ => by
  obtain ⟨z, u, rfl, hm⟩ := l2 v hv
  exact ⟨z, hm, hz⟩, fun ⟨z, hz, hx⟩ => by
  obtain ⟨u, hm⟩ := l3 z hz
  exact ⟨_, hm, hx⟩⟩
theorem ordI_sound {prog : Program} {w : World} {op : CmpOp} {i j : Int} {t u : Tok} {b : Bool} {Q : Value → Shared → Prop} (e : ordI op i j = some b) (H : Q (.bool b) s) : wpAny (model prog w) A (compareOp op (.int i t) (.int j u)) Q E s := by
 cases op with
 | Eq => exact eq_int (sInj e ▸ H)
 | NotEq => exact ne_int (sInj e ▸ H)
 | Lt => exact lt_int (sInj e ▸ H)
 | LtE => exact le_int (sInj e ▸ H)
 | Gt => exact gt_int (sInj e ▸ H)
 | GtE => exact ge_int (sInj e ▸ H)
 | _ => exact noS e
theorem eqX_str {prog : Program} {w : World} {op : CmpOp} {x y : Str} {t u : Tok} {b : Bool} {Q : Value → Shared → Prop} (e : eqX op (x == y) = some b) (H : Q (.bool b) s) : wpAny (model prog w) A (compareOp op (.str x t) (.str y u)) Q E s := by
 cases op with
 | Eq => exact eq_str (sInj e ▸ H)
 | NotEq => exact ne_str (show Q (.bool (!(x == y))) s from sInj e ▸ H)
 | _ => exact noS e
theorem eq0_reads (hc : c.Ok G) (S : St G c CL ρ m s news al st) {v1 v2 : Value} {y1 y2 : V} {b : Bool} {P : Prop} (h1 : VR (G.K c.w.params) news al v1 y1) (h2 : VR (G.K c.w.params) news al v2 y2) (e : eq0 y1 y2 = some b)
  (k : ∀ d d' as bs, Reads s.heap v1 d as → Reads s.heap v2 d' bs → SeqAt.shaped d = true → SeqAt.shaped d' = true → PyData.eqv d d' = b → P) : P :=
 bindE e fun d e1 e => bindE e fun d' e2 e => iteS e fun hs e => by
  rw [Bool.and_eq_true] at hs
  obtain ⟨as, r1⟩ := dat0_reads hc S h1 e1
  obtain ⟨bs, r2⟩ := dat0_reads hc S h2 e2
  exact k d d' as bs r1 r2 hs.1 hs.2 (sInj e)
theorem cmpIn_sound (hc : c.Ok G) (S : St G c CL ρ m s news al st) {op : CmpOp} {x : Str} {t : Tok} {a : Addr} {l : List V} {zs : List Str} {b : Bool} {Q : Value → Shared → Prop} (h2 : VR (G.K c.w.params) news al (.ref a) (.tup l)) (e1 : strL l = some zs) (e : inX op (zs.any (· == x)) = some b) (H : Q (.bool b) s) : wpAny (model G.prog c.w) A (compareOp op (.str x t) (.ref a)) Q E s := by
 obtain ⟨vs, t1, r1⟩ := S.tup hc h2
 obtain ⟨_, l2, l3⟩ := strL_vals r1 e1
 have hq : ∀ y ∈ vs.toArray, SeqAt.EqAt A.in1 s y (.str x t) (isStr x y) := fun y hy => by
  obtain ⟨z, u, e, _⟩ := l2 y (List.mem_toArray.mp hy)
  exact e ▸ SeqAt.EqAt.str_str z u x t
 cases op with
 | In => exact SeqAt.in_tupleAt (isStr x) t1 hq (isStr_any (x := x) l2 l3 ▸ sInj e ▸ H)
 | NotIn => exact SeqAt.notIn_tupleAt (isStr x) t1 hq (isStr_any (x := x) l2 l3 ▸ sInj e ▸ H)
 | _ => exact noS e
theorem cmpV_sound (hc : c.Ok G) (hA : Ar c k q A) (S : St G c CL ρ m s news al st) {op : CmpOp} {v1 v2 : Value} {y1 y2 : V} {b : Bool} {Q : Value → Shared → Prop} (h1 : VR (G.K c.w.params) news al v1 y1) (h2 : VR (G.K c.w.params) news al v2 y2) (e : cmpV op y1 y2 = some b)
  (H : Q (.bool b) s) : wpAny (model G.prog c.w) A (compareOp op v1 v2) Q E s := by
 refine orE e (fun e => bindE e fun i e1 e => bindE e fun j e2 e => ?_) fun e => orE e (fun e => bindE e fun x e1 e => bindE e fun y e2 e => ?_) fun e => orE e (fun e => bindE e fun x e1 e => bindE e fun l e2 e => bindE e fun zs e3 e => ?_) fun e => bindE e fun r e1 e => eq0_reads hc S h1 h2 e1 fun d d' as bs r1 r2 s1 s2 e3 => ?_
 ·obtain ⟨t, e3⟩ := h1.vint e1
  obtain ⟨u, e4⟩ := h2.vint e2
  exact e3 ▸ e4 ▸ ordI_sound e H
 ·obtain ⟨t, e3⟩ := h1.vstr e1
  obtain ⟨u, e4⟩ := h2.vstr e2
  exact e3 ▸ e4 ▸ eqX_str e H
 ·obtain ⟨t, e4⟩ := h1.vstr e1
  obtain ⟨a, e5, h⟩ := h2.vtup e2
  exact e4 ▸ e5 ▸ cmpIn_sound hc S h e3 e H
 ·have hu : A.units + 64 < cLine := by have := hA.un; lia
  cases op with
  | Eq => exact PyProof.Rows.eq_dataH r1 r2 s1 s2 hu (e3 ▸ sInj e ▸ H)
  | NotEq => exact PyProof.Rows.ne_dataH r1 r2 s1 s2 hu (e3 ▸ sInj e ▸ H)
  | _ => exact noS e
end
end Mine
namespace Mine
noncomputable def clsChk (K : Frag) (C : Addr) (fl : List Str) : Bool :=
 makesIn K C && plainOver K C && hasDictIn K C && (findIn K (.ref C) "__setattr__" == some (some (.builtin "object.__setattr__"))) && plainGet K C "" && fl.all fun x => findIn K (.ref C) x == some none
noncomputable def putF (x : Str) (y : V) : List (Str × V) → List (Str × V)
 | [] => [(x, y)]
 | (x', y') :: r => if x' == x then (x', y) :: r else (x', y') :: putF x y r
section
variable {K : Frag} {P : Params} {news : Led} {al : Al}
theorem isStr_str (x y : Str) (t : Tok) : (Value.str x t).isStr y = (x == y) := by
 rw [isStr_of]; rfl
theorem FR.getL {es : List DictEntry} {fs : List (Str × V)} (h : FR K P news al es fs) {x : Str} {y : V} : fs.lookup x = some y → ∃ v, PySem.W.getL x es = some (some v) ∧ VR K news al v y := by
 induction h with
 | nil => exact nofun
 | @cons x' t v y' es fs h hs ih =>
  intro e
  unfold PySem.W.getL at ih ⊢
  rw [List.find?_cons, isStr_str]
  rw [List.lookup_cons] at e
  cases hb : x == x' with
  | true =>
   rw [hb] at e
   rw [show (x' == x) = true from BEq.comm.trans hb]
   exact ⟨v, rfl, sInj e ▸ h⟩
  | false =>
   rw [hb] at e
   rw [show (x' == x) = false from BEq.comm.trans hb]
   exact ih e
theorem FR.getN {es : List DictEntry} {fs : List (Str × V)} (h : FR K P news al es fs) {x : Str} : fs.lookup x = none → es.find? (·.key.isStr x) = none ∧ es.any (·.refKey) = false ∧ es.any (·.key.isStr x) = false := by
 induction h with
 | nil => exact fun _ => ⟨rfl, rfl, rfl⟩
 | @cons x' t v y es fs h hs ih =>
  intro e
  rw [List.lookup_cons] at e
  cases hb : x == x' with
  | true => rw [hb] at e; cases e
  | false =>
   rw [hb] at e
   obtain ⟨h1, h2, h3⟩ := ih e
   have hb' : (x' == x) = false := BEq.comm.trans hb
   exact ⟨by rw [List.find?_cons, isStr_str, hb']; exact h1, by rw [List.any_cons, h2]; rfl, by rw [List.any_cons, h3, isStr_str, hb']; rfl⟩
theorem FR.putL {es : List DictEntry} {fs : List (Str × V)} (h : FR K P news al es fs) {x : Str} {v : Value} {y : V} (t : Tok) (hv : VR K news al v y) : FR K P news al (PySem.W.putL x (PyData.keyHash P x) (.str x t) v es) (putF x y fs) := by
 induction h with
 | nil => exact .cons hv .nil
 | @cons x' t' v' y' es fs h' hs ih =>
  unfold PySem.W.putL putF
  dsimp only
  rw [isStr_str]
  cases x' == x with
  | true => exact .cons hv hs
  | false => exact .cons h' ih
theorem FR.length {es : List DictEntry} {fs : List (Str × V)} (h : FR K P news al es fs) : es.length = fs.length := by
 induction h with
 | nil => rfl
 | cons _ _ ih => exact congrArg (· + 1) ih
theorem putF_length (x : Str) (y : V) : ∀ fs : List (Str × V), (putF x y fs).length ≤ fs.length + 1
 | [] => by simp [putF]
 | (x', y') :: r => by
  unfold putF
  split
  ·simp
  ·simpa using putF_length x y r
theorem FR.someL {es : List DictEntry} {fs : List (Str × V)} (h : FR K P news al es fs) (x : Str) : (PySem.W.getL x es).isSome = true := by
 cases e : fs.lookup x with
 | some y => obtain ⟨v, h1, _⟩ := h.getL e; rw [h1]; rfl
 | none =>
  obtain ⟨h1, h2, _⟩ := h.getN e
  unfold PySem.W.getL
  rw [h1, h2]; rfl
end
structure Pg.Ok (G : Pg) : Prop where
 cls : ∀ P C x, x ∈ G.flds C → clsChk (G.K P) C (G.flds C) = true
 gl : ∀ P x y, G.gl x = some y → (∃ v, nsIn (G.K P) mainGlobals x = some (some v) ∧ ∀ news al, VR (G.K P) news al v y) ∨ (∃ v, nsIn (G.K P) mainGlobals x = some none ∧ bootBuiltins x = some v ∧ x ≠ "__name__" ∧ ∀ news al, VR (G.K P) news al v y)
 tab : ∀ P q, q ∈ G.tabs → ∀ h, (G.K P).In h → CodeHd h q.1 q.2
 keep : ∀ P a, G.keep a = true → keepIn (G.K P) (.ref a) = true
 meth : ∀ P C x f, G.meth C x = some f → plainGet (G.K P) C x = true ∧ findIn (G.K P) (.ref C) x = some (some (.ref f)) ∧ isFn (G.K P) (.ref f) = true ∧ keepIn (G.K P) (.ref f) = true
section
variable {G : Pg} {c : Act} {k : Nat} {q : Bool} {CL : List (Str × Nat)} {ρ : List (Str × V)} {m : Str → Option Value} {s s' : Shared} {news news' : Led} {al al' : Al} {st st' : Sto} {A : Around} {E : Value → Shared → Prop}
theorem St.inst (S : St G c CL ρ m s news al st) {v : Value} {k : Nat} {C : Addr} {fs : List (Str × V)} (h : VR (G.K c.w.params) news al v (.hnd k)) (e : st[k]? = some (.inst C fs)) :
  ∃ (a dx : Addr) (es : List DictEntry) (n : Nat), v = .ref a ∧ al[k]? = some (a, some dx) ∧ (a, instObj C dx) ∈ news ∧ (dx, dictOf es n) ∈ news ∧ InstAt s.heap a (instObj C dx) C (some (dictOf es n)) ∧ FR (G.K c.w.params) c.w.params news al es fs := by
 obtain ⟨a, e0, x, hal⟩ := h.inv
 obtain ⟨dx, es, n, e1, hm, hd, hs⟩ := (S.H.obj k _ _ hal e).inv
 exact ⟨a, dx, es, n, e0, (show x = some dx from e1) ▸ hal, hm, hd, InstAt.of_news S.N hm hd, hs⟩
structure ClsOk (K : Frag) (C : Addr) (x : Str) : Prop where
 get : plainGet K C x = true
 has : hasDictIn K C = true
 non : findIn K (.ref C) x = some none
 set : findIn K (.ref C) "__setattr__" = some (some (.builtin "object.__setattr__"))
 over : plainOver K C = true
 mak : makesIn K C = true
theorem clsOk_of {K : Frag} {C : Addr} {fl : List Str} (h : clsChk K C fl = true) {x : Str} (hx : x ∈ fl) : ClsOk K C x := by
 unfold clsChk at h
 simp only [Bool.and_eq_true] at h
 obtain ⟨⟨⟨⟨⟨h1, h2⟩, h3⟩, h4⟩, h5⟩, h6⟩ := h
 exact ⟨h5, h3, beq_iff_eq.mp (List.all_eq_true.mp h6 x hx), beq_iff_eq.mp h4, h2, h1⟩
noncomputable def notBi : V → Bool
 | .bi _ => false
 | _ => true
theorem handed_of {K : Frag} {v : Value} {y : V} (h : VR K news al v y) (e : notBi y = true) : handedIn v = true := by
 cases y with
 | bi _ => exact noB e
 | hnd _ => obtain ⟨_, e, _⟩ := h.inv; rw [e]; rfl
 | rng _ _ _ => obtain ⟨_, _, _, _, e, _⟩ := h.inv; rw [e]; rfl
 | lstK _ => obtain ⟨_, _, _, _, e, _⟩ := h.inv; rw [e]; rfl
 | int _ => obtain ⟨_, e⟩ := h.inv; rw [e]; rfl
 | str _ => obtain ⟨_, e⟩ := h.inv; rw [e]; rfl
 | tup _ => obtain ⟨_, e⟩ := h.inv; rw [e]; rfl
 | _ => rw [show v = _ from h.inv]; rfl
theorem St.getAttr (hc : c.Ok G) (S : St G c CL ρ m s news al st) {v : Value} {k : Nat} {C : Addr} {fs : List (Str × V)} {x : Str} {y : V} {ex : Bool} {Q : Value → Shared → Prop} (h : VR (G.K c.w.params) news al v (.hnd k)) (e : st[k]? = some (.inst C fs))
  (ok : ClsOk (G.K c.w.params) C x) (hl : fs.lookup x = some y) (hb : notBi y = true) (hQ : Cont G c CL ρ m s news al relV y st Q) : wpAny (model G.prog c.w) A (PySem.getAttr v x ex) Q E s := by
 obtain ⟨a, dx, es, n, rfl, _, _, _, I, hf⟩ := S.inst h e
 obtain ⟨u, h1, h2⟩ := hf.getL hl
 exact get_own S.F (S.XG hc) I ok.get ok.has ok.non rfl h1 (handed_of h2 hb) (hQ.here S h2 rfl ⟨rfl, rfl⟩)
theorem St.clsMeth (hc : c.Ok G) (S : St G c CL ρ m s news al st) {v : Value} {k : Nat} {C f : Addr} {fs : List (Str × V)} {x : Str} {pl : Sem Bool} {Q : Value × List Value → Shared → Prop} (h : VR (G.K c.w.params) news al v (.hnd k)) (e : st[k]? = some (.inst C fs))
  (hg : plainGet (G.K c.w.params) C x = true) (hf : findIn (G.K c.w.params) (.ref C) x = some (some (.ref f))) (ht : isFn (G.K c.w.params) (.ref f) = true) (hl : fs.lookup x = none) (hQ : Q (.ref f, [v]) s) : wpAny (model G.prog c.w) A (PySem.getMethod v x pl) Q E s := by
 obtain ⟨a, dx, es, n, rfl, _, _, _, I, hfr⟩ := S.inst h e
 refine method_inst S.F (S.XG hc) I hg hf ht ?_ hQ
 obtain ⟨h1, h2, _⟩ := hfr.getN hl
 unfold PySem.W.getL
 rw [h1, h2]; rfl
theorem St.setAttr (hc : c.Ok G) (S : St G c CL ρ m s news al st) {v u : Value} {k : Nat} {C : Addr} {fs : List (Str × V)} {x : Str} {y : V} {Q : Unit → Shared → Prop} (h : VR (G.K c.w.params) news al v (.hnd k)) (e : st[k]? = some (.inst C fs))
  (ok : ClsOk (G.K c.w.params) C x) (hz : fs.length ≤ 900) (hu : VR (G.K c.w.params) news al u y) (hQ : Cont G c CL ρ m s news al relU () (st.set k (.inst C (putF x y fs))) Q) : wpAny (model G.prog c.w) A (PySem.setAttr v x u) Q E s := by
 obtain ⟨a, dx, es, n, rfl, hk, hm, hd, I, hf⟩ := S.inst h e
 have hdf : dx ∈ flat al := mem_flat.mpr ⟨k, _, hk, .inr rfl⟩
 have hf' := hf.putL (x := x) (s.toks + 1) hu
 have hne : a ≠ dx := fun q => by
  have := nodup_eq S.H.nd hm (q ▸ hd); simp at this
 refine set_dict S.F (S.XG hc) S.N I rfl ok.set ok.over (by unfold takerIn; rw [ok.non]; rfl) ok.has (hf.someL x) rfl (putLed_upd S.H.nd hd) ?_ fun h' F N => ?_
 ·rw [hf'.length]
  have := putF_length x y fs
  lia
 ·have X := Ext.put (o := dictOf (PySem.W.putL x (PyData.keyHash c.w.params x) (.str x (s.toks + 1)) u es) (putN x es n)) (news := news) hdf
  have hf'' := FR.ext S.H X hf'
  refine hQ _ _ _ _ (S.ext X F N (S.H.put hk (.inr rfl) (.inst (n := putN x es n) ?_ ?_ hf''))) X trivial ⟨rfl, rfl⟩
  ·exact mem_putLed_ne hm hne
  ·exact mem_putLed_at hd
end
section
variable {K : Frag} {news news' : Led} {al al' : Al}
theorem VRs.set {vs : List Value} {l : List V} (h : VRs K news al vs l) (i : Nat) {v : Value} {y : V} (h' : VR K news al v y) : VRs K news al (vs.set i v) (l.set i y) := by
 induction h using VRs.ind generalizing i with
 | nil => exact .nil
 | cons h hs ih => exact Nat.casesOn i (.cons h' hs) fun i => .cons h (ih i)
theorem VRs.take {vs : List Value} {l : List V} (h : VRs K news al vs l) : ∀ (i : Nat), VRs K news al (vs.take i) (l.take i) := by
 induction h using VRs.ind with
 | nil => intro i; rw [List.take_nil, List.take_nil]; exact .nil
 | cons h _ ih => exact fun i => Nat.casesOn i .nil fun i => .cons h (ih i)
theorem VRs.drop {vs : List Value} {l : List V} (h : VRs K news al vs l) : ∀ (i : Nat), VRs K news al (vs.drop i) (l.drop i) := by
 induction h using VRs.ind with
 | nil => exact fun i => by rw [List.drop_nil, List.drop_nil]; exact .nil
 | cons h hs ih => exact fun i => Nat.casesOn i (.cons h hs) fun i => ih i
theorem VRs.one {v : Value} {y : V} (h : VR K news al v y) : VRs K news al [v] [y] := .cons h .nil
theorem VRs.reverse {vs : List Value} {l : List V} (h : VRs K news al vs l) : VRs K news al vs.reverse l.reverse := by
 induction h using VRs.ind with
 | nil => exact .nil
 | cons h _ ih => rw [List.reverse_cons, List.reverse_cons]; exact ih.append (.one h)
theorem PR.at_ {κ : Type} [DecidableEq κ] {kvs : List (κ × Value)} {fs : List (κ × V)} (h : PR K news al kvs fs) (k : κ) : (∀ y, fs.lookup k = some y → ∃ v, valueAt kvs k = some v ∧ VR K news al v y) ∧ (fs.lookup k = none → valueAt kvs k = none) := by
 induction h with
 | nil => exact ⟨nofun, fun _ => rfl⟩
 | @cons k' v y' es fs h hs ih =>
  unfold valueAt at ih ⊢
  rw [List.find?_cons, List.lookup_cons]
  by_cases e : k' = k
  ·rw [show (k == k') = true from beq_iff_eq.mpr e.symm, decide_eq_true e]
   exact ⟨fun y q => ⟨v, rfl, sInj q ▸ h⟩, nofun⟩
  ·rw [show (k == k') = false from beq_eq_false_iff_ne.mpr (Ne.symm e), decide_eq_false e]
   exact ih
theorem PR.length {κ : Type} {kvs : List (κ × Value)} {fs : List (κ × V)} (h : PR K news al kvs fs) : kvs.length = fs.length := by
 induction h with
 | nil => rfl
 | cons _ _ ih => exact congrArg (· + 1) ih
noncomputable def putD {κ : Type} [DecidableEq κ] (k : κ) (y : V) (fs : List (κ × V)) : List (κ × V) :=
 if fs.any (fun p => p.1 = k) then fs.map (fun p => if p.1 = k then (p.1, y) else p) else fs ++ [(k, y)]
theorem PR.any {κ : Type} [DecidableEq κ] {kvs : List (κ × Value)} {fs : List (κ × V)} (h : PR K news al kvs fs) (k : κ) : kvs.any (fun p => p.1 = k) = fs.any (fun p => p.1 = k) := by
 induction h with
 | nil => rfl
 | cons _ _ ih => rw [List.any_cons, List.any_cons, ih]
theorem PR.map {κ : Type} [DecidableEq κ] {kvs : List (κ × Value)} {fs : List (κ × V)} (h : PR K news al kvs fs) (k : κ) {v : Value} {y : V} (h' : VR K news al v y) : PR K news al (kvs.map fun p => if p.1 = k then (p.1, v) else p) (fs.map fun p => if p.1 = k then (p.1, y) else p) := by
 induction h with
 | nil => exact .nil
 | @cons k' v' y' es fs h hs ih =>
  rw [List.map_cons, List.map_cons]
  dsimp only
  by_cases e : k' = k
  ·rw [if_pos e, if_pos e]; exact .cons h' ih
  ·rw [if_neg e, if_neg e]; exact .cons h ih
theorem PR.snoc {κ : Type} {kvs : List (κ × Value)} {fs : List (κ × V)} (h : PR K news al kvs fs) (k : κ) {v : Value} {y : V} (h' : VR K news al v y) : PR K news al (kvs ++ [(k, v)]) (fs ++ [(k, y)]) := by
 induction h with
 | nil => exact .cons h' .nil
 | cons h _ ih => exact .cons h ih
theorem PR.put {κ : Type} [DecidableEq κ] {kvs : List (κ × Value)} {fs : List (κ × V)} (h : PR K news al kvs fs) (k : κ) {v : Value} {y : V} (h' : VR K news al v y) : PR K news al (PySem.stored kvs k v) (putD k y fs) := by
 unfold PySem.stored putD
 rw [h.any k]
 split
 ·exact h.map k h'
 ·exact h.snoc k h'
end
section
variable {G : Pg} {c : Act} {k : Nat} {q : Bool} {CL : List (Str × Nat)} {ρ : List (Str × V)} {m : Str → Option Value} {s s' : Shared} {news news' : Led} {al al' : Al} {st st' : Sto} {A : Around} {E : Value → Shared → Prop}
theorem St.upd (S : St G c CL ρ m s news al st) {k : Nat} {p : Addr × Option Addr} {d : Addr} {o o' : Obj} {x : O} {h' : Heap} {tk : Nat} (hk : al[k]? = some p) (hd : d = p.1 ∨ p.2 = some d) (hm : (d, o) ∈ news) (hs : Heap.SameBut d s.heap h') (ho : h'.get? d = some o')
  (hx : OR (G.K c.w.params) G.prog c.w (putLed d o' news) al p x) : St G c CL ρ m { s with heap := h', toks := tk } (putLed d o' news) al (st.set k x) ∧ Ext news al (putLed d o' news) al := by
 have hdf : d ∈ flat al := mem_flat.mpr ⟨k, p, hk, hd⟩
 have X : Ext news al (putLed d o' news) al := Ext.put hdf
 exact ⟨S.ext X (S.F.update S.N hm hs) (S.N.update hm hs ho) (S.H.put hk hd hx), X⟩
theorem St.sdict (S : St G c CL ρ m s news al st) {v : Value} {k : Nat} {fs : List (Str × V)} (h : VR (G.K c.w.params) news al v (.hnd k)) (e : st[k]? = some (.sdict fs)) :
  ∃ (a : Addr) (o : Obj) (kvs : List (Str × Value)), v = .ref a ∧ al[k]? = some (a, none) ∧ (a, o) ∈ news ∧ o.IsDictOf (strKind G.prog c.w) kvs ∧ (a == sysModules) = false ∧ s.heap.DictOf (strKind G.prog c.w) a kvs ∧ PR (G.K c.w.params) news al kvs fs := by
 obtain ⟨a, e0, x, hal⟩ := h.inv
 obtain ⟨e1, o, kvs, hm, hd, hn, hp⟩ := (S.H.obj k _ _ hal e).inv
 exact ⟨a, o, kvs, e0, (show x = none from e1) ▸ hal, hm, hd, hn, Heap.dictOf_iff.mpr ⟨_, S.N.get hm, hd⟩, hp⟩
theorem setItem_lst {l : Addr} {its : Array Value} {n : Nat} {k : Int} {t : Tok} {v : Value} {Q : Unit → Shared → Prop} (ho : s.heap.get? l = some (listOf its n)) (h0 : 0 ≤ k) (hfit : k < 2 ^ 63) (hn : k < its.size)
  (hQ : ∀ h', h'.get? l = some (listOf (its.setIfInBounds k.toNat v) n) → Heap.SameBut l s.heap h' → Q () { s with heap := h' }) : wpAny (model G.prog c.w) A (setItem (.ref l) (.int k t) v) Q E s := by
 have hl : s.heap.IsList l its := ⟨_, ho, rfl, n, rfl⟩
 unfold setItem
 refine wpAny_holding (wpAny_bind (wpAny_sequenceKey hl.typeIs (by decide) (wpAny_bind (wpAny_callSpecial?_slot (name := Str.ofString "__setitem__") hl.typeIs slot_list_setitem
  (wpAny_call_entry slot_list_setitem hl.typeIs entry_list_setitem ?_ (args_list_setitem _ _ _))))))
 show wpAny _ _ (Builtin.List.listSubscript? (.int k t) >>= _) _ _ s
 refine wpAny_bind (wpAny_listSubscript_int (fitsIndex_of h0 hfit) ?_)
 obtain ⟨j, rfl⟩ := Int.eq_ofNat_of_zero_le h0
 have hj : j < its.size := by lia
 show wpAny _ _ ((seqItemAt l j >>= fun r => pure (r.map (j, ·))) >>= _) _ _ s
 refine wpAny_bind (wpAny_bind (wpAny_seqItemAt ho rfl (wpAny_pure ?_)))
 rw [Array.getElem?_eq_getElem hj]
 show wpAny _ _ (setSeqItemAt l j v >>= _) _ _ s
 have e : Obj.mapSeq (·.setIfInBounds j v) (listOf its n) = listOf (its.setIfInBounds j v) n := by simp [Obj.mapSeq]
 have hg : (s.heap.update l (Obj.mapSeq (·.setIfInBounds j v))).get? l = some (listOf (its.setIfInBounds j v) n) := by
  have := Heap.get?_update_self (f := Obj.mapSeq (·.setIfInBounds j v)) ho (by rw [e]; rfl)
  rw [e] at this; exact this
 refine wpAny_bind (wpAny_setSeqItemAt ho rfl ?_)
 first
  | exact wpAny_bind (wpAny_pure (wpAny_pure ⟨.none, rfl, wpAny_pure (hQ _ hg (Heap.SameBut.update ..))⟩))
  | exact wpAny_pure ⟨.none, rfl, wpAny_pure (hQ _ hg (Heap.SameBut.update ..))⟩
def setO (i u : V) : O → Option O
 | .list l => i.int?.bind fun j => if 0 ≤ j ∧ j < l.length ∧ l.length ≤ sizeLine then some (.list (l.set j.toNat u)) else none
 | .sdict fs => if fs.length ≤ sizeLine then (match i with
  | .str x => some (.sdict (putD x u fs))
  | _ => none) else none
 | _ => none
def setItV (y i u : V) (st : Sto) : Option Sto := y.hnd?.bind fun k => st[k]?.bind fun o => (setO i u o).map fun o' => st.set k o'
theorem setItV_sound (S : St G c CL ρ m s news al st) {v vi vu : Value} {y i u : V} {Q : Unit → Shared → Prop} (h : VR (G.K c.w.params) news al v y) (hi : VR (G.K c.w.params) news al vi i) (hu : VR (G.K c.w.params) news al vu u) (e : setItV y i u st = some st')
  (hQ : Cont G c CL ρ m s news al relU () st' Q) : wpAny (model G.prog c.w) A (setItem v vi vu) Q E s := by
 refine bindE e fun k e1 e => bindE e fun o hk e => ?_
 obtain ⟨o', e2, e3⟩ := Option.map_eq_some_iff.mp e
 rw [← e3] at hQ
 have h := (V.hnd_of e1 ▸ h : VR (G.K c.w.params) news al v (.hnd k))
 cases o with
 | list l =>
  refine bindE e2 fun j e4 e2 => iteS e2 fun hz e2 => ?_
  obtain ⟨a, e0, _⟩ := h.inv
  obtain ⟨t, e5⟩ := hi.vint e4
  rw [e0] at h
  rw [e0, e5]
  obtain ⟨vs, n, hal, hm, hl, hs⟩ := S.list h hk
  have hlen := hs.length
  simp only [sizeLine] at hz
  refine setItem_lst (S.N.get hm) hz.1 (by lia) (by simp; lia) fun h' ho' hsb => ?_
  have e3 : listOf (vs.toArray.setIfInBounds j.toNat vu) n = listOf (vs.set j.toNat vu).toArray n := by rw [List.setIfInBounds_toArray]
  rw [e3] at ho'
  obtain ⟨S', X⟩ := S.upd (tk := s.toks) (x := .list (l.set j.toNat u)) hal (.inl rfl) hm hsb ho' (.list (mem_putLed_at hm) ((hs.set _ hu).ext S.H (Ext.put (mem_flat.mpr ⟨_, _, hal, .inl rfl⟩))))
  exact hQ _ _ _ _ (sInj e2 ▸ S') X trivial ⟨rfl, rfl⟩
 | sdict fs =>
  obtain ⟨a, o, kvs, e0, hal, hm, hd, hn, hD, hp⟩ := S.sdict h hk
  refine iteS e2 fun hz e2 => ?_
  have hx : Ext news al (putLed a o news) al := Ext.put (mem_flat.mpr ⟨_, _, hal, .inl rfl⟩)
  cases i with
  | str x =>
   obtain ⟨t, e5⟩ := hi.inv
   rw [e0, e5]
   refine wpAny_setItem_pairs (strKind_is _ _ _ _) hD (fun h' hD' hsb => ?_) (by rw [hp.length]; exact hz)
   obtain ⟨o', ho', hd'⟩ := Heap.dictOf_iff.mp hD'
   obtain ⟨S', X⟩ := S.upd (tk := s.toks + 1) hal (.inl rfl) hm hsb ho' (.sdict (mem_putLed_at hm) hd' hn ((hp.put _ hu).ext S.H (Ext.put (mem_flat.mpr ⟨_, _, hal, .inl rfl⟩))))
   exact hQ _ _ _ _ (sInj e2 ▸ S') X trivial ⟨rfl, rfl⟩
  | _ => exact noS e2
 | _ => exact noS e2
end
noncomputable def lget (j : Int) (l : List V) : Option V := if -(2 ^ 63) ≤ j ∧ j < 2 ^ 63 then (seqIndex? j l.length).bind (l[·]?) else none
def getO (i : V) : O → Option V
 | .list l => i.int?.bind fun j => lget j l
 | .sdict fs => i.str?.bind fun x => fs.lookup x
 | _ => none
def getItV (y i : V) (st : Sto) : Option V := match y with
 | .tup l => i.int?.bind fun j => lget j l
 | .str x => i.int?.bind fun j => if -(2 ^ 63) ≤ j ∧ j < 2 ^ 63 then ((seqIndex? j x.length).bind (x.cps[·]?)).map fun ch => .str ⟨#[ch]⟩ else none
 | .hnd k => st[k]?.bind (getO i)
 | _ => none
noncomputable def plainIdx : Expr → Bool
 | .Slice _ _ _ _ => false
 | _ => true
section
variable {G : Pg} {c : Act} {k : Nat} {q : Bool} {CL : List (Str × Nat)} {ρ : List (Str × V)} {m : Str → Option Value} {s s' : Shared} {news news' : Led} {al al' : Al} {st st' : Sto} {A : Around} {E : Value → Shared → Prop}
theorem sub_plain {slice : Expr} (h : plainIdx slice = true) (o i : Value) : subscripted slice false o i = operate [o, i] (getItem o i) := by
 cases slice <;> first | rfl | cases h
theorem listGet {Q : Value → Shared → Prop} {a : Addr} {vs : List Value} {j : Int} {u : Tok} {i : Nat} {x : Value} (hl : s.heap.IsList a vs.toArray) (hlo : -(2 ^ 63) ≤ j) (hhi : j < 2 ^ 63) (hj : seqIndex? j vs.length = some i) (hx : vs[i]? = some x) (h : Q x s) :
  wpAny (model G.prog c.w) A (getItem (.ref a) (.int j u)) Q E s := by
 by_cases h0 : j < 0
 ·exact kde_getNeg hl h0 hlo hj hx h
 ·refine wpAny_getItem_list hl (by lia) hhi ?_ h
  unfold seqIndex? at hj
  rw [if_neg h0] at hj
  dsimp only at hj
  refine iteS hj fun _ hj => ?_
  ·induction hj using E1; simpa using hx
theorem lget_of {K : Frag} {news : Led} {al : Al} {vs : List Value} {l : List V} {j : Int} {z : V} {P : Prop} (r : VRs K news al vs l) (e : lget j l = some z) (k : -(2 ^ 63) ≤ j → j < 2 ^ 63 → ∀ n u, seqIndex? j vs.length = some n → vs[n]? = some u → VR K news al u z → P) : P :=
 iteS e fun hb e => bindE e fun n e1 e2 => by
  obtain ⟨u, e3, e4⟩ := r.get e2
  exact k hb.1 hb.2 n u (r.length ▸ e1) e3 e4
theorem getItV_sound (hc : c.Ok G) (S : St G c CL ρ m s news al st) {v vi : Value} {y i z : V} {value slice : Expr} {Q : Value → Shared → Prop} (h : VR (G.K c.w.params) news al v y) (hi : VR (G.K c.w.params) news al vi i) (e : getItV y i st = some z) (hp : plainIdx slice = true)
  (hQ : Cont G c CL ρ m s news al relV z st Q) : wpAny (model G.prog c.w) A (subscriptTail value slice v vi) Q E s := by
 cases y with
 | tup l =>
  obtain ⟨a, e0⟩ := h.inv
  rw [e0] at h ⊢
  obtain ⟨vs, t1, r1⟩ := S.tup hc h
  refine bindE e fun j e1 e => lget_of r1 e fun b1 b2 n u e2 e3 e4 => ?_
  obtain ⟨t, e5⟩ := hi.vint e1
  rw [e5]
  exact tail_any t1.typeIs slot_tuple_getitem.lookup (getItem_tuple t1 b1 b2 e2 (List.getElem?_toArray.trans e3) (hQ.here S e4 rfl .refl)) (sub_plain hp _ _)
 | str x =>
  obtain ⟨t, e0⟩ := h.inv
  rw [e0]
  refine bindE e fun j e1 e => iteS e fun hb e => ?_
  obtain ⟨u, e5⟩ := hi.vint e1
  obtain ⟨ch, e2, e3⟩ := Option.map_eq_some_iff.mp e
  rw [e5]
  rw [← e3] at hQ
  exact tail_any (typeIs_str _ _ _) slot_str_getitem.lookup (getItem_str (by rw [decide_eq_false (Int.not_lt.mpr hb.1), decide_eq_false (Int.not_le.mpr hb.2)]; rfl) e2 (hQ.here S .str rfl ⟨rfl, rfl⟩)) (sub_plain hp _ _)
 | hnd k =>
  refine bindE e fun o hk e => ?_
  cases o with
  | list l =>
   obtain ⟨a, e0, _⟩ := h.inv
   rw [e0] at h ⊢
   obtain ⟨vs, n, _, hm, hl, r1⟩ := S.list h hk
   refine bindE e fun j e1 e => lget_of r1 e fun b1 b2 n u e2 e3 e4 => ?_
   obtain ⟨t, e5⟩ := hi.vint e1
   rw [e5]
   exact tail_any hl.typeIs slot_list_getitem.lookup (listGet hl b1 b2 e2 e3 (hQ.here S e4 rfl .refl)) (sub_plain hp _ _)
  | sdict fs =>
   refine bindE e fun x e1 e => ?_
   obtain ⟨a, o, kvs, e0, _, hm, hd, hn, hD, hpr⟩ := S.sdict h hk
   obtain ⟨t, e5⟩ := hi.vstr e1
   obtain ⟨u, e6, e2⟩ := (hpr.at_ _).1 _ e
   rw [e0, e5]
   exact tail_any hD.typeIs slot_dict_getitem.lookup (wpAny_getItem_of (strKind_is _ _ _ _) hD.mapOf e6 (hQ.here S e2 rfl ⟨rfl, rfl⟩)) (sub_plain hp _ _)
  | _ => exact noS e
 | _ => exact noS e
theorem St.append (S : St G c CL ρ m s news al st) {v u : Value} {k : Nat} {l : List V} {y : V} {Q : Value → Shared → Prop} (h : VR (G.K c.w.params) news al v (.hnd k)) (e : st[k]? = some (.list l)) (hz : l.length ≤ sizeLine) (hu : VR (G.K c.w.params) news al u y)
  (hQ : Cont G c CL ρ m s news al relV .none (st.set k (.list (l ++ [y]))) Q) : wpAny (model G.prog c.w) A (call (.builtin "list.append") [v, u]) Q E s := by
 obtain ⟨a, rfl, _⟩ := h.inv
 obtain ⟨vs, n, hal, hm, hl, r1⟩ := S.list h e
 have hdf : a ∈ flat al := mem_flat.mpr ⟨_, _, hal, .inl rfl⟩
 refine append_K S.F S.N (putLed_upd S.H.nd hm) (fun h' F N => ?_) (by have := r1.length; simp; lia)
 have X := Ext.put (o := listOf (vs.toArray.push u) (n + 1)) (news := news) hdf
 have hx : OR (G.K c.w.params) G.prog c.w (putLed a (listOf (vs.toArray.push u) (n + 1)) news) al (a, none) (.list (l ++ [y])) := by
  have := OR.list (K := G.K c.w.params) (prog := G.prog) (w := c.w) (n := n + 1) (mem_putLed_at (o := listOf (vs ++ [u]).toArray (n + 1)) hm) ((r1.append (.one hu)).ext S.H (Ext.put hdf))
  simpa using this
 exact hQ _ _ _ _ (S.ext X F N (S.H.put hal (.inl rfl) hx)) X .none ⟨rfl, rfl⟩
theorem VRs.dropLast {K : Frag} {vs : List Value} {l : List V} (h : VRs K news al vs l) : VRs K news al vs.dropLast l.dropLast := by
 rw [List.dropLast_eq_take, List.dropLast_eq_take, h.length]
 exact h.take _
theorem VRs.last {K : Frag} {vs : List Value} {l : List V} {y : V} (h : VRs K news al vs l) (e : l.getLast? = some y) : ∃ v, vs.getLast? = some v ∧ VR K news al v y := by
 rw [List.getLast?_eq_getElem?] at e
 obtain ⟨v, h1, h2⟩ := h.get e
 exact ⟨v, by rw [List.getLast?_eq_getElem?, h.length]; exact h1, h2⟩
theorem kl_last_of : ∀ {l : List Value} {x : Value}, l.getLast? = some x → kl_last l = some (l.dropLast, x)
 | [], _, h => by exact noS h
 | [a], x, h => by simp at h; subst h; rfl
 | a :: b :: r, x, h => by
  have := kl_last_of (l := b :: r) (x := x) (by simpa using h)
  unfold kl_last
  rw [this]; simp
theorem St.pop (S : St G c CL ρ m s news al st) {v : Value} {k : Nat} {l : List V} {y : V} {Q : Value → Shared → Prop} (h : VR (G.K c.w.params) news al v (.hnd k)) (e : st[k]? = some (.list l)) (hz : l.length ≤ sizeLine) (hl : l.getLast? = some y)
  (hQ : Cont G c CL ρ m s news al relV y (st.set k (.list l.dropLast)) Q) : wpAny (model G.prog c.w) A (call (.builtin "list.pop") [v]) Q E s := by
 obtain ⟨a, rfl, _⟩ := h.inv
 obtain ⟨vs, n, hal, hm, _, r1⟩ := S.list h e
 have hdf : a ∈ flat al := mem_flat.mpr ⟨_, _, hal, .inl rfl⟩
 obtain ⟨u, h1, h2⟩ := r1.last hl
 refine kl_pop S.F S.N (by simpa using kl_last_of h1) (putLed_upd S.H.nd hm) (by have := r1.length; simp; lia) fun h' F N => ?_
 have X := Ext.put (o := listOf vs.dropLast.toArray (n + 1)) (news := news) hdf
 exact hQ _ _ _ _ (S.ext X F N (S.H.put hal (.inl rfl) (.list (mem_putLed_at hm) (r1.dropLast.ext S.H X)))) X (h2.ext S.H X) ⟨rfl, rfl⟩
noncomputable def lenO : O → Option Int
 | .list l => if l.length ≤ sizeLine then some l.length else none
 | _ => none
def lenV (y : V) (st : Sto) : Option Int := match y with
 | .tup l => if l.length ≤ sizeLine then some l.length else none
 | .str x => if x.length ≤ sizeLine then some x.length else none
 | .hnd k => st[k]?.bind lenO
 | _ => none
theorem lenV_sound (hc : c.Ok G) (S : St G c CL ρ m s news al st) {v : Value} {y : V} {n : Int} {Q : Value → Shared → Prop} (h : VR (G.K c.w.params) news al v y) (e : lenV y st = some n) (hQ : Cont G c CL ρ m s news al relV (.int n) st Q) :
  wpAny (model G.prog c.w) A (call (.builtin "len") [v]) Q E s := by
 have H : ∀ {a tk : Nat} {t : Tok}, (a : Int) = n → Q (.int a t) { s with toks := tk } := fun e => hQ.here S (e ▸ .int) rfl ⟨rfl, rfl⟩
 cases y with
 | tup l =>
  obtain ⟨a, e0⟩ := h.inv
  rw [e0] at h ⊢
  obtain ⟨vs, t1, r1⟩ := S.tup hc h
  exact iteS e fun hl e => PyProof.Rows.len_tuple t1 (by have := r1.length; simp only [sizeLine] at hl; simp; lia) (H (by rw [List.size_toArray, r1.length]; exact sInj e))
 | str x =>
  obtain ⟨t, e0⟩ := h.inv
  rw [e0]
  exact iteS e fun hl e => PyProof.Rows.len_str (by simp only [sizeLine] at hl; lia) (H (sInj e))
 | hnd k =>
  refine bindE e fun o hk e => ?_
  cases o with
  | list l =>
   obtain ⟨a, e0, _⟩ := h.inv
   rw [e0] at h ⊢
   obtain ⟨vs, n, _, hm, t1, r1⟩ := S.list h hk
   exact iteS e fun hl e => Calls.call_len_list t1 (by have := r1.length; simp only [sizeLine] at hl; simp; lia) (H (by rw [List.size_toArray, r1.length]; exact sInj e))
  | _ => exact noS e
 | _ => exact noS e
theorem St.newOwn (S : St G c CL ρ m s news al st) {a : Addr} {o : Obj} {x : O} {h' : Heap} {tk : Nat} (ha : a ∉ news.map (·.1)) (F : Fr S.gr c.L h' m) (N : News S.gr c.L h' ((a, o) :: news))
  (hx : OR (G.K c.w.params) G.prog c.w ((a, o) :: news) (al ++ [(a, none)]) (a, none) x) :
  St G c CL ρ m { s with heap := h', toks := tk } ((a, o) :: news) (al ++ [(a, none)]) (st ++ [x]) ∧ Ext news al ((a, o) :: news) (al ++ [(a, none)]) ∧ VR (G.K c.w.params) ((a, o) :: news) (al ++ [(a, none)]) (.ref a) (.hnd st.length) := by
 have X := Ext.owned (al := al) (o := o) ha
 exact ⟨S.ext X F N (S.H.owned ha hx), X, .hnd (x := none) (by rw [← S.H.len]; simp)⟩
theorem St.newList (S : St G c CL ρ m s news al st) {vs : List Value} {l : List V} {Q : Value → Shared → Prop} (h : VRs (G.K c.w.params) news al vs l) (hsz : l.length ≤ sizeLine) (hQ : Cont G c CL ρ m s news al relV (.hnd st.length) (st ++ [.list l]) Q) :
  wpAny (model G.prog c.w) A (newList vs) Q E s :=
 newList_N S.F S.N (fun h' F N => by
  have hx : OR (G.K c.w.params) G.prog c.w ((s.heap.objs.size, listOf vs.toArray 0) :: news) (al ++ [(s.heap.objs.size, none)]) (s.heap.objs.size, none) (.list l) := .list (List.mem_cons_self) (h.ext S.H (Ext.owned S.fresh))
  obtain ⟨S', X, r⟩ := S.newOwn (tk := s.toks) S.fresh F N hx
  exact hQ _ _ _ _ S' X r ⟨rfl, rfl⟩) (by rw [h.length]; exact hsz)
theorem St.tmpList (S : St G c CL ρ m s news al st) {vs : List Value} {l : List V} {Q : Value → Shared → Prop} (h : VRs (G.K c.w.params) news al vs l) (hsz : l.length ≤ sizeLine)
  (hQ : ∀ a s' news', St G c CL ρ m s' news' al st → Ext news al news' al → s'.heap.IsList a vs.toArray → VRs (G.K c.w.params) news' al vs l → Same s s' → Q (.ref a) s') :
  wpAny (model G.prog c.w) A (PySem.newList vs) Q E s :=
 newList_N S.F S.N (fun h' F N => hQ _ _ _ (S.new (tk := s.toks) F N) Ext.free (N.isList (.head _)) (h.ext S.H Ext.free) ⟨rfl, rfl⟩) (by rw [h.length]; exact hsz)
theorem St.tupOf (S : St G c CL ρ m s news al st) {a : Addr} {vs : List Value} {l : List V} {Q : Value → Shared → Prop} (hl : s.heap.IsList a vs.toArray) (h : VRs (G.K c.w.params) news al vs l) (hsz : l.length ≤ 16384) (hQ : Cont G c CL ρ m s news al relV (.tup l) st Q) :
  wpAny (model G.prog c.w) A (call (.type "tuple") [.ref a]) Q E s := by
 refine kde_tupleOf S.F S.N hl (by have := h.length; simp; lia) (zs := vs) (by simp) fun D h' F N hlt => ?_
 have hD : D ∉ news.map (·.1) := fun q => by
  obtain ⟨p, hp, e⟩ := List.mem_map.mp q
  exact absurd (hlt p hp) (by rw [e]; exact Nat.lt_irrefl _)
 exact hQ _ _ _ _ (S.ext Ext.free F N (S.H.free hD)) Ext.free (.tup (.head _) (h.ext S.H Ext.free)) ⟨rfl, rfl⟩
def rngP (args : List V) : Option V := ((int1 args).map fun n => V.rng 0 n 1).or (((int2 args).map fun p => V.rng p.1 p.2 1).or ((int3 args).bind fun p => if p.2.2 = 0 ∨ Builtin.divisionGoesByPylong (p.2.1 - p.1) p.2.2 = true then none else some (.rng p.1 p.2.1 p.2.2)))
def tupP (y : V) (st : Sto) : Option V := (y.tup?.map V.tup).or (y.hnd?.bind fun k => (lstAt st k).bind fun l => if l.length ≤ 16384 then some (.tup l) else none)
def biP (q : Bool) (id : String) (args : List V) (st : Sto) : Option V :=
 if id = "len" then (arg1 args).bind fun y => (lenV y st).map V.int
 else if id = "abs" then (int1 args).map fun i => V.int (if i < 0 then -i else i)
 else if id = "max" then (if q = true then (int2 args).map fun p => V.int (if p.2 > p.1 then p.2 else p.1) else none)
 else if id = "min" then (if q = true then (int2 args).map fun p => V.int (if p.2 < p.1 then p.2 else p.1) else none)
 else none
def tyP (id : String) (args : List V) (st : Sto) : Option V :=
 if id = "int" then (int1 args).map V.int
 else if id = "range" then rngP args
 else if id = "tuple" then (arg1 args).bind fun y => tupP y st
 else if id = "str" then (int1 args).bind fun i => if i.natAbs < 10 then some (.str (Str.ofString (toString i))) else none
 else none
def callB (q : Bool) (f : V) (args : List V) (st : Sto) : Option (V × Sto) := match f with
 | .bi id => (biP q id args st).map fun z => (z, st)
 | .ty id => (tyP id args st).map fun z => (z, st)
 | _ => none
theorem rngP_sound (S : St G c CL ρ m s news al st) {vs : List Value} {z : V} {args : List V} {Q : Value → Shared → Prop} (hs : VRs (G.K c.w.params) news al vs args) (e : rngP args = some z) (hQ : Cont G c CL ρ m s news al relV z st Q) : wpAny (model G.prog c.w) A (call (.type "range") vs) Q E s := by
 have R : ∀ {x : Int} {y : Int} {u : Int} {a b d : Tok} {tk : Nat}, V.rng x y u = z → Q (.ref s.heap.objs.size) { s with heap := s.heap.push { cls := .type "range", data := .fields #[.int x a, .int y b, .int u d] }, toks := tk } := fun e => hQ _ _ _ _ (S.new (S.F.push _) (S.N.push S.F _)) Ext.free (e ▸ .rng (.head _)) ⟨rfl, rfl⟩
 refine orE e (fun e => mapE e fun n e1 e => ?_) fun e => orE e (fun e => mapE e fun p e1 e => ?_) fun e => bindE e fun p e1 e => iteE e (fun _ e => noS e) fun hz e => ?_
 ·obtain ⟨t, e2⟩ := hs.i1 e1
  exact e2 ▸ call_range_1 (R e)
 ·obtain ⟨t, u, e2⟩ := hs.i2 e1
  exact e2 ▸ call_range_2 (R e)
 ·obtain ⟨t, u, y, e2⟩ := hs.i3 e1
  rw [not_or, Bool.not_eq_true] at hz
  exact e2 ▸ call_range_3 hz.1 (R (sInj e)) (.inl hz.2)
theorem tupP_sound (hc : c.Ok G) (S : St G c CL ρ m s news al st) {v : Value} {y z : V} {Q : Value → Shared → Prop} (h : VR (G.K c.w.params) news al v y) (e : tupP y st = some z) (hQ : Cont G c CL ρ m s news al relV z st Q) : wpAny (model G.prog c.w) A (call (.type "tuple") [v]) Q E s := by
 refine orE e (fun e => mapE e fun l e1 e => ?_) fun e => bindE e fun k e1 e => bindE e fun l e2 e => iteS e fun hl e => ?_
 ·obtain ⟨a, e2, h⟩ := h.vtup e1
  obtain ⟨vs, t1, r1⟩ := S.tup hc h
  exact e2 ▸ PySem.call_tuple_same t1 (hQ.here S (e ▸ h) rfl .refl)
 ·obtain ⟨a, e3, h⟩ := h.vhnd e1
  obtain ⟨vs, n, _, hm, t1, r1⟩ := S.list h (lstAt_of e2)
  exact e3 ▸ S.tupOf t1 r1 hl (sInj e ▸ hQ)
theorem biP_sound (hc : c.Ok G) (hA : Ar c k q A) (S : St G c CL ρ m s news al st) {vs : List Value} {id : String} {z : V} {args : List V} {Q : Value → Shared → Prop} (hs : VRs (G.K c.w.params) news al vs args) (e : biP q id args st = some z)
  (hQ : Cont G c CL ρ m s news al relV z st Q) : wpAny (model G.prog c.w) A (call (.builtin id) vs) Q E s := by
 have H : ∀ {i : Int} {h' : Heap} {tk : Nat} {t : Tok}, (∀ b o, s.heap.get? b = some o → h'.get? b = some o) → V.int i = z → Q (.int i t) { s with heap := h', toks := tk } := fun hk e => hQ _ _ _ _ (S.ext Ext.refl (S.F.keeps hk) (S.N.grown hk) S.H) Ext.refl (e ▸ .int) ⟨rfl, rfl⟩
 refine iteE e (fun hid e => bindE e fun y e1 e => mapE e fun n e2 e => ?_) fun _ e => iteE e (fun hid e => mapE e fun i e1 e => ?_) fun _ e => iteE e (fun hid e => iteS e fun hq e => mapE e fun p e1 e => ?_) fun _ e => iteS e fun hid e => iteS e fun hq e => mapE e fun p e1 e => ?_
 ·obtain ⟨v, e3, h1⟩ := hs.a1 e1
  exact hid ▸ e3 ▸ lenV_sound hc S h1 e2 (e ▸ hQ)
 ·obtain ⟨t, e2⟩ := hs.i1 e1
  exact hid ▸ e2 ▸ call_abs_int fun u tk => H (fun _ _ x => x) e
 ·obtain ⟨t, u, e2⟩ := hs.i2 e1
  rw [hid, e2]
  refine PySem.max_two_ints (hA.hd hq) fun h' tk hk => ?_
  rw [← e] at hQ
  exact hQ _ _ _ _ (S.ext Ext.refl (S.F.keeps hk) (S.N.grown hk) S.H) Ext.refl (by split <;> exact .int) ⟨rfl, rfl⟩
 ·obtain ⟨t, u, e2⟩ := hs.i2 e1
  rw [hid, e2]
  refine PySem.min_two_ints (hA.hd hq) fun h' tk hk => ?_
  rw [← e] at hQ
  exact hQ _ _ _ _ (S.ext Ext.refl (S.F.keeps hk) (S.N.grown hk) S.H) Ext.refl (by split <;> exact .int) ⟨rfl, rfl⟩
theorem tyP_sound (hc : c.Ok G) (S : St G c CL ρ m s news al st) {vs : List Value} {id : String} {z : V} {args : List V} {Q : Value → Shared → Prop} (hs : VRs (G.K c.w.params) news al vs args) (e : tyP id args st = some z)
  (hQ : Cont G c CL ρ m s news al relV z st Q) : wpAny (model G.prog c.w) A (call (.type id) vs) Q E s := by
 refine iteE e (fun hid e => mapE e fun i e1 e => ?_) fun _ e => iteE e (fun hid e => hid ▸ rngP_sound S hs e hQ) fun _ e => iteE e (fun hid e => bindE e fun y e1 e => ?_) fun _ e => iteS e fun hid e => bindE e fun i e1 e => iteS e fun hi e => ?_
 ·obtain ⟨t, e2⟩ := hs.i1 e1
  exact hid ▸ e2 ▸ call_int_int (hQ.here S (e ▸ .int) rfl ⟨rfl, rfl⟩)
 ·obtain ⟨v, e3, h1⟩ := hs.a1 e1
  exact hid ▸ e3 ▸ tupP_sound hc S h1 e hQ
 ·obtain ⟨t, e2⟩ := hs.i1 e1
  exact hid ▸ e2 ▸ PySem.P.str_of_int (Nat.lt_of_le_of_lt (Nat.log2_le_self _) (by lia)) (hQ.here S (sInj e ▸ .str) rfl ⟨rfl, rfl⟩)
theorem callB_sound (hc : c.Ok G) (hA : Ar c k q A) (S : St G c CL ρ m s news al st) {v : Value} {vs : List Value} {f z : V} {args : List V} {Q : Value → Shared → Prop} (h : VR (G.K c.w.params) news al v f) (hs : VRs (G.K c.w.params) news al vs args) (e : callB q f args st = some (z, st'))
  (hQ : Cont G c CL ρ m s news al relV z st' Q) : wpAny (model G.prog c.w) A (call v vs) Q E s := by
 cases f with
 | bi id => exact mapE e fun y e1 e2 => (show v = _ from h.inv) ▸ biP_sound hc hA S hs e1 ((Prod.mk.inj e2).1 ▸ (Prod.mk.inj e2).2 ▸ hQ)
 | ty id => exact mapE e fun y e1 e2 => (show v = _ from h.inv) ▸ tyP_sound hc S hs e1 ((Prod.mk.inj e2).1 ▸ (Prod.mk.inj e2).2 ▸ hQ)
 | _ => exact noS e
end
noncomputable def pickV (l : List V) (lo hi st : Option Int) : List V :=
 (sliceRange (sliceBounds lo hi st l.length).1 (sliceBounds lo hi st l.length).2.1 (sliceBounds lo hi st l.length).2.2).filterMap (l[·]?)
section
variable {K : Frag} {news : Led} {al : Al}
theorem VRs.picks {vs : List Value} {l : List V} (h : VRs K news al vs l) : ∀ (ix : List Nat), VRs K news al (ix.filterMap (vs.toArray[·]?)) (ix.filterMap (l[·]?))
 | [] => .nil
 | i :: r => by
  have ih := VRs.picks h r
  rw [List.filterMap_cons, List.filterMap_cons]
  have hs := h.length
  cases e : l[i]? with
  | none =>
   have : vs.toArray[i]? = none := by
    rw [List.getElem?_toArray]
    rw [List.getElem?_eq_none_iff] at e ⊢
    lia
   rw [this]; exact ih
  | some y =>
   obtain ⟨v, h1, h2⟩ := h.get e
   have : vs.toArray[i]? = some v := by rw [List.getElem?_toArray]; exact h1
   rw [this]; exact .cons h2 ih
theorem VRs.slice {vs : List Value} {l : List V} (h : VRs K news al vs l) (lo hi st : Option Int) : VRs K news al (slicePick vs.toArray lo hi st).toList (pickV l lo hi st) := by
 unfold slicePick pickV
 rw [show vs.toArray.size = l.length from by simp [h.length]]
 exact h.picks _
end
noncomputable def partV : V → Option (Option Int)
 | .none => some none
 | .int i => some (some i)
 | _ => none
section
variable {G : Pg} {c : Act} {k : Nat} {q : Bool} {CL : List (Str × Nat)} {ρ : List (Str × V)} {m : Str → Option Value} {s s' : Shared} {news news' : Led} {al al' : Al} {st st' : Sto} {A : Around} {E : Value → Shared → Prop}
theorem part_of {K : Frag} {v : Value} {y : V} {p : Option Int} (h : VR K news al v y) (e : partV y = some p) : IsPart v p := by
 cases h <;> cases e
 ·exact .none
 ·exact .int _ _
theorem sliceTail {value slice : Expr} {a : Addr} {vs : List Value} {l : List V} {vl vu vk : Value} {lo hi stp : Option Int} {Q : Value → Shared → Prop} (S : St G c CL ρ m s news al st) (hl : s.heap.IsList a vs.toArray) (hs : VRs (G.K c.w.params) news al vs l) (hz : l.length ≤ sizeLine)
  (pl : IsPart vl lo) (pu : IsPart vu hi) (pk : IsPart vk stp) (h0 : stp ≠ some 0) (ops : List Value)
  (hsub : subscripted slice false (.ref a) (.ref s.heap.objs.size) = operate ops (getItem (.ref a) (.ref s.heap.objs.size)))
  (hQ : ∀ b s' news', St G c CL ρ m s' news' al st → Ext news al news' al → b ∉ news.map (·.1) → (b, listOf (slicePick vs.toArray lo hi stp) 0) ∈ news' → Same s s' → Q (.ref b) s') :
  wpAny (model G.prog c.w) A (subscriptTail value slice (.ref a) (.ref s.heap.objs.size)) Q E { s with heap := s.heap.push { cls := .type "slice", data := .fields #[vl, vu, vk] } } := by
 have S1 : St G c CL ρ m { s with heap := s.heap.push { cls := .type "slice", data := .fields #[vl, vu, vk] } } news al st := S.ext Ext.refl (S.F.push _) (S.N.grown fun _ _ e => Heap.get?_push_of_some _ e) S.H
 refine tail_any (hl.push _).typeIs list_getitem_lookup (wpAny_getItem_list_slice (hl.push _) (Heap.IsSliceOf.new ..) pl pu pk h0 ?_ (by simp; rw [hs.length]; exact hz)) hsub
 have hfresh := S1.fresh
 refine hQ _ _ _ (S1.new (tk := s.toks) (S1.F.push _) (S1.N.push S1.F _)) Ext.free hfresh (.head _) ⟨rfl, rfl⟩
def getDO (i d : V) : O → Option V
 | .sdict fs => i.str?.map fun x => (fs.lookup x).getD d
 | _ => none
def getDV (y i d : V) (st : Sto) : Option V := y.hnd?.bind fun k => st[k]?.bind (getDO i d)
theorem PR.getD {K : Frag} {κ : Type} [DecidableEq κ] {kvs : List (κ × Value)} {fs : List (κ × V)} (h : PR K news al kvs fs) (x : κ) {v : Value} {y : V} (hv : VR K news al v y) : VR K news al ((valueAt kvs x).getD v) ((fs.lookup x).getD y) := by
 obtain ⟨h1, h2⟩ := h.at_ x
 cases e : fs.lookup x with
 | none => rw [h2 e]; exact hv
 | some z => obtain ⟨u, e1, e2⟩ := h1 z e; rw [e1]; exact e2
theorem getDV_sound (S : St G c CL ρ m s news al st) {v vi vd : Value} {y i d z : V} {Q : Value → Shared → Prop} (h : VR (G.K c.w.params) news al v y) (hi : VR (G.K c.w.params) news al vi i) (hd : VR (G.K c.w.params) news al vd d) (e : getDV y i d st = some z)
  (hQ : Cont G c CL ρ m s news al relV z st Q) : wpAny (model G.prog c.w) A (call (.builtin "dict.get") [v, vi, vd]) Q E s := by
 refine bindE e fun k e1 e => bindE e fun o hk e => ?_
 have h := (V.hnd_of e1 ▸ h : VR (G.K c.w.params) news al v (.hnd k))
 cases o with
 | sdict fs =>
  refine mapE e fun x e2 e => ?_
  obtain ⟨a, o, kvs, e0, _, hm, hdo, hn, hD, hpr⟩ := S.sdict h hk
  obtain ⟨t, e3⟩ := hi.vstr e2
  exact e0 ▸ e3 ▸ call_meetsIn PySem.F.slot_dict_get hD.typeIs PySem.F.entry_dict_get (PySem.F.args_dict_get_3 _ _ _) (meets_dict_get_default (strKind G.prog c.w) a (strKind_is _ _ _ _) hn vd) ⟨_, hD.mapOf, hQ.here S (e ▸ hpr.getD _ hd) rfl ⟨rfl, rfl⟩⟩
 | _ => exact noS e
theorem St.sys (hc : c.Ok G) (S : St G c CL ρ m s news al st) : (s.heap.objs.size == sysModules) = false := S.F.notModules (modules_low (S.TG hc).nolimit)
end
theorem adjust_rev (n : Nat) : Builtin.Slice.sliceAdjust none none (-1) (n : Int) = ((n : Int) - 1, -1) := rfl
theorem places_rev (n : Nat) : Builtin.Slice.slicePlaces ((n : Int) - 1) (-1) (-1) = n := by
 unfold Builtin.Slice.slicePlaces
 rw [if_neg (by decide)]
 split
 ·rw [show (-(-1 : Int)) = 1 from rfl, Int.ediv_one]; lia
 ·lia
theorem pick_rev (xs : Array Value) : ((List.range xs.size).filterMap fun (k : Nat) => xs[(((xs.size : Int) - 1) + (k : Int) * (-1)).toNat]?) = xs.toList.reverse := by
 have h : ∀ k, k < xs.size → xs[(((xs.size : Int) - 1) + (k : Int) * (-1)).toNat]? = xs.toList.reverse[k]? := fun k hk => by
  rw [show (((xs.size : Int) - 1) + (k : Int) * (-1)).toNat = xs.size - 1 - k by lia, ← Array.getElem?_toList, List.getElem?_reverse (by rw [Array.length_toList]; exact hk), Array.length_toList]
 have g : ∀ (l : List Value), (List.range l.length).filterMap (fun k => l[k]?) = l := fun l => by
  induction l with
  | nil => rfl
  | cons a l ih =>
   rw [List.length_cons, List.range_succ_eq_map, List.filterMap_cons, List.filterMap_map]
   exact congrArg (a :: ·) ih
 have hl : xs.size = xs.toList.reverse.length := by rw [List.length_reverse, Array.length_toList]
 rw [← g xs.toList.reverse, ← hl]
 have c : ∀ (l : List Nat) (f g : Nat → Option Value), (∀ k ∈ l, f k = g k) → l.filterMap f = l.filterMap g := fun l f g hl => by
  induction l with
  | nil => rfl
  | cons a l ih => rw [List.filterMap_cons, List.filterMap_cons, hl a (.head _), ih fun k hk => hl k (.tail _ hk)]
 exact c _ _ _ fun k hk => h k (List.mem_range.mp hk)
section
variable {prog : Program} {w : World} {A : Around} {E : Value → Shared → Prop} {s : Shared}
theorem applied_rev {sl : Addr} {n : Nat} {u : Tok} {Q : Int × Int × Nat → Shared → Prop} (hs : s.heap.IsSliceOf sl .none .none (.int (-1) u)) (h : Q ((n : Int) - 1, -1, n) s) :
  wpAny (model prog w) A (Builtin.Slice.sliceApplied (.ref sl) (pure (n : Int))) Q E s := by
 obtain ⟨os, hos, hcs, hds⟩ := id hs
 unfold Builtin.Slice.sliceApplied Builtin.Slice.sliceFields
 refine wpAny_bind (wpAny_bind (wpAny_field hos hds (x := .none) rfl (wpAny_bind (wpAny_field hos hds (x := .none) rfl (wpAny_bind (wpAny_field hos hds (x := .int (-1) u) rfl (wpAny_pure ?_)))))))
 refine wpAny_bind (slicePart_int ?_)
 show wpAny _ _ (if ((-1 : Int) == 0) = true then _ else _) _ _ s
 rw [if_neg (by decide)]
 refine wpAny_bind (slicePart_none (wpAny_bind (slicePart_none (wpAny_bind (wpAny_pure ?_)))))
 show wpAny _ _ (match Builtin.Slice.sliceAdjust none none (-1) (n : Int) with | (lo, hi) => pure (lo, (-1 : Int), Builtin.Slice.slicePlaces lo hi (-1))) _ _ s
 rw [adjust_rev n]
 show wpAny _ _ (pure ((n : Int) - 1, (-1 : Int), Builtin.Slice.slicePlaces ((n : Int) - 1) (-1) (-1))) _ _ s
 rw [places_rev n]
 exact wpAny_pure h
theorem getItem_rev {t sl : Addr} {items : Array Value} {u : Tok} {Q : Value → Shared → Prop} (ht : IsTup s.heap t items) (hs : s.heap.IsSliceOf sl .none .none (.int (-1) u))
  (h : Q (.ref s.heap.objs.size) { s with heap := s.heap.push { cls := .type "tuple", data := .seq items.toList.reverse.toArray } }) (hsz : items.size ≤ sizeLine) : wpAny (model prog w) A (getItem (.ref t) (.ref sl)) Q E s := by
 have hdrop : sizeOk (.seq items.toList.reverse.toArray) := by
  show items.toList.reverse.toArray.size ≤ sizeLine
  rw [List.size_toArray, List.length_reverse, Array.length_toList]
  exact hsz
 obtain ⟨os, hos, hcs, hds⟩ := id hs
 have hTs : s.TypeIs (.ref sl) "slice" := ⟨os, hos, hcs⟩
 unfold getItem
 try with_reducible refine wpAny_holding ?_
 first | refine wpAny_bind (wpAny_pure ?_) | skip
 refine wpAny_bind (wpAny_sequenceKey ht.typeIs (by decide) ?_)
 refine wpAny_bind (wpAny_callSpecial?_slot (name := Str.ofString "__getitem__") ht.typeIs slot_tuple_getitem
  (wpAny_call_entry slot_tuple_getitem ht.typeIs entry_tuple_getitem ?_ (args_tuple_getitem _ _)))
 show wpAny _ _ (Builtin.Tuple.tupleItemsOf (.ref t) >>= _) _ _ s
 refine wpAny_bind (tupleItemsOf_ ht ?_)
 refine wpAny_bind (wpAny_typeOf hTs ?_)
 rw [if_pos (by decide)]
 refine wpAny_bind (applied_rev hs ?_)
 have hno : ¬ ((((items.size : Int) - 1) == 0 && (-1 : Int) == 1 && items.size == items.size) = true) := by
  rw [show ((-1 : Int) == 1) = false from rfl, Bool.and_false, Bool.false_and]; exact Bool.false_ne_true
 show wpAny _ _ (if (((items.size : Int) - 1) == 0 && (-1 : Int) == 1 && items.size == items.size) = true then _ else _) _ _ s
 rw [if_neg hno, pick_rev items]
 first
  | exact wpAny_bind (m := Builtin.Tuple.tupleExact _) (wpAny_newObj_type (wpAny_pure ⟨_, rfl, wpAny_pure h⟩) hdrop)
  | exact wpAny_bind (m := Builtin.Tuple.tupleExact _) (wpAny_newObj_type (wpAny_bind (wpAny_pure (wpAny_pure ⟨_, rfl, wpAny_pure h⟩))) hdrop)
  | exact wpAny_bind (wpAny_bind (m := Builtin.Tuple.tupleExact _) (wpAny_newObj_type (wpAny_pure (wpAny_pure ⟨_, rfl, wpAny_pure h⟩)) hdrop))
  | exact wpAny_bind (wpAny_bind (m := Builtin.Tuple.tupleExact _) (wpAny_newObj_type (wpAny_pure ⟨_, rfl, wpAny_pure h⟩) hdrop))
end
section
variable {G : Pg} {c : Act} {k : Nat} {q : Bool} {CL : List (Str × Nat)} {ρ : List (Str × V)} {m : Str → Option Value} {s s' : Shared} {news news' : Led} {al al' : Al} {st st' : Sto} {A : Around} {E : Value → Shared → Prop}
def revV (l : List V) (lo hi st : V) : Option V := (partV lo).bind fun a => (partV hi).bind fun b => (partV st).bind fun c => if a = none ∧ b = none ∧ c = some (-1) ∧ l.length ≤ sizeLine then some (.tup l.reverse) else none
theorem revTail {value slice : Expr} {a : Addr} {l : List V} {vl vu vk : Value} {lo hi stp y : V} {Q : Value → Shared → Prop} (hc : c.Ok G) (S : St G c CL ρ m s news al st) (h : VR (G.K c.w.params) news al (.ref a) (.tup l)) (pl : VR (G.K c.w.params) news al vl lo) (pu : VR (G.K c.w.params) news al vu hi) (pk : VR (G.K c.w.params) news al vk stp)
  (e : revV l lo hi stp = some y) (ops : List Value) (hsub : subscripted slice false (.ref a) (.ref s.heap.objs.size) = operate ops (getItem (.ref a) (.ref s.heap.objs.size))) (hQ : Cont G c CL ρ m s news al relV y st Q) :
  wpAny (model G.prog c.w) A (subscriptTail value slice (.ref a) (.ref s.heap.objs.size)) Q E { s with heap := s.heap.push { cls := .type "slice", data := .fields #[vl, vu, vk] } } := by
 refine bindE e fun a1 e1 e => bindE e fun b1 e2 e => bindE e fun c1 e3 e => iteS e fun hz e => ?_
 obtain ⟨h1, h2, h3, h4⟩ := hz
 have S1 : St G c CL ρ m { s with heap := s.heap.push { cls := .type "slice", data := .fields #[vl, vu, vk] } } news al st := S.ext Ext.refl (S.F.push _) (S.N.grown fun _ _ e => Heap.get?_push_of_some _ e) S.H
 obtain ⟨vs, t1, r1⟩ := S.tup hc h
 have g1 := h1 ▸ part_of pl e1
 have g2 := h2 ▸ part_of pu e2
 have g3 := h3 ▸ part_of pk e3
 cases g1 with | none => cases g2 with | none => cases g3 with | int _ u =>
 have ht : IsTup (s.heap.push { cls := .type "slice", data := .fields #[.none, .none, .int (-1) u] }) a vs.toArray := t1.keeps fun _ _ e => Heap.get?_push_of_some _ e
 refine tail_any ht.typeIs slot_tuple_getitem.lookup (getItem_rev ht (Heap.IsSliceOf.new ..) ?_ (by rw [List.size_toArray, r1.length]; exact h4)) hsub
 rw [← sInj e] at hQ
 exact hQ _ _ _ _ (S1.new (tk := s.toks) (S1.F.push _) (S1.N.push S1.F _)) Ext.free (.tup (.head _) ((r1.reverse).ext S1.H Ext.free)) ⟨rfl, rfl⟩
def eqL (a b : V) (st : Sto) : Option Bool := (datV a st).bind fun d => (datV b st).bind fun e => if SeqAt.shaped d && SeqAt.shaped e then some (PyData.eqv d e) else none
noncomputable def isN : V → Option Bool
 | .none => some true
 | .tup _ => some false
 | _ => none
def isX (a b : V) : Option Bool := match b with
 | .none => isN a
 | _ => none
def cmpX (op : CmpOp) (a b : V) (st : Sto) : Option Bool := (cmpV op a b).or (match op with
  | .Eq => eqL a b st
  | .Is => isX a b
  | .IsNot => (isX a b).map (!·)
  | _ => none)
theorem isX_of {a b : V} {v1 v2 : Value} {r : Bool} {K : Frag} (h1 : VR K news al v1 a) (h2 : VR K news al v2 b) (e : isX a b = some r) : isSame v1 v2 = pure r := by
 cases b with
 | none =>
  rw [show v2 = .none from h2.inv]
  cases a with
  | none => rw [show v1 = .none from h1.inv, ← sInj e]; rfl
  | tup l =>
   obtain ⟨x, e0, _⟩ := h1.vtup (i := l) rfl
   rw [e0, ← sInj e]; rfl
  | _ => exact noS e
 | _ => exact noS e
theorem cmpX_sound (hc : c.Ok G) (hA : Ar c k q A) (S : St G c CL ρ m s news al st) {op : CmpOp} {v1 v2 : Value} {y1 y2 : V} {b : Bool} {Q : Value → Shared → Prop} (h1 : VR (G.K c.w.params) news al v1 y1) (h2 : VR (G.K c.w.params) news al v2 y2) (e : cmpX op y1 y2 st = some b)
  (hQ : ∀ s', s'.heap = s.heap → Same s s' → Q (.bool b) s') : wpAny (model G.prog c.w) A (compareOp op v1 v2) Q E s := by
 refine orE e (fun e => cmpV_sound hc hA S h1 h2 e (hQ s rfl .refl)) fun e => ?_
 have hu : A.units + 64 < cLine := by have := hA.un; lia
 cases op with
 | Eq =>
  refine bindE e fun d e1 e => bindE e fun d' e2 e => iteS e fun hs e => ?_
  rw [Bool.and_eq_true] at hs
  obtain ⟨as, r1⟩ := datV_reads hc S h1 e1
  obtain ⟨bs, r2⟩ := datV_reads hc S h2 e2
  exact PyProof.Rows.eq_dataH r1 r2 hs.1 hs.2 hu (sInj e ▸ hQ s rfl .refl)
 | Is =>
  show wpAny _ _ (do return Value.bool (← isSame v1 v2)) _ _ _
  rw [isX_of h1 h2 e]
  exact wpAny_pure (hQ s rfl .refl)
 | IsNot =>
  refine mapE e fun r e1 e2 => ?_
  show wpAny _ _ (do return Value.bool (!(← isSame v1 v2))) _ _ _
  rw [isX_of h1 h2 e1]
  exact wpAny_pure (show Q (.bool (!r)) s from e2 ▸ hQ s rfl .refl)
 | _ => exact noS e
end
noncomputable def O.cel : O → Option V
 | .cell y => y
 | _ => none
def celV (CL : List (Str × Nat)) (x : Str) (st : Sto) : Option V := (CL.lookup x).bind fun k => st[k]?.bind O.cel
def nameK (G : Pg) (CL : List (Str × Nat)) (ρ : List (Str × V)) (x : Str) (st : Sto) : NameKind → Option V
 | .local => ρ.lookup x
 | .cell => celV CL x st
 | .free => celV CL x st
 | .globalImplicit => G.gl x
 | _ => none
def nameM (G : Pg) (sc : Scope) (CL : List (Str × Nat)) (ρ : List (Str × V)) (x : Str) : M V := fun st =>
 (if x == ("__debug__" : Str) || x == ("__classdict__" : Str) then none else (sc.names.lookup x).bind (nameK G CL ρ x st)).map fun y => (.ok y, st)
noncomputable def constV : Const → Option V
 | .none => some .none
 | .bool b => some (.bool b)
 | .int i => some (.int i)
 | .str x => some (.str x)
 | _ => none
def unV (op : UnaryOp) (y : V) (st : Sto) : Option V := match op with
 | .USub => y.int?.map fun i => .int (-i)
 | .Not => (truthV y st).map fun b => .bool (!b)
 | _ => none
noncomputable def still {α : Type} (f : Sto → Option α) : M α := fun st => (f st).map fun a => (.ok a, st)
section
variable {G : Pg} {c : Act} {k : Nat} {q : Bool} {CL : List (Str × Nat)} {ρ : List (Str × V)} {m : Str → Option Value} {s s' : Shared} {news news' : Led} {al al' : Al} {st st' : Sto} {A : Around} {E : Value → Shared → Prop}
set_option tactic.hygienic true in
theorem env_kind (hc : c.Ok G) : c.env.scope.kind = .function := by
 unfold Act.env
 split
 ·exact hc.hk
 ·rename_i C sc cl h
  show (relabel sc c.fenv).kind = _
  exact hc.hc C sc cl h
theorem env_kindOf {x : Str} {kd : NameKind} (h : c.nsc.names.lookup x = some kd) : c.env.kindOf x = some kd := by
 unfold Act.env Act.nsc at *
 unfold Env.kindOf
 split <;> rename_i e <;> rw [e] at h <;> exact h
theorem env_globals : c.env.globals = mainGlobals ∧ c.env.builtins = builtinsNs := by
 unfold Act.env
 split <;> exact ⟨rfl, rfl⟩
theorem env_cells : c.env.cells = c.ncl := by
 unfold Act.env Act.ncl
 split <;> rfl
theorem St.celV (S : St G c CL ρ m s news al st) {x : Str} {y : V} (e : celV CL x st = some y) : ∃ a v o, c.ncl.lookup x = some a ∧ s.heap.get? a = some o ∧ o.data = .cell (some v) ∧ VR (G.K c.w.params) news al v y :=
 bindE e fun k h1 e => bindE e fun o h2 e => by
  obtain ⟨a, h3, h4⟩ := S.C _ _ h1
  cases o with
  | cell y' =>
   obtain ⟨_, ob, v, g1, g2, g3⟩ := (S.H.obj _ _ _ h4 h2).inv
   obtain ⟨u, g4, g5⟩ := g3 y e
   exact ⟨a, u, ob, h3, S.N.get g1, g4 ▸ g2, g5⟩
  | _ => exact noS e
theorem Sound.name (hG : G.Ok) (hc : c.Ok G) {x : Str} {pos : Pos} : Sound G c k q CL ρ relV (eval (.Name x pos) c.env) (nameM G c.nsc CL ρ x) := by
 intro st r e A s m news al Q E hA S hE hQ
 refine mapE e fun y e e2 => iteE e (fun _ e => noS e) fun hdb e => bindE e fun kd hk e => ?_
 rw [Bool.or_eq_true, not_or, Bool.not_eq_true, Bool.not_eq_true] at hdb
 have H : ∀ v s', s'.heap = s.heap → Same s s' → VR (G.K c.w.params) news al v y → Q v s' := fun v s' e3 G R => hQ y st e2.symm v s' news al (S.at e3) Ext.refl R G
 cases kd with
 | «local» =>
  obtain ⟨v, h1, h2⟩ := S.R x y e
  have hns : ∃ mm, s.heap.Ns c.env.locals mm ∧ mm x = some v := by
   unfold Act.Look at h1
   unfold Act.env
   cases ec : c.comp with
   | none => rw [ec] at h1; exact ⟨m, S.F.ns, h1⟩
   | some p =>
    rw [ec] at h1
    obtain ⟨oC, mm, g1, g2, g3, g4⟩ := h1
    exact ⟨mm, g3.ns (S.N.get g1), g4⟩
  obtain ⟨mm, g1, g2⟩ := hns
  exact wpAny_Name (wpAny_loadName_local (env_kind hc) (env_kindOf hk) g1 g2 (H v s rfl .refl h2)) hdb.1
 | cell =>
  obtain ⟨a, v, o, h1, h2, h3, h4⟩ := S.celV e
  exact wpAny_Name (wpAny_loadName_cell (env_kind hc) (env_kindOf hk) (env_cells ▸ h1) ⟨_, h2, h3⟩ (H v s rfl .refl h4)) hdb.1
 | free =>
  obtain ⟨a, v, o, h1, h2, h3, h4⟩ := S.celV e
  exact wpAny_Name (wpAny_loadName_free (env_kind hc) (env_kindOf hk) (env_cells ▸ h1) ⟨_, h2, h3⟩ (H v s rfl .refl h4) hdb.2) hdb.1
 | globalImplicit =>
  have T := topRead_of hc.T
  have hg := env_globals (c := c)
  rcases hG.gl c.w.params x y e with ⟨v, h1, h2⟩ | ⟨v, h1, h2, h3, h4⟩
  ·exact Name_function_global (env_kind hc) (env_kindOf hk) (loadGlobal_global (by rw [hg.1]; exact T.g.keeps (S.sty hc)) (mg_of hc.X T.g h1) (H v s rfl .refl (h2 _ _))) hdb.1
  ·exact Name_function_global (env_kind hc) (env_kindOf hk) (loadGlobal_builtin (by rw [hg.1]; exact T.g.keeps (S.sty hc)) (mg_none_of hc.X T.g h1) (by rw [hg.2]; exact T.b.keeps (S.sty hc)) ((T.builtins x h3).trans h2) (H v s rfl .refl (h4 _ _))) hdb.1
 | _ => exact noS e
theorem ofOpt_some {α : Type} {o : Option α} {r : Except Addr α × Sto} (e : ofOpt o st = some r) : ∃ y, o = some y ∧ r = (.ok y, st) := by
 cases o with
 | none => exact noS e
 | some y => exact ⟨y, rfl, (sInj e).symm⟩
theorem still_go {α β : Type} {f : Sto → Option α} {g : α → M β} {r : Except Addr β × Sto} {P : Prop} (e : M.bind (still f) g st = some r) (k : ∀ b, f st = some b → g b st = some r → P) : P := by
 unfold M.bind still at e
 cases h : f st with
 | none => rw [h] at e; exact noS e
 | some b => rw [h] at e; exact k b h e
theorem Sound.const {x : Const} {n : Nat} {pos : Pos} : Sound G c k q CL ρ relV (eval (.Constant x n pos) c.env) (ofOpt (constV x)) := by
 intro st r e A s m news al Q E hA S hE hQ
 have H : ∀ v s', s'.heap = s.heap → Same s s' → (∀ y, constV x = some y → VR (G.K c.w.params) news al v y) → Q v s' := fun v s' e3 G R => by
  obtain ⟨y, hy, e⟩ := ofOpt_some e
  exact hQ _ _ e _ _ news al (S.at e3) Ext.refl (R y hy) G
 cases x with
 | none => exact wpAny_Constant_none (H _ s rfl .refl fun y e => sInj e ▸ .none)
 | bool => exact wpAny_Constant_bool (H _ s rfl .refl fun y e => sInj e ▸ .bool)
 | int => exact wpAny_Constant_int (H _ _ rfl ⟨rfl, rfl⟩ fun y e => sInj e ▸ .int)
 | str => exact Calls.Constant_str (H _ _ rfl ⟨rfl, rfl⟩ fun y e => sInj e ▸ .str)
 | _ => exact noS e
theorem ErrK.no {α : Type} {y : α} {st' : Sto} : ErrK c m E s news al (.ok y, st') := fun C st' x => by cases x
theorem Sound.unop (hc : c.Ok G) {x : Expr} {op : UnaryOp} {pos : Pos} {m1 : M V} (h1 : Sound G c k q CL ρ relV (eval x c.env) m1) :
  Sound G c k q CL ρ relV (eval (.UnaryOp op x pos) c.env) (M.bind m1 fun a => still fun st => unV op a st) := by
 intro st r e A s m news al Q E hA S hE hQ
 refine UnaryOp_ (h1.go e hA S hE fun a st1 e1 v1 s1 n1 a1 S1 X1 R1 G1 => mapE e1 fun y e2 e3 => ?_)
 cases op with
 | USub =>
  exact mapE e2 fun i e4 e5 => by
   obtain ⟨t, e6⟩ := R1.vint e4
   exact e6 ▸ PySem.P.neg_int (hQ _ _ e3.symm _ _ n1 a1 (S1.at rfl) X1 (e5 ▸ .int) (G1.trans ⟨rfl, rfl⟩))
 | Not => exact mapE e2 fun b e4 e5 => not_of (truthV_sound hc S1 R1 e4 fun c' s2 n2 a2 S2 X2 R2 G2 =>
   hQ _ _ e3.symm _ _ n2 a2 S2 (X1.trans S.H X2) (e5 ▸ (show c' = b from R2) ▸ .bool) (G1.trans G2))
 | _ => exact noS e2
theorem Sound.cmp (hc : c.Ok G) {l r : Expr} {op : CmpOp} {pos : Pos} {m1 m2 : M V} (hm : behindInMarks op r = false) (h1 : Sound G c k q CL ρ relV (eval l c.env) m1) (h2 : Sound G c k q CL ρ relV (eval r c.env) m2) :
  Sound G c k q CL ρ relV (eval (.Compare l [op] [r] pos) c.env) (M.bind m1 fun a => M.bind m2 fun b => still fun st => (cmpX op a b st).map V.bool) := by
 intro st r e A s m news al Q E hA S hE hQ
 refine wpAny_Compare1 (h1.go e hA S hE fun a st1 e1 v1 s1 n1 a1 S1 X1 R1 G1 => ?_) hm
 refine h2.go e1 hA S1 (hE.step S X1 G1) fun b st2 e2 v2 s2 n2 a2 S2 X2 R2 G2 => ?_
 obtain ⟨y, e3, rfl⟩ := Option.map_eq_some_iff.mp e2
 obtain ⟨z, e4, rfl⟩ := Option.map_eq_some_iff.mp e3
 exact cmpX_sound hc hA S2 (R1.ext S1.H X2) R2 e4 fun s3 e5 G3 => hQ _ _ rfl _ s3 n2 a2 (S2.at e5) (X1.trans S.H X2) .bool (G1.trans (G2.trans G3))
theorem Sound.cmpT (hc : c.Ok G) {l r : Expr} {op : CmpOp} {pos : Pos} {whole : Sem Value} {m1 m2 : M V} (hm : behindInMarks op r = false) (h1 : Sound G c k q CL ρ relV (eval l c.env) m1) (h2 : Sound G c k q CL ρ relV (eval r c.env) m2) :
  Sound G c k q CL ρ relB (isTrue (.Compare l [op] [r] pos) c.env whole) (M.bind m1 fun a => M.bind m2 fun b => still fun st => cmpX op a b st) := by
 intro st r e A s m news al Q E hA S hE hQ
 refine wpAny_isTrue_Compare1 (h1.go e hA S hE fun a st1 e1 v1 s1 n1 a1 S1 X1 R1 G1 => ?_) hm
 refine h2.go e1 hA S1 (hE.step S X1 G1) fun b st2 e2 v2 s2 n2 a2 S2 X2 R2 G2 => ?_
 obtain ⟨z, e4, rfl⟩ := Option.map_eq_some_iff.mp e2
 exact cmpX_sound hc hA S2 (R1.ext S1.H X2) R2 e4 fun s3 e5 G3 => wpAny_truthy_bool (hQ _ _ rfl _ s3 n2 a2 (S2.at e5) (X1.trans S.H X2) rfl (G1.trans (G2.trans G3)))
theorem Sound.plainT (hc : c.Ok G) {e : Expr} {m1 : M V} (he : isTrue e c.env (eval e c.env) = (do let v ← eval e c.env; standAt e.pos; holding [v] (truthy v))) (h1 : Sound G c k q CL ρ relV (eval e c.env) m1) :
  Sound G c k q CL ρ relB (isTrue e c.env (eval e c.env)) (M.bind m1 fun a => still fun st => truthV a st) := by
 intro st r e A s m news al Q E hA S hE hQ
 refine isTrue_plain (h1.go e hA S hE fun a st1 e1 v1 s1 n1 a1 S1 X1 R1 G1 => ?_) he
 obtain ⟨z, e4, rfl⟩ := Option.map_eq_some_iff.mp e1
 exact truthV_sound hc S1 R1 e4 fun b s2 n2 a2 S2 X2 R2 G2 => hQ _ _ rfl b s2 n2 a2 S2 (X1.trans S.H X2) R2 (G1.trans G2)
theorem Sound.notT {x : Expr} {pos : Pos} {whole : Sem Value} {m1 : M Bool} (h1 : Sound G c k q CL ρ relB (isTrue x c.env (eval x c.env)) m1) :
  Sound G c k q CL ρ relB (isTrue (.UnaryOp .Not x pos) c.env whole) (M.bind m1 fun b => M.pure (!b)) := by
 intro st r e A s m news al Q E hA S hE hQ
 refine isTrue_not (h1.go e hA S hE fun a st1 e1 v1 s1 n1 a1 S1 X1 R1 G1 => ?_)
 induction e1 using E1; induction R1 using E8
 exact hQ _ _ rfl _ s1 n1 a1 S1 X1 rfl G1
noncomputable def iteM {α : Type} (b : Bool) (x y : M α) : M α := fun st => match b with
 | true => x st
 | false => y st
theorem Sound.ifT {t a b : Expr} {pos : Pos} {whole : Sem Value} {mt ma mb : M Bool} (ht : Sound G c k q CL ρ relB (isTrue t c.env (eval t c.env)) mt) (ha : Sound G c k q CL ρ relB (isTrue a c.env (eval a c.env)) ma) (hb : Sound G c k q CL ρ relB (isTrue b c.env (eval b c.env)) mb) :
  Sound G c k q CL ρ relB (isTrue (.IfExp t a b pos) c.env whole) (M.bind mt fun x => iteM x ma mb) := by
 intro st r e A s m news al Q E hA S hE hQ
 refine isTrue_IfExp (ht.go e hA S hE fun z st1 e1 v1 s1 n1 a1 S1 X1 R1 G1 => ?_)
 cases R1
 cases z
 ·exact hb st1 r e1 A s1 m n1 a1 Q E hA S1 (hE.step S X1 G1) fun y st' x v s' n' a' S' X' R' G' => hQ y st' x v s' n' a' S' (X1.trans S.H X') R' (G1.trans G')
 ·exact ha st1 r e1 A s1 m n1 a1 Q E hA S1 (hE.step S X1 G1) fun y st' x v s' n' a' S' X' R' G' => hQ y st' x v s' n' a' S' (X1.trans S.H X') R' (G1.trans G')
theorem Sound.ifE {t a b : Expr} {pos : Pos} {mt : M Bool} {ma mb : M V} (ht : Sound G c k q CL ρ relB (isTrue t c.env (eval t c.env)) mt) (ha : Sound G c k q CL ρ relV (eval a c.env) ma) (hb : Sound G c k q CL ρ relV (eval b c.env) mb) :
  Sound G c k q CL ρ relV (eval (.IfExp t a b pos) c.env) (M.bind mt fun x => iteM x ma mb) := by
 intro st r e A s m news al Q E hA S hE hQ
 refine IfExp_ (ht.go e hA S hE fun z st1 e1 v1 s1 n1 a1 S1 X1 R1 G1 => ?_)
 cases R1
 cases z
 ·exact hb st1 r e1 A s1 m n1 a1 Q E hA S1 (hE.step S X1 G1) fun y st' x v s' n' a' S' X' R' G' => hQ y st' x v s' n' a' S' (X1.trans S.H X') R' (G1.trans G')
 ·exact ha st1 r e1 A s1 m n1 a1 Q E hA S1 (hE.step S X1 G1) fun y st' x v s' n' a' S' X' R' G' => hQ y st' x v s' n' a' S' (X1.trans S.H X') R' (G1.trans G')
noncomputable def allT (f : Expr → M Bool) : List Expr → M Bool
 | [] => M.pure true
 | x :: r => M.bind (f x) fun b => iteM b (allT f r) (M.pure false)
noncomputable def anyT (f : Expr → M Bool) : List Expr → M Bool
 | [] => M.pure false
 | x :: r => M.bind (f x) fun b => iteM b (M.pure true) (anyT f r)
theorem Sound.andT {f : Expr → M Bool} {pos : Pos} {whole : Sem Value} : ∀ {xs : List Expr}, (∀ x ∈ xs, Sound G c k q CL ρ relB (isTrue x c.env (eval x c.env)) (f x)) → Sound G c k q CL ρ relB (isTrue (.BoolOp .And xs pos) c.env whole) (allT f xs)
 | [], _ => by
  intro st r e A s m news al Q E hA S hE hQ
  cases e
  exact isTrue_and_nil (hQ _ _ rfl _ s news al S Ext.refl rfl .refl)
 | x :: xs, h => by
  intro st r e A s m news al Q E hA S hE hQ
  refine isTrue_and ((h x (.head _)).go e hA S hE fun z st1 e1 v1 s1 n1 a1 S1 X1 R1 G1 => ?_)
  cases R1
  cases z
  ·cases e1; exact hQ _ _ rfl _ s1 n1 a1 S1 X1 rfl G1
  ·exact Sound.andT (fun y hy => h y (.tail _ hy)) st1 r e1 A s1 m n1 a1 Q E hA S1 (hE.step S X1 G1) fun y st' x v s' n' a' S' X' R' G' => hQ y st' x v s' n' a' S' (X1.trans S.H X') R' (G1.trans G')
theorem Sound.orT {f : Expr → M Bool} {pos : Pos} {whole : Sem Value} : ∀ {xs : List Expr}, (∀ x ∈ xs, Sound G c k q CL ρ relB (isTrue x c.env (eval x c.env)) (f x)) → Sound G c k q CL ρ relB (isTrue (.BoolOp .Or xs pos) c.env whole) (anyT f xs)
 | [], _ => by
  intro st r e A s m news al Q E hA S hE hQ
  cases e
  exact isTrue_or_nil (hQ _ _ rfl _ s news al S Ext.refl rfl .refl)
 | x :: xs, h => by
  intro st r e A s m news al Q E hA S hE hQ
  refine isTrue_or ((h x (.head _)).go e hA S hE fun z st1 e1 v1 s1 n1 a1 S1 X1 R1 G1 => ?_)
  cases R1
  cases z
  ·exact Sound.orT (fun y hy => h y (.tail _ hy)) st1 r e1 A s1 m n1 a1 Q E hA S1 (hE.step S X1 G1) fun y st' x v s' n' a' S' X' R' G' => hQ y st' x v s' n' a' S' (X1.trans S.H X') R' (G1.trans G')
  ·cases e1; exact hQ _ _ rfl _ s1 n1 a1 S1 X1 rfl G1
noncomputable def andV (f : Expr → M V) : Expr → List Expr → M V
 | x, [] => f x
 | x, y :: r => M.bind (f x) fun a => M.bind (still fun st => truthV a st) fun b => iteM b (andV f y r) (M.pure a)
theorem Sound.andE (hc : c.Ok G) {f : Expr → M V} {pos : Pos} : ∀ {xs : List Expr} {x : Expr}, (∀ y ∈ x :: xs, Sound G c k q CL ρ relV (eval y c.env) (f y)) → Sound G c k q CL ρ relV (eval (.BoolOp .And (x :: xs) pos) c.env) (andV f x xs)
 | [], x, h => fun st r e A s m news al Q E hA S hE hQ => BoolOp_one (h x (.head _) st r e A s m news al Q E hA S hE hQ)
 | y :: xs, x, h => by
  intro st r e A s m news al Q E hA S hE hQ
  refine BoolOp_and ((h x (.head _)).go e hA S hE fun z st1 e1 v1 s1 n1 a1 S1 X1 R1 G1 => ?_)
  refine still_go e1 fun b e2 e1 => ?_
  ·refine truthV_sound hc S1 R1 e2 fun b' s2 n2 a2 S2 X2 R2 G2 => ?_
   cases R2
   cases b
   ·cases e1; exact hQ _ _ rfl _ s2 n2 a2 S2 (X1.trans S.H X2) (R1.ext S1.H X2) (G1.trans G2)
   ·exact Sound.andE hc (fun y hy => h y (.tail _ hy)) st1 r e1 A s2 m n2 a2 Q E hA S2 ((hE.step S X1 G1).step S1 X2 G2) fun y st' x v s' n' a' S' X' R' G' => hQ y st' x v s' n' a' S' (X1.trans S.H (X2.trans S1.H X')) R' (G1.trans (G2.trans G'))
end
noncomputable def noStar : Expr → Bool
 | .Starred _ _ => false
 | _ => true
noncomputable def okBase : Expr → Bool
 | .Name _ _ | .Attribute _ _ _ | .Subscript _ _ _ | .Call (.Attribute _ _ _) _ _ _ => true
 | _ => false
noncomputable def evList (f : Expr → M V) : List Expr → M (List V)
 | [] => M.pure []
 | e :: r => M.bind (f e) fun a => M.bind (evList f r) fun l => M.pure (a :: l)
noncomputable def callO : O → Bool
 | .lam _ _ _ _ _ => true
 | _ => false
def callable (G : Pg) (f : V) (st : Sto) : Bool := match f with
 | .bi _ => true
 | .ty _ => true
 | .glob a => G.keep a
 | .hnd k => ((st[k]?).map callO).getD false
 | _ => false
section
variable {G : Pg} {c : Act} {k : Nat} {q : Bool} {CL : List (Str × Nat)} {ρ : List (Str × V)} {m : Str → Option Value} {s s' : Shared} {news news' : Led} {al al' : Al} {st st' : Sto} {A : Around} {E : Value → Shared → Prop} {pos : Pos}
theorem star_no {e : Expr} {rest : List Expr} {env : Env} (h : noStar e = true) : starEach (e :: rest) env = (false, eval e env) :: starEach rest env := by
 cases e <;> first | rfl | cases h
theorem star_all {env : Env} : ∀ {es : List Expr}, es.all noStar = true → (backTo pos (starEach es env)).any (·.1) = false
 | [], _ => rfl
 | e :: r, h => by
  rw [List.all_cons, Bool.and_eq_true] at h
  rw [star_no h.1]
  show (false || (backTo pos (starEach r env)).any (·.1)) = false
  rw [star_all h.2]; rfl
theorem Sound.args {f : Expr → M V} : ∀ {es : List Expr}, es.all noStar = true → (∀ e ∈ es, Sound G c k q CL ρ relV (eval e c.env) (f e)) → Sound G c k q CL ρ relVs (spliced (backTo pos (starEach es c.env))) (evList f es)
 | [], _, _ => by
  intro st r e A s m news al Q E hA S hE hQ
  induction e using E1
  exact args_nil (hQ _ _ rfl _ s news al S Ext.refl .nil .refl)
 | x :: es, hn, h => by
  rw [List.all_cons, Bool.and_eq_true] at hn
  intro st r e A s m news al Q E hA S hE hQ
  refine args_cons ((h x (.head _)).go e hA S hE fun a st1 e1 v1 s1 n1 a1 S1 X1 R1 G1 => ?_) (star_no hn.1)
  refine (Sound.args hn.2 fun y hy => h y (.tail _ hy)).go e1 hA S1 (hE.step S X1 G1) fun l st2 e2 vs s2 n2 a2 S2 X2 R2 G2 => ?_
  induction e2 using E1
  exact hQ _ _ rfl _ s2 n2 a2 S2 (X1.trans S.H X2) (.cons (R1.ext S1.H X2) R2) (G1.trans G2)
theorem Sound.tup {f : Expr → M V} {es : List Expr} {n : Nat} (hn : es.all noStar = true) (h : ∀ e ∈ es, Sound G c k q CL ρ relV (eval e c.env) (f e)) :
  Sound G c k q CL ρ relV (eval (.Tuple es n pos) c.env) (M.bind (evList f es) fun l => still fun _ => if l.length ≤ sizeLine then some (.tup l) else none) := by
 intro st r e A s m news al Q E hA S hE hQ
 refine PyProof.Rows.Tuple_ ((Sound.args hn h).go e hA S hE fun l st1 e1 vs s1 n1 a1 S1 X1 R1 G1 => ?_)
 obtain ⟨y, e2, rfl⟩ := Option.map_eq_some_iff.mp e1
 refine iteS e2 fun _ e2 => ?_
 ·induction e2 using E1
  rename_i hl
  exact S1.newTup R1 hl fun v s2 n2 a2 S2 X2 R2 G2 => hQ _ _ rfl v s2 n2 a2 S2 (X1.trans S.H X2) R2 (G1.trans G2)
noncomputable def newO (o : O) : M V := fun st => some (.ok (.hnd st.length), st ++ [o])
theorem Sound.lst {f : Expr → M V} {es : List Expr} (hn : es.all noStar = true) (h : ∀ e ∈ es, Sound G c k q CL ρ relV (eval e c.env) (f e)) :
  Sound G c k q CL ρ relV (eval (.List es pos) c.env) (M.bind (evList f es) fun l st => if l.length ≤ sizeLine then newO (.list l) st else none) := by
 intro st r e A s m news al Q E hA S hE hQ
 refine PyProof.Rows.List_ ((Sound.args hn h).go e hA S hE fun l st1 e1 vs s1 n1 a1 S1 X1 R1 G1 => ?_)
 refine iteS e1 fun _ e1 => ?_
 ·induction e1 using E1
  rename_i hl
  exact S1.newList R1 hl fun v s2 n2 a2 S2 X2 R2 G2 => hQ _ _ rfl v s2 n2 a2 S2 (X1.trans S.H X2) R2 (G1.trans G2)
def ne0V (a : V) (st : Sto) : Option Bool := (datV a st).bind fun d => if SeqAt.shaped d && SeqAt.shaped (.list []) then some (!PyData.eqv d (.list [])) else none
theorem Sound.ne0T (hc : c.Ok G) {l : Expr} {p' : Pos} {whole : Sem Value} {m1 : M V} (hm : behindInMarks .NotEq (.List [] p') = false) (h1 : Sound G c k q CL ρ relV (eval l c.env) m1) :
  Sound G c k q CL ρ relB (isTrue (.Compare l [.NotEq] [.List [] p'] pos) c.env whole) (M.bind m1 fun a => still fun st => ne0V a st) := by
 intro st r e A s m news al Q E hA S hE hQ
 refine wpAny_isTrue_Compare1 (h1.go e hA S hE fun a st1 e1 v1 s1 n1 a1 S1 X1 R1 G1 => ?_) hm
 obtain ⟨z, e4, e5⟩ := Option.map_eq_some_iff.mp e1
 refine PyProof.Rows.List_ (args_nil ?_)
 refine S1.tmpList (l := []) .nil (Nat.zero_le _) fun x s3 n3 S3 X3 hl _ G3 => ?_
 have hu : A.units + 64 < cLine := by have := hA.un; lia
 refine bindE e4 fun d hd e4 => iteS e4 fun hs e4 => ?_
 rw [Bool.and_eq_true] at hs
 obtain ⟨as, r1⟩ := datV_reads hc S3 (R1.ext S1.H X3) hd
 obtain ⟨o, ho1, ho2, n, ho3⟩ := hl
 exact PyProof.Rows.ne_dataH r1 (.list (vs := #[]) ho1 ho2 ho3 .nil) hs.1 hs.2 hu (wpAny_truthy_bool (hQ z _ e5.symm _ s3 n3 _ S3 (X1.trans S.H X3) (sInj e4) (G1.trans G3)))
def binL (op : Operator) (a b : V) (st : Sto) : Option (List V) := a.hnd?.bind fun i => b.hnd?.bind fun j => (lstAt st i).bind fun l => (lstAt st j).bind fun l' => if isAdd op = true ∧ l.length + l'.length ≤ sizeLine then some (l ++ l') else none
def binM (op : Operator) (a b : V) : M V := fun st => match binL op a b st with
 | some l => newO (.list l) st
 | none => ofOpt (binV op a b) st
theorem Sound.binop2 (hc : c.Ok G) {l r : Expr} {op : Operator} {m1 m2 : M V} (h1 : Sound G c k q CL ρ relV (eval l c.env) m1) (h2 : Sound G c k q CL ρ relV (eval r c.env) m2) :
  Sound G c k q CL ρ relV (eval (.BinOp l op r pos) c.env) (M.bind m1 fun a => M.bind m2 fun b => binM op a b) := by
 intro st r e A s m news al Q E hA S hE hQ
 refine wpAny_BinOp (h1.go e hA S hE fun a st1 e1 v1 s1 n1 a1 S1 X1 R1 G1 => ?_)
 refine h2.go e1 hA S1 (hE.step S X1 G1) fun b st2 e2 v2 s2 n2 a2 S2 X2 R2 G2 => ?_
 have R1' := R1.ext S1.H X2
 unfold binM at e2
 cases e3 : binL op a b st2 with
 | some ll =>
  rw [e3] at e2
  refine bindE e3 fun i g1 e3 => bindE e3 fun j g2 e3 => bindE e3 fun l g3 e3 => bindE e3 fun l' g4 e3 => iteS e3 fun hl e3 => ?_
  obtain ⟨x, ex, R3⟩ := R1'.vhnd g1
  obtain ⟨y, ey, R4⟩ := R2.vhnd g2
  rw [ex, ey, isAdd_of hl.1]
  obtain ⟨vs, n, _, hm, l1, r1⟩ := S2.list R3 (lstAt_of g3)
  obtain ⟨ws, n', _, hm', l2, r2⟩ := S2.list R4 (lstAt_of g4)
  refine add_lists S2.F S2.N l1 l2 (fun h' F N => ?_) (by rw [r1.length, r2.length]; exact hl.2)
  obtain ⟨S3, X3, r3⟩ := S2.newOwn (tk := s2.toks) S2.fresh F N (.list (.head _) ((r1.append r2).ext S2.H (Ext.owned S2.fresh)))
  exact hQ _ _ (sInj e3 ▸ (sInj e2).symm) _ _ _ _ S3 (X1.trans S.H (X2.trans S1.H X3)) r3 (G1.trans (G2.trans ⟨rfl, rfl⟩))
 | none =>
  rw [e3] at e2
  obtain ⟨y, hy, e4⟩ := ofOpt_some e2
  exact binV_sound hc S2 R1' R2 hy fun v s3 n3 a3 S3 X3 R3 G3 => hQ y st2 e4 v s3 n3 a3 S3 (X1.trans S.H (X2.trans S1.H X3)) R3 (G1.trans (G2.trans G3))
def fldO (G : Pg) (x : Str) : O → Option V
 | .inst C fs => if (G.flds C).contains x then (fs.lookup x).bind fun z => if notBi z then some z else none else none
 | _ => none
def attrM (G : Pg) (x : Str) (y : V) (st : Sto) : Option V := y.hnd?.bind fun k => st[k]?.bind (fldO G x)
theorem fldO_some {x : Str} {o : O} {z : V} {P : Prop} (e : fldO G x o = some z) (k : ∀ C fs, o = .inst C fs → x ∈ G.flds C → fs.lookup x = some z → notBi z = true → P) : P := by
 cases o with
 | inst C fs => exact iteS e fun hx e => bindE e fun z' hz e => iteS e fun hn e => k C fs rfl (List.contains_iff_mem.mp hx) (sInj e ▸ hz) (sInj e ▸ hn)
 | _ => exact noS e
theorem attrM_some {x : Str} {y z : V} {P : Prop} (e : attrM G x y st = some z) (k : ∀ k C fs, y = .hnd k → st[k]? = some (.inst C fs) → x ∈ G.flds C → fs.lookup x = some z → notBi z = true → P) : P :=
 bindE e fun kk h1 e => bindE e fun o h2 e => fldO_some e fun C fs h3 h4 h5 h6 => k kk C fs (V.hnd_of h1) (h3 ▸ h2) h4 h5 h6
theorem base_ok {o : Expr} {x : Str} {env : Env} {whole : Sem Value} (h : okBase o = true) : attributeBase o x env whole = whole := by
 cases o with
 | Call f _ _ _ => cases f <;> first | rfl | exact noB h
 | _ => first | rfl | exact noB h
theorem Sound.attr (hG : G.Ok) (hc : c.Ok G) {o : Expr} {x : Str} {m1 : M V} (hb : okBase o = true) (h1 : Sound G c k q CL ρ relV (eval o c.env) m1) :
  Sound G c k q CL ρ relV (eval (.Attribute o x pos) c.env) (M.bind m1 fun a => still fun st => attrM G x a st) := by
 intro st r e A s m news al Q E hA S hE hQ
 refine Attribute_any_ (h1.go e hA S hE fun a st1 e1 v1 s1 n1 a1 S1 X1 R1 G1 => ?_) ?_
 ·obtain ⟨z, e2, e3⟩ := Option.map_eq_some_iff.mp e1
  exact attrM_some e2 fun kk C fs h1 h2 h3 h4 h5 => S1.getAttr hc (h1 ▸ R1) h2 (clsOk_of (hG.cls _ _ _ h3) h3) h4 h5 fun v s2 n2 a2 S2 X2 R2 G2 => hQ _ _ e3.symm v s2 n2 a2 S2 (X1.trans S.H X2) R2 (G1.trans G2)
 ·show (do
   let o' ← attributeBase o x c.env (eval o c.env)
   standAt pos.atName
   let r ← holding [o'] (getAttr o' x true)
   letTemporaryGo o o' r
   pure r) = _
  rw [base_ok hb]
theorem Sound.sub (hc : c.Ok G) {o i : Expr} {m1 m2 : M V} (hp : plainIdx i = true) (h1 : Sound G c k q CL ρ relV (eval o c.env) m1) (h2 : Sound G c k q CL ρ relV (eval i c.env) m2) :
  Sound G c k q CL ρ relV (eval (.Subscript o i pos) c.env) (M.bind m1 fun a => M.bind m2 fun b => still fun st => getItV a b st) := by
 intro st r e A s m news al Q E hA S hE hQ
 refine Subscript_ (h1.go e hA S hE fun a st1 e1 v1 s1 n1 a1 S1 X1 R1 G1 => ?_)
 refine h2.go e1 hA S1 (hE.step S X1 G1) fun b st2 e2 v2 s2 n2 a2 S2 X2 R2 G2 => ?_
 obtain ⟨z, e3, rfl⟩ := Option.map_eq_some_iff.mp e2
 exact getItV_sound hc S2 (R1.ext S1.H X2) R2 e3 hp fun v s3 n3 a3 S3 X3 R3 G3 => hQ _ _ rfl v s3 n3 a3 S3 (X1.trans S.H (X2.trans S1.H X3)) R3 (G1.trans (G2.trans G3))
def CallOk (G : Pg) (k : Nat) (cf : Bool → V → List V → M V) : Prop :=
 ∀ (c : Act), c.Ok G → ∀ (q : Bool) (CL : List (Str × Nat)) (ρ : List (Str × V)) (f : V) (args : List V) (v : Value) (vs : List Value) (st : Sto) (r : Except Addr V × Sto) (A : Around) (s : Shared) (m : Str → Option Value) (news : Led) (al : Al) (Q : Value → Shared → Prop) (E : Value → Shared → Prop),
  Ar c k q A → St G c CL ρ m s news al st → VR (G.K c.w.params) news al v f → VRs (G.K c.w.params) news al vs args → cf q f args st = some r → ErrK c m E s news al r →
  (∀ y st', r = (.ok y, st') → Cont G c CL ρ m s news al relV y st' Q) → wpAny (model G.prog c.w) A (call v vs) Q E s
theorem keeper_at (hG : G.Ok) (hc : c.Ok G) (S : St G c CL ρ m s news al st) {v : Value} {f : V} (h : VR (G.K c.w.params) news al v f) (e : callable G f st = true) :
  ∃ kk, (kk = Keeper.frame ∨ kk = Keeper.machine ∨ kk = Keeper.boundFrame) ∧ Looks (model G.prog c.w) s.heap (keeperOf v) kk := by
 cases f with
 | bi _ => exact (show v = _ from h.inv) ▸ ⟨.machine, .inr (.inl rfl), .now⟩
 | ty _ => exact (show v = _ from h.inv) ▸ ⟨.machine, .inr (.inl rfl), .now⟩
 | glob _ => exact (show v = _ from h.inv) ▸ keeps_K (hG.keep _ _ e) _ (hc.X.keeps (S.sty hc))
 | hnd k =>
  obtain ⟨o, hk, e⟩ := mapD e
  obtain ⟨a, e0, p, h⟩ := h.inv
  cases o with
  | lam ps b sc qq cl =>
   obtain ⟨_, _, _, _, _, _, _, _, _, hm, _⟩ := (S.H.obj _ _ _ h hk).inv
   exact e0 ▸ ⟨.frame, .inl rfl, (Looks.ld (part := none) (S.N.get hm)).andThen .now⟩
  | _ => exact noB e
 | _ => exact noB e
def callM (G : Pg) (cf : V → List V → M V) (f : V) (first : List V) (as : M (List V)) : M V :=
 M.bind as fun l st => if callable G f st then cf f (first ++ l) st else none
theorem callWith_sound (hG : G.Ok) (hc : c.Ok G) {cf : Bool → V → List V → M V} (hcf : CallOk G k cf) {g : Expr → M V} {es : List Expr} (hn : es.all noStar = true) (hs : ∀ e ∈ es, Sound G c k q CL ρ relV (eval e c.env) (g e))
  {v : Value} {f : V} {first : List Value} {fl : List V} {r : Except Addr V × Sto} {Q : Value → Shared → Prop} (hA : Ar c k q A) (S : St G c CL ρ m s news al st) (h : VR (G.K c.w.params) news al v f) (h0 : VRs (G.K c.w.params) news al first fl)
  (e : callM G (cf q) f fl (evList g es) st = some r) (hE : ErrK c m E s news al r) (hQ : ∀ y st', r = (.ok y, st') → Cont G c CL ρ m s news al relV y st' Q) :
  wpAny (model G.prog c.w) A (callWith pos v first (backTo pos (starEach es c.env)) []) Q E s := by
 have fin : wpAny (model G.prog c.w) A (spliced (backTo pos (starEach es c.env))) (fun vs s₁ => (∃ kk, (kk = Keeper.frame ∨ kk = Keeper.machine ∨ kk = Keeper.boundFrame) ∧ Looks (model G.prog c.w) s₁.heap (keeperOf v) kk) ∧ wpAny (model G.prog c.w) A (call v (first ++ vs)) Q E s₁) E s := by
  refine (Sound.args hn hs).go e hA S hE fun l st1 e1 vs s1 n1 a1 S1 X1 R1 G1 => ?_
  refine iteS e1 fun _ e1 => ?_
  ·rename_i hcl
   have hv := h.ext S.H X1
   exact ⟨keeper_at hG hc S1 hv hcl, hcf c hc q CL ρ f _ v _ st1 r A s1 m n1 a1 Q E hA S1 hv ((h0.ext S.H X1).append R1) e1 (hE.step S X1 G1) fun y st' x v s2 n2 a2 S2 X2 R2 G2 => hQ y st' x v s2 n2 a2 S2 (X1.trans S.H X2) R2 (G1.trans G2)⟩
 cases es with
 | nil =>
  refine callWith_of (P := fun h => ∃ kk, (kk = Keeper.frame ∨ kk = Keeper.machine ∨ kk = Keeper.boundFrame) ∧ Looks (model G.prog c.w) h (keeperOf v) kk) rfl (fun h X => X) ?_
  refine PyProof.Rows.evalArgs_none ?_
  have e1 : (if callable G f st then cf q f (fl ++ []) st else none) = some r := e
  exact iteS e1 fun hcl e1 => ⟨keeper_at hG hc S h hcl, hcf c hc q CL ρ f _ v _ st r A s m news al Q E hA S h (h0.append .nil) e1 hE hQ⟩
 | cons x es =>
  rw [List.all_cons, Bool.and_eq_true] at hn
  have e0 := star_no (rest := es) (env := c.env) hn.1
  rw [e0] at fin ⊢
  exact callWith_of (P := fun h => ∃ kk, (kk = Keeper.frame ∨ kk = Keeper.machine ∨ kk = Keeper.boundFrame) ∧ Looks (model G.prog c.w) h (keeperOf v) kk)
   (by show ((false || (backTo pos (starEach es c.env)).any (·.1)) || false) = false; rw [star_all hn.2]; rfl) (fun h X => X) (evalArgs_plain fin)
end
section
open PySem.AutoSeq1 (wpAny_loadPart')
theorem extend_tup (l b : Addr) (items items2 : Array Value) (n n2 : Nat) (dd : Option Addr) (sl : Array (Option Value)) (hs0 : ¬(!items.isEmpty && Builtin.List.listTooLong (items.size + items2.size)) = true) (hs1 : items.size ≤ sizeLine) (hs2 : items.size + items2.size ≤ sizeLine + 1) :
  Meets (Builtin.«list.extend» ⟨[.ref l, .ref b], []⟩) (fun _ R s => s.heap.get? l = some (listOf items n) ∧ s.heap.get? b = some { cls := .type "tuple", dict := dd, data := .seq items2 n2, slots := sl } ∧ R (.ok (.ret Value.none)) { s with heap := s.heap.update l (Obj.mapSeq fun x => x ++ items2), toks := s.toks }) :=
 .of_wp fun prog w A R s h => by
  obtain ⟨hp, g, d, tk, os⟩ := s; obtain ⟨hl, hb, h⟩ := h; have f1 := AutoSeq1.idx_int; have f2 := AutoSeq1.sub_tuple_tuple; have f3 := AutoSeq1.sub_list_list; have f4 := AutoSeq1.sub_tuple_list; have f5 := AutoSeq1.sub_list_tuple
  have hz' : (items ++ items2).size ≤ sizeLine + 1 := by rw [Array.size_append]; exact hs2
  wp_walk using (wpAny_updateSeq hl rfl (hz := hs1) (_hz' := hz')), wpAny_loadPart' hl, wpAny_loadPart' hb; exact ⟨_, rfl, h⟩
end
section
variable {G : Pg} {c : Act} {k : Nat} {q : Bool} {CL : List (Str × Nat)} {ρ : List (Str × V)} {m : Str → Option Value} {s s' : Shared} {news news' : Led} {al al' : Al} {st st' : Sto} {A : Around} {E : Value → Shared → Prop} {pos : Pos}
theorem St.extend (hc : c.Ok G) (S : St G c CL ρ m s news al st) {v u : Value} {k : Nat} {l l' : List V} {Q : Value → Shared → Prop} (h : VR (G.K c.w.params) news al v (.hnd k)) (e : st[k]? = some (.list l)) (hz : l.length + l'.length ≤ sizeLine) (hu : VR (G.K c.w.params) news al u (.tup l'))
  (hQ : Cont G c CL ρ m s news al relV .none (st.set k (.list (l ++ l'))) Q) : wpAny (model G.prog c.w) A (call (.builtin "list.extend") [v, u]) Q E s := by
 obtain ⟨a, rfl, _⟩ := h.inv
 obtain ⟨b, rfl, hu⟩ := hu.vtup (i := l') rfl
 obtain ⟨vs, n, hal, hm, hl, r1⟩ := S.list h e
 obtain ⟨us, ⟨ob, hb, hcls, n2, hdat⟩, r2⟩ := S.tup hc hu
 have hdf : a ∈ flat al := mem_flat.mpr ⟨_, _, hal, .inl rfl⟩
 have z := S.N _ hm
 have hsz : vs.toArray.size + us.toArray.size ≤ sizeLine := by rw [List.size_toArray, List.size_toArray, r1.length, r2.length]; exact hz
 have hb' : s.heap.get? b = some { cls := .type "tuple", dict := ob.dict, data := .seq us.toArray n2, slots := ob.slots } := by rw [hb, ← hcls, ← hdat]
 refine call_meets PySem.F.slot_list_extend ⟨_, z.1, rfl⟩ PySem.F.entry_list_extend (PySem.F.args_list_extend_2 _ _) (extend_tup a b vs.toArray us.toArray n n2 ob.dict ob.slots (extend_door hsz) (Nat.le_trans (Nat.le_add_right _ _) hsz) (Nat.le_succ_of_le hsz)) ⟨z.1, hb', ?_⟩
 have ho' : (s.heap.update a (Obj.mapSeq fun x => x ++ us.toArray)).get? a = some (listOf (vs ++ us).toArray (if (vs.toArray ++ us.toArray).size == vs.toArray.size then n else n + 1)) := by
  rw [Heap.get?_update_self _ z.1 (by rw [mapSeq_app]; rfl), mapSeq_app, List.append_toArray]
 obtain ⟨pre, post, e1, e2, p1, p2⟩ := (putLed_upd (o' := listOf (vs ++ us).toArray (if (vs.toArray ++ us.toArray).size == vs.toArray.size then n else n + 1)) S.H.nd hm).split
 have hs : Heap.SameBut a s.heap (s.heap.update a (Obj.mapSeq fun x => x ++ us.toArray)) := Heap.SameBut.update ..
 have N' := fun p hp => news_set (fun p hp => S.N p (e1 ▸ hp)) p1 p2 hs ho' p (e2 ▸ hp)
 have X := Ext.put (o := listOf (vs ++ us).toArray (if (vs.toArray ++ us.toArray).size == vs.toArray.size then n else n + 1)) (news := news) hdf
 exact hQ _ _ _ _ (S.ext X (S.F.change hs z.2.1 z.2.2) N' (S.H.put hal (.inl rfl) (.list (mem_putLed_at hm) ((r1.append r2).ext S.H X)))) X .none ⟨rfl, rfl⟩
end
def appP (args : List V) (st : Sto) : Option (V × Sto) := (arg2 args).bind fun p => p.1.hnd?.bind fun k => (lstAt st k).bind fun l => if l.length ≤ sizeLine then some (.none, st.set k (.list (l ++ [p.2]))) else none
def popP (args : List V) (st : Sto) : Option (V × Sto) := (arg1 args).bind fun y => y.hnd?.bind fun k => (lstAt st k).bind fun l => if l.length ≤ sizeLine then l.getLast?.map fun y => (y, st.set k (.list l.dropLast)) else none
def extP (args : List V) (st : Sto) : Option (V × Sto) := (arg2 args).bind fun p => p.1.hnd?.bind fun k => (lstAt st k).bind fun l => p.2.tup?.bind fun l' => if l.length + l'.length ≤ sizeLine then some (.none, st.set k (.list (l ++ l'))) else none
def callD (q : Bool) (f : V) (args : List V) (st : Sto) : Option (V × Sto) := match f with
 | .bi id => if id = "list.append" then appP args st
  else if id = "list.pop" then popP args st
  else if id = "dict.get" then (arg3 args).bind fun p => (getDV p.1 p.2.1 p.2.2 st).map fun z => (z, st)
  else if id = "list.extend" then extP args st
  else callB q f args st
 | .ty id => callB q f args st
 | _ => none
def callC (q : Bool) (f : V) (args : List V) : M V := fun st => (callD q f args st).map fun p => (.ok p.1, p.2)
def methI (G : Pg) (x : Str) (y : V) (C : Addr) (fs : List (Str × V)) : Option (V × List V) := match fs.lookup x with
 | some z => if (G.flds C).contains x && notBi z then some (z, []) else none
 | none => (G.meth C x).map fun f => (.glob f, [y])
def methO (G : Pg) (x : Str) (y : V) : O → Option (V × List V)
 | .list _ => if x = ("append" : Str) then some (.bi "list.append", [y]) else if x = ("pop" : Str) then some (.bi "list.pop", [y]) else if x = ("extend" : Str) then some (.bi "list.extend", [y]) else none
 | .sdict _ => if x = ("get" : Str) then some (.bi "dict.get", [y]) else none
 | .inst C fs => methI G x y C fs
 | _ => none
def methM (G : Pg) (x : Str) (y : V) (st : Sto) : Option (V × List V) := y.hnd?.bind fun k => st[k]?.bind (methO G x y)
section
variable {G : Pg} {c : Act} {k : Nat} {q : Bool} {CL : List (Str × Nat)} {ρ : List (Str × V)} {m : Str → Option Value} {s s' : Shared} {news news' : Led} {al al' : Al} {st st' : Sto} {A : Around} {E : Value → Shared → Prop} {pos : Pos}
theorem callD_sound (hc : c.Ok G) (hA : Ar c k q A) (S : St G c CL ρ m s news al st) {v : Value} {vs : List Value} {f : V} {p : V × Sto} {args : List V} {Q : Value → Shared → Prop} (h : VR (G.K c.w.params) news al v f) (hs : VRs (G.K c.w.params) news al vs args) (e : callD q f args st = some p)
  (hQ : Cont G c CL ρ m s news al relV p.1 p.2 Q) : wpAny (model G.prog c.w) A (call v vs) Q E s := by
 have C : ∀ {z st'}, (z, st') = p → Cont G c CL ρ m s news al relV z st' Q := fun e => by rw [← e] at hQ; exact hQ
 cases f with
 | bi id =>
  have e0 : v = .builtin id := h.inv
  refine iteE e (fun hid e => bindE e fun u e1 e => bindE e fun k e2 e => bindE e fun l e3 e => iteS e fun hl e => ?_) fun _ e => iteE e (fun hid e => bindE e fun u e1 e => bindE e fun k e2 e => bindE e fun l e3 e => iteS e fun hl e => mapE e fun y hy e => ?_) fun _ e => iteE e (fun hid e => bindE e fun u e1 e => mapE e fun z e2 e => ?_) fun _ e => iteE e (fun hid e => bindE e fun u e1 e => bindE e fun k e2 e => bindE e fun l e3 e => bindE e fun l' e5 e => iteS e fun hl e => ?_) fun _ e => callB_sound hc hA S h hs e hQ
  ·obtain ⟨v1, v2, e4, h1, h2⟩ := hs.a2 e1
   exact e0 ▸ hid ▸ e4 ▸ S.append (V.hnd_of e2 ▸ h1) (lstAt_of e3) hl h2 (C (sInj e))
  ·obtain ⟨v1, e4, h1⟩ := hs.a1 e1
   exact e0 ▸ hid ▸ e4 ▸ S.pop (V.hnd_of e2 ▸ h1) (lstAt_of e3) hl hy (C e)
  ·obtain ⟨v1, v2, v3, e4, h1, h2, h3⟩ := hs.a3 e1
   exact e0 ▸ hid ▸ e4 ▸ getDV_sound S h1 h2 h3 e2 (C e)
  ·obtain ⟨v1, v2, e4, h1, h2⟩ := hs.a2 e1
   exact e0 ▸ hid ▸ e4 ▸ S.extend hc (V.hnd_of e2 ▸ h1) (lstAt_of e3) hl (V.tup_of e5 ▸ h2) (C (sInj e))
 | ty id =>
  have e0 : v = .type id := h.inv
  exact callB_sound hc hA S h hs e hQ
 | _ => exact noS e
theorem callC_sound (hc : c.Ok G) (hA : Ar c k q A) (S : St G c CL ρ m s news al st) {v : Value} {vs : List Value} {f : V} {r : Except Addr V × Sto} {args : List V} {Q : Value → Shared → Prop} (h : VR (G.K c.w.params) news al v f) (hs : VRs (G.K c.w.params) news al vs args) (e : callC q f args st = some r)
  (hQ : ∀ y st', r = (.ok y, st') → Cont G c CL ρ m s news al relV y st' Q) : wpAny (model G.prog c.w) A (call v vs) Q E s :=
 mapE e fun p e1 e2 => callD_sound hc hA S h hs e1 (hQ _ _ e2.symm)
theorem methM_sound (hG : G.Ok) (hc : c.Ok G) (S : St G c CL ρ m s news al st) {v : Value} {y : V} {p : V × List V} {x : Str} {pl : Sem Bool} {Q : Value × List Value → Shared → Prop} (h : VR (G.K c.w.params) news al v y) (e : methM G x y st = some p)
  (hQ : ∀ u us s', VR (G.K c.w.params) news al u p.1 → VRs (G.K c.w.params) news al us p.2 → s'.heap = s.heap → Same s s' → Q (u, us) s') : wpAny (model G.prog c.w) A (PySem.getMethod v x pl) Q E s := by
 refine bindE e fun k e1 e => bindE e fun o hk e => ?_
 have h1 := (V.hnd_of e1 ▸ h : VR (G.K c.w.params) news al v (.hnd k))
 have H : ∀ {id : String}, (V.bi id, [y]) = p → Q (.builtin id, [v]) s := fun e => hQ _ _ s (e ▸ .bi) (e ▸ .cons h .nil) rfl .refl
 cases o with
 | list l =>
  obtain ⟨a, e0, _⟩ := h1.inv
  rw [e0] at h1 H ⊢
  obtain ⟨vs, n, _, hm, _, _⟩ := S.list h1 hk
  exact iteE e (fun hx e => hx ▸ kl_method S.N hm PySem.F.slot_list_append PySem.F.type_list_append (H (sInj e))) fun _ e => iteE e (fun hx e => hx ▸ kl_method S.N hm PySem.F.slot_list_pop PySem.F.type_list_pop (H (sInj e))) fun _ e => iteS e fun hx e => hx ▸ kl_method S.N hm PySem.F.slot_list_extend PySem.F.type_list_extend (H (sInj e))
 | sdict l =>
  obtain ⟨a, o, kvs, e0, _, hm, hd, hn, hD, hp⟩ := S.sdict h1 hk
  rw [e0] at H ⊢
  exact iteS e fun hx e => hx ▸ kob_method PySem.F.slot_dict_get PySem.F.type_dict_get S.N hm hd (H (sInj e))
 | inst C fs =>
  have e : methI G x y C fs = some p := e
  unfold methI at e
  cases hz : fs.lookup x with
  | some z =>
   rw [hz] at e
   refine iteS e fun hx e => ?_
   rw [Bool.and_eq_true] at hx
   have hx1 : x ∈ G.flds C := List.contains_iff_mem.mp hx.1
   obtain ⟨a, dx, es, n, e0, _, _, _, I, hf⟩ := S.inst h1 hk
   obtain ⟨u, h1, h2⟩ := hf.getL hz
   have ok := clsOk_of (hG.cls c.w.params _ _ hx1) hx1
   exact e0 ▸ kmu_own S.F (S.XG hc) I ok.get ok.non (get_own S.F (S.XG hc) I ok.get ok.has ok.non rfl h1 (handed_of h2 hx.2) (hQ u [] _ (sInj e ▸ h2) (sInj e ▸ .nil) rfl ⟨rfl, rfl⟩))
  | none =>
   rw [hz] at e
   refine mapE e fun f h2 e => ?_
   obtain ⟨g1, g2, g3, g4⟩ := hG.meth c.w.params _ _ _ h2
   exact S.clsMeth hc h1 hk g1 g2 g3 hz (hQ _ _ s (e ▸ .glob) (e ▸ .cons h .nil) rfl .refl)
 | _ => exact noS e
noncomputable def okFunc : Expr → Bool
 | .Name _ _ => true
 | .Subscript _ _ _ => true
 | _ => false
theorem Sound.call (hG : G.Ok) (hc : c.Ok G) {cf : Bool → V → List V → M V} (hcf : CallOk G k cf) {g : Expr → M V} {fn : Expr} {es : List Expr} (hf : okFunc fn = true) (hn : es.all noStar = true) (h1 : Sound G c k q CL ρ relV (eval fn c.env) (g fn)) (hs : ∀ e ∈ es, Sound G c k q CL ρ relV (eval e c.env) (g e)) :
  Sound G c k q CL ρ relV (eval (.Call fn es [] pos) c.env) (M.bind (g fn) fun f => callM G (cf q) f [] (evList g es)) := by
 intro st r e A s m news al Q E hA S hE hQ
 refine Call_ (h1.go e hA S hE fun f st1 e1 v1 s1 n1 a1 S1 X1 R1 G1 => ?_) ?_
 ·exact callWith_sound hG hc hcf hn hs hA S1 R1 .nil e1 (hE.step S X1 G1) fun y st' x v s2 n2 a2 S2 X2 R2 G2 => hQ y st' x v s2 n2 a2 S2 (X1.trans S.H X2) R2 (G1.trans G2)
 ·cases fn <;> first | rfl | exact noB hf
theorem form_ok {env : Env} {es : List Expr} (hn : es.all noStar = true) (hl : es.length < 30) : methodCallForm (es.length + 0) (backTo pos (starEach es env)) (backToKw pos (keywordEach [] env)) = true := by
 unfold methodCallForm
 have h1 := star_all (pos := pos) (env := env) hn
 have h2 : (backTo pos (starEach es env)).all (!·.1) = true := by
  rw [List.all_eq_true]
  intro x hx
  cases hb : x.1 with
  | false => rfl
  | true => exact absurd (List.any_eq_true.mpr ⟨x, hx, hb⟩) (by rw [h1]; exact Bool.false_ne_true)
 rw [h2]
 have h3 : (backToKw pos (keywordEach [] env)) = [] := rfl
 rw [h3]
 simpa using hl
theorem Sound.meth (hG : G.Ok) (hc : c.Ok G) {cf : Bool → V → List V → M V} (hcf : CallOk G k cf) {g : Expr → M V} {o : Expr} {x : Str} {ap : Pos} {es : List Expr} (hb : okBase o = true) (hline : (ap.endLine == pos.line) = true) (hl : es.length < 30) (hn : es.all noStar = true)
  (h1 : Sound G c k q CL ρ relV (eval o c.env) (g o)) (hs : ∀ e ∈ es, Sound G c k q CL ρ relV (eval e c.env) (g e)) :
  Sound G c k q CL ρ relV (eval (.Call (.Attribute o x ap) es [] pos) c.env) (M.bind (g o) fun y => M.bind (still fun st => methM G x y st) fun p => callM G (cf q) p.1 p.2 (evList g es)) := by
 intro st r e A s m news al Q E hA S hE hQ
 have he : eval (.Call (.Attribute o x ap) es [] pos) c.env = (do
  let ov ← attributeBase o x c.env (eval o c.env)
  standAt ap.atName
  methodCall o x ap pos c.env ov (es.length + 0) (backTo pos (starEach es c.env)) (backToKw pos (keywordEach [] c.env))) := rfl
 rw [he, base_ok hb]
 refine wpAny_bind (wpAny_mono (h1.go e hA S hE fun y st1 e1 v1 s1 n1 a1 S1 X1 R1 G1 => ?_) (fun v s1 h1 => h1) fun _ _ z => z)
 refine wpAny_bind (wpAny_standAt ?_)
 refine still_go e1 fun p e2 e3 => ?_
 unfold methodCall
 rw [form_ok hn hl]
 refine wpAny_bind (wpAny_holding ?_)
 unfold calleeOf
 simp only [if_true]
 refine methM_sound hG hc S1 R1 e2 fun u us s2 R2 R3 e4 G2 => ?_
 have S2 := S1.at e4
 show wpAny _ _ (methodCallPos true o c.env ap pos >>= _) _ _ _
 unfold methodCallPos
 rw [hline]
 simp only [Bool.not_true, Bool.or_true, if_true]
 refine wpAny_bind (wpAny_pure ?_)
 exact callWith_sound hG hc hcf hn hs hA S2 R2 R3 e3 ((hE.step S X1 G1).step S1 Ext.refl G2) fun y st' x v s3 n3 a3 S3 X3 R3 G3 => hQ y st' x v s3 n3 a3 S3 (X1.trans S.H X3) R3 (G1.trans (G2.trans G3))
end
set_option genCtorIdx true in
inductive Fl where
 | next
 | brk
 | cont
 | ret (y : V)
 deriving Inhabited
inductive FlR (K : Frag) (news : Led) (al : Al) : Flow → Fl → Prop where
 | next : FlR K news al .next .next
 | brk : FlR K news al .brk .brk
 | cont : FlR K news al .cont .cont
 | ret {v : Value} {y : V} : VR K news al v y → FlR K news al (.ret v) (.ret y)
abbrev Loc := List (Str × V)
theorem putF_lookup (x z : Str) (y : V) : ∀ ρ : Loc, (putF x y ρ).lookup z = if z = x then some y else ρ.lookup z
 | [] => by
  unfold putF
  rw [List.lookup_cons]
  by_cases h : z = x
  ·rw [if_pos h, beq_iff_eq.mpr h]
  ·rw [if_neg h, beq_eq_false_iff_ne.mpr h]
 | (x', y') :: r => by
  unfold putF
  by_cases h' : x' = x
  ·rw [if_pos (beq_iff_eq.mpr h'), List.lookup_cons, List.lookup_cons, h']
   by_cases h : z = x
   ·rw [if_pos h, beq_iff_eq.mpr h]
   ·rw [if_neg h, beq_eq_false_iff_ne.mpr h]
  ·rw [if_neg fun e => h' (beq_iff_eq.mp e), List.lookup_cons, List.lookup_cons, putF_lookup x z y r]
   cases h : z == x' with
   | true => exact (if_neg fun e => h' ((beq_iff_eq.mp h).symm.trans e)).symm
   | false => rfl
def ErrS {α : Type} (c : Act) (E : Value → Shared → Prop) (s : Shared) (news : Led) (al : Al) (r : Except Addr α × Sto) : Prop :=
 ∀ C st', r = (.error C, st') → ∀ m e s' news' al', (c.fly m C e s' news' al' st' ∨ c.fnew m C e s' news' al' st' ∨ c.fheld m C e s' news' al' st') → Ext news al news' al' → Same s s' → E e s'
def SoundS (G : Pg) (c : Act) (k : Nat) (q : Bool) (CL : List (Str × Nat)) (t : Sem Flow) (ms : Loc → M (Fl × Loc)) : Prop :=
 ∀ (ρ : Loc) (st : Sto) (r : Except Addr (Fl × Loc) × Sto), ms ρ st = some r → ∀ (A : Around) (s : Shared) (m : Str → Option Value) (news : Led) (al : Al) (Q : Flow → Shared → Prop) (E : Value → Shared → Prop),
  Ar c k q A → St G c CL ρ m s news al st → ErrS c E s news al r →
  (∀ fl ρ' st', r = (.ok (fl, ρ'), st') → ∀ f s' m' news' al', St G c CL ρ' m' s' news' al' st' → Ext news al news' al' → FlR (G.K c.w.params) news' al' f fl → Same s s' → Q f s') →
  wpAny (model G.prog c.w) A t Q E s
section
variable {G : Pg} {c : Act} {k : Nat} {q : Bool} {CL : List (Str × Nat)} {ρ : Loc} {m : Str → Option Value} {s s' : Shared} {news news' : Led} {al al' : Al} {st st' : Sto} {A : Around} {E : Value → Shared → Prop} {pos : Pos}
theorem ErrS.step {α : Type} {r : Except Addr α × Sto} (h : ErrS c E s news al r) (S : St G c CL ρ m s news al st) (X : Ext news al news' al') (x : Same s s') : ErrS c E s' news' al' r :=
 fun C st' e m e' s'' n' a' hf X' G' => h C st' e m e' s'' n' a' hf (X.trans S.H X') (x.trans G')
theorem ErrS.expr {α β : Type} {r : Except Addr α × Sto} {r' : Except Addr β × Sto} (h : ErrS c E s news al r) (e : ∀ C st', r' = (.error C, st') → r = (.error C, st')) : ErrK c m E s news al r' :=
 fun C st' x e' s'' n' a' hf X' G' => h C st' (e C st' x) m e' s'' n' a' (.inl hf) X' G'
theorem Sound.goS {α β γ : Type} {rel : Frag → Led → Al → α → β → Prop} {t : Sem α} {m1 : M β} {f : β → M γ} {r : Except Addr γ × Sto} {Q : α → Shared → Prop}
  (h1 : Sound G c k q CL ρ rel t m1) (hr : M.bind m1 f st = some r) (hA : Ar c k q A) (S : St G c CL ρ m s news al st) (hE : ErrS c E s news al r)
  (hQ : ∀ y st1, f y st1 = some r → ∀ v s1 n1 a1, St G c CL ρ m s1 n1 a1 st1 → Ext news al n1 a1 → rel (G.K c.w.params) n1 a1 v y → Same s s1 → Q v s1) : wpAny (model G.prog c.w) A t Q E s :=
 h1.go hr hA S (hE.expr fun _ _ x => x) hQ
noncomputable def seqM (f : Stmt → Loc → M (Fl × Loc)) : List Stmt → Loc → M (Fl × Loc)
 | [], ρ => M.pure (.next, ρ)
 | x :: r, ρ => M.bind (f x ρ) fun p => match p.1 with
  | .next => seqM f r p.2
  | fl => M.pure (fl, p.2)
theorem Sound.ok {α β : Type} {rel : Frag → Led → Al → α → β → Prop} {t : Sem α} {mm : M β} {b : β} {Q : α → Shared → Prop} (h : Sound G c k q CL ρ rel t mm) (e : mm st = some (.ok b, st')) (hA : Ar c k q A) (S : St G c CL ρ m s news al st)
  (hQ : ∀ v s2 n2 a2, St G c CL ρ m s2 n2 a2 st' → Ext news al n2 a2 → rel (G.K c.w.params) n2 a2 v b → Same s s2 → Q v s2) : wpAny (model G.prog c.w) A t Q E s :=
 h st _ e A s m news al Q E hA S ErrK.no fun y st2 z => by
  obtain ⟨z1, z2⟩ := Prod.mk.inj z
  rw [← z2, ← Except.ok.inj z1]
  exact hQ
theorem SoundS.ok {t : Sem Flow} {ms : Loc → M (Fl × Loc)} {p : Fl × Loc} {Q : Flow → Shared → Prop} (h : SoundS G c k q CL t ms) (e : ms ρ st = some (.ok p, st')) (hA : Ar c k q A) (S : St G c CL ρ m s news al st)
  (hQ : ∀ f s2 m2 n2 a2, St G c CL p.2 m2 s2 n2 a2 st' → Ext news al n2 a2 → FlR (G.K c.w.params) n2 a2 f p.1 → Same s s2 → Q f s2) : wpAny (model G.prog c.w) A t Q E s :=
 h ρ st _ e A s m news al Q E hA S nofun fun fl ρ2 st2 z => by
  obtain ⟨z1, z2⟩ := Prod.mk.inj z
  have z1 := Except.ok.inj z1
  rw [z1] at hQ
  rw [← z2]
  exact hQ
theorem SoundS.seq {f : Stmt → Loc → M (Fl × Loc)} {xs : List Stmt} (h : ∀ x ∈ xs, SoundS G c k q CL (exec x c.env) (f x)) : SoundS G c k q CL (execs xs c.env) (seqM f xs) := by
 induction xs with
 | nil =>
  intro ρ st r e A s m news al Q E hA S hE hQ
  exact wpAny_execs_nil (hQ _ _ _ (sInj e).symm _ s m news al S Ext.refl .next .refl)
 | cons x xs ih =>
  intro ρ st r e A s m news al Q E hA S hE hQ
  refine wpAny_execs_cons (M.elim e (fun p st1 e1 e2 => ?_) fun C st1 e1 e2 => ?_)
  ·refine (h x (.head _)).ok e1 hA S fun f s1 m1 n1 a1 S1 X1 R1 G1 => ?_
   obtain ⟨fl, ρ'⟩ := p
   cases R1 with
   | next => exact ih (fun y hy => h y (.tail _ hy)) ρ' st1 r e2 A s1 m1 n1 a1 Q E hA S1 (hE.step S X1 G1) fun fl ρ2 st2 z f s2 m2 n2 a2 S2 X2 R2 G2 => hQ fl ρ2 st2 z f s2 m2 n2 a2 S2 (X1.trans S.H X2) R2 (G1.trans G2)
   | brk => exact hQ _ _ _ (sInj e2).symm _ s1 m1 n1 a1 S1 X1 .brk G1
   | cont => exact hQ _ _ _ (sInj e2).symm _ s1 m1 n1 a1 S1 X1 .cont G1
   | ret hv => exact hQ _ _ _ (sInj e2).symm _ s1 m1 n1 a1 S1 X1 (.ret hv) G1
  ·exact h x (.head _) ρ st _ e1 A s m news al _ E hA S (e2 ▸ hE) nofun
noncomputable def noComp : Expr → Bool
 | .ListComp .. | .SetComp .. | .DictComp .. => false
 | _ => true
theorem swaps_no {e : Expr} {t : Option Expr} {l : Nat} {env : Env} (h : noComp e = true) : swapsWith e t l env = pure false := by
 cases e <;> first | rfl | cases h
theorem swapsS_no {e t : Expr} {l : Nat} {env : Env} (h : noComp e = true) : swapsWithSole [t] e l env = pure false := swaps_no h
theorem swaps_attr {e o : Expr} {x : Str} {p : Pos} {l : Nat} {env : Env} : swapsWith e (some (.Attribute o x p)) l env = pure false := by cases e <;> rfl
theorem swaps_sub {e o i : Expr} {p : Pos} {l : Nat} {env : Env} : swapsWith e (some (.Subscript o i p)) l env = pure false := by cases e <;> rfl
theorem not_interactive (hc : c.Ok G) : interactive c.env = false := by
 unfold interactive
 rw [env_kind hc]; rfl
theorem SoundS.expr (hc : c.Ok G) {e : Expr} {me : Loc → M V} (hn : noComp e = true) (h1 : ∀ ρ, Sound G c k q CL ρ relV (eval e c.env) (me ρ)) :
  SoundS G c k q CL (exec (.Expr e pos) c.env) (fun ρ => M.bind (me ρ) fun _ => M.pure (.next, ρ)) := by
 intro ρ st r e1 A s m news al Q E hA S hE hQ
 refine wpAny_Expr_any ((h1 ρ).goS e1 hA S hE fun y st1 e2 v s1 n1 a1 S1 X1 R1 G1 => ?_) (not_interactive hc) (swaps_no hn)
 induction e2 using E1
 exact hQ _ _ _ rfl _ s1 m n1 a1 S1 X1 .next G1
theorem SoundS.ret {e : Expr} {me : Loc → M V} (h1 : ∀ ρ, Sound G c k q CL ρ relV (eval e c.env) (me ρ)) :
  SoundS G c k q CL (exec (.Return (some e) pos) c.env) (fun ρ => M.bind (me ρ) fun y => M.pure (.ret y, ρ)) := by
 intro ρ st r e1 A s m news al Q E hA S hE hQ
 refine wpAny_Return_some ((h1 ρ).goS e1 hA S hE fun y st1 e2 v s1 n1 a1 S1 X1 R1 G1 => ?_)
 induction e2 using E1
 exact hQ _ _ _ rfl _ s1 m n1 a1 S1 X1 (.ret R1) G1
theorem SoundS.ret0 : SoundS G c k q CL (exec (.Return none pos) c.env) (fun ρ => M.pure (.ret .none, ρ)) := by
 intro ρ st r e1 A s m news al Q E hA S hE hQ
 induction e1 using E1
 exact wpAny_Return_none (hQ _ _ _ rfl _ s m news al S Ext.refl (.ret .none) .refl)
theorem SoundS.pass : SoundS G c k q CL (exec (.Pass pos) c.env) (fun ρ => M.pure (.next, ρ)) := by
 intro ρ st r e1 A s m news al Q E hA S hE hQ
 induction e1 using E1
 exact wpAny_Pass (hQ _ _ _ rfl _ s m news al S Ext.refl .next .refl)
theorem SoundS.iff {t : Expr} {b o : List Stmt} {mt : Loc → M Bool} {mb mo : Loc → M (Fl × Loc)} (ht : ∀ ρ, Sound G c k q CL ρ relB (isTrue t c.env (eval t c.env)) (mt ρ)) (hb : SoundS G c k q CL (execs b c.env) mb) (ho : SoundS G c k q CL (execs o c.env) mo) :
  SoundS G c k q CL (exec (.If t b o pos) c.env) (fun ρ => M.bind (mt ρ) fun x => iteM x (mb ρ) (mo ρ)) := by
 intro ρ st r e1 A s m news al Q E hA S hE hQ
 refine wpAny_If ((ht ρ).goS e1 hA S hE fun z st1 e2 v s1 n1 a1 S1 X1 R1 G1 => ?_)
 cases R1
 cases z
 ·exact ho ρ st1 r e2 A s1 m n1 a1 Q E hA S1 (hE.step S X1 G1) fun fl ρ2 st2 z f s2 m2 n2 a2 S2 X2 R2 G2 => hQ fl ρ2 st2 z f s2 m2 n2 a2 S2 (X1.trans S.H X2) R2 (G1.trans G2)
 ·exact hb ρ st1 r e2 A s1 m n1 a1 Q E hA S1 (hE.step S X1 G1) fun fl ρ2 st2 z f s2 m2 n2 a2 S2 X2 R2 G2 => hQ fl ρ2 st2 z f s2 m2 n2 a2 S2 (X1.trans S.H X2) R2 (G1.trans G2)
noncomputable def O.isCell : O → Bool
 | .cell _ => true
 | _ => false
def storeM (sc : Scope) (CL : List (Str × Nat)) (x : Str) (y : V) (ρ : Loc) : M Loc := fun st =>
 match sc.names.lookup x with
 | some .local => some (.ok (putF x y ρ), st)
 | some .cell => (CL.lookup x).bind fun k => st[k]?.bind fun o => if o.isCell then some (.ok ρ, st.set k (.cell (some y))) else none
 | _ => none
theorem Act.look0 (hp : c.comp = none) {m : Str → Option Value} {x : Str} {v : Value} : c.Look news al m x v ↔ m x = some v := by unfold Act.Look; rw [hp]
theorem storeM_some {sc : Scope} {x : Str} {y : V} {r : Except Addr Loc × Sto} {P : Prop} (e : storeM sc CL x y ρ st = some r) (k1 : sc.names.lookup x = some .local → (.ok (putF x y ρ), st) = r → P)
  (k2 : ∀ k o, sc.names.lookup x = some .cell → CL.lookup x = some k → st[k]? = some o → o.isCell = true → (.ok ρ, st.set k (.cell (some y))) = r → P) : P := by
 unfold storeM at e
 cases hk : sc.names.lookup x with
 | none => rw [hk] at e; exact noS e
 | some kd =>
  rw [hk] at e
  cases kd with
  | «local» => exact k1 hk (sInj e)
  | cell => exact bindE e fun k h1 e => bindE e fun o h2 e => iteS e fun h3 e => k2 k o hk h1 h2 h3 (sInj e)
  | _ => exact noS e
theorem OR.cellAt {K : Frag} {prog : Program} {w : World} {a : Addr} {p : Option Addr} {o : O} (h : OR K prog w news al (a, p) o) (ho : o.isCell = true) : ∃ ob, (a, ob) ∈ news ∧ ∃ v₀, ob.data = .cell v₀ := by
 cases o with
 | cell y => obtain ⟨_, ob, v, h1, h2, _⟩ := h.inv; exact ⟨ob, h1, v, h2⟩
 | _ => exact noB ho
theorem storeM_sound (hc : c.Ok G) (hp : c.comp = none) (S : St G c CL ρ m s news al st) {x : Str} {v : Value} {y : V} {ρ' : Loc} {Q : Unit → Shared → Prop} (h : VR (G.K c.w.params) news al v y) (e : storeM c.cs CL x y ρ st = some (.ok ρ', st'))
  (hQ : ∀ s' m' news', St G c CL ρ' m' s' news' al st' → Ext news al news' al → Same s s' → Q () s') : wpAny (model G.prog c.w) A (storeName c.env x v) Q E s := by
 have he : c.env = c.fenv := by unfold Act.env; rw [hp]
 rw [he]
 refine storeM_some e (fun hk e => ?_) fun kk o0 hk hcl hst ho e => ?_
 ·obtain ⟨e1, e2⟩ := Prod.mk.inj e
  rw [← e2, ← Except.ok.inj e1] at hQ
  refine storeX_L S.F S.N (fun h' F N => hQ _ (fun z => if z = x then some v else m z) news ⟨⟨_, S.T, F, N⟩, S.H, fun z w hz => ?_, S.C, S.I⟩ Ext.refl ⟨rfl, rfl⟩) hc.hk hk
  rw [putF_lookup] at hz
  by_cases hzx : z = x
  ·rw [if_pos hzx] at hz
   exact ⟨v, (Act.look0 hp).mpr (if_pos hzx), sInj hz ▸ h⟩
  ·rw [if_neg hzx] at hz
   obtain ⟨u, h1, h2⟩ := S.R z w hz
   exact ⟨u, (Act.look0 hp).mpr ((if_neg hzx).trans ((Act.look0 hp).mp h1)), h2⟩
 ·obtain ⟨e1, e2⟩ := Prod.mk.inj e
  rw [← e2, ← Except.ok.inj e1] at hQ
  obtain ⟨a, h1, h2⟩ := S.C _ _ hcl
  have h1' : c.cl.lookup x = some a := by unfold Act.ncl at h1; rw [hp] at h1; exact h1
  obtain ⟨o, hm, v₀, hd⟩ := (S.H.obj _ _ _ h2 hst).cellAt ho
  refine wpAny_storeName_cell hc.hk hk h1' ⟨o, S.N.get hm, hd⟩ fun h' hv hs => ?_
  obtain ⟨o', ho', hd'⟩ := hv
  obtain ⟨S', X⟩ := S.upd (tk := s.toks) h2 (.inl rfl) hm hs ho' (.cell (mem_putLed_at hm) hd' (h.ext S.H (Ext.put (mem_flat.mpr ⟨_, _, h2, .inl rfl⟩))))
  exact hQ _ _ _ S' X ⟨rfl, rfl⟩
theorem storeM_ok {sc : Scope} {x : Str} {y : V} {r : Except Addr Loc × Sto} (e : storeM sc CL x y ρ st = some r) : ∃ ρ' st', r = (.ok ρ', st') :=
 storeM_some e (fun _ e => ⟨_, _, e.symm⟩) fun _ _ _ _ _ _ e => ⟨_, _, e.symm⟩
theorem store_go {sc : Scope} {x : Str} {y : V} {β : Type} {g : Loc → M β} {r : Except Addr β × Sto} {P : Prop} (e : M.bind (storeM sc CL x y ρ) g st = some r) (k : ∀ ρ' st1, storeM sc CL x y ρ st = some (.ok ρ', st1) → g ρ' st1 = some r → P) : P :=
 M.elim e (fun ρ' st1 e1 e2 => k ρ' st1 e1 e2) fun C st1 e1 _ => by
  obtain ⟨_, _, e3⟩ := storeM_ok e1
  exact noR e3.symm
theorem SoundS.assignN (hc : c.Ok G) (hp : c.comp = none) {x : Str} {e : Expr} {xp : Pos} {me : Loc → M V} (hn : noComp e = true) (h1 : ∀ ρ, Sound G c k q CL ρ relV (eval e c.env) (me ρ)) :
  SoundS G c k q CL (exec (.Assign [.Name x xp] e pos) c.env) (fun ρ => M.bind (me ρ) fun y => M.bind (storeM c.cs CL x y ρ) fun ρ' => M.pure (.next, ρ')) := by
 intro ρ st r e1 A s m news al Q E hA S hE hQ
 refine wpAny_Assign_Name ((h1 ρ).goS e1 hA S hE fun y st1 e2 v s1 n1 a1 S1 X1 R1 G1 => store_go e2 fun ρ' st2 e3 e4 => ?_) (swaps_no hn)
 exact storeM_sound hc hp S1 R1 e3 fun s2 m2 n2 S2 X2 G2 => hQ _ _ _ (sInj e4).symm _ s2 m2 n2 _ S2 (X1.trans S.H X2) .next (G1.trans G2)
def putFld (G : Pg) (x : Str) (u : V) : O → Option O
 | .inst C fs => if (G.flds C).contains x && decide (fs.length ≤ 900) then some (.inst C (putF x u fs)) else none
 | _ => none
def setAttrM (G : Pg) (x : Str) (y u : V) : M Unit := fun st => y.hnd?.bind fun k => st[k]?.bind fun o => (putFld G x u o).map fun o' => (.ok (), st.set k o')
theorem setAttr_go {x : Str} {y u : V} {β : Type} {g : Unit → M β} {r : Except Addr β × Sto} {P : Prop} (e : M.bind (setAttrM G x y u) g st = some r)
  (k : ∀ k C fs, y = .hnd k → st[k]? = some (.inst C fs) → x ∈ G.flds C → fs.length ≤ 900 → g () (st.set k (.inst C (putF x u fs))) = some r → P) : P := by
 have key : ∀ p, setAttrM G x y u st = some p → ∃ k C fs, y = .hnd k ∧ st[k]? = some (.inst C fs) ∧ x ∈ G.flds C ∧ fs.length ≤ 900 ∧ (.ok (), st.set k (.inst C (putF x u fs))) = p := fun p h =>
  bindE h fun kk h1 h => bindE h fun o h2 h => by
   obtain ⟨o', h3, h4⟩ := Option.map_eq_some_iff.mp h
   cases o with
   | inst C fs =>
    refine iteS h3 fun hx h3 => ?_
    rw [Bool.and_eq_true, decide_eq_true_iff] at hx
    exact ⟨kk, C, fs, V.hnd_of h1, h2, List.contains_iff_mem.mp hx.1, hx.2, sInj h3 ▸ h4⟩
   | _ => exact noS h3
 exact M.elim e (fun a st1 e1 e2 => by
  obtain ⟨kk, C, fs, h1, h2, h3, h4, h5⟩ := key _ e1
  exact k kk C fs h1 h2 h3 h4 ((Prod.mk.inj h5).2 ▸ e2)) fun _ _ e1 _ => by
  obtain ⟨_, _, _, _, _, _, _, h5⟩ := key _ e1
  exact noR h5
theorem SoundS.assignA (hG : G.Ok) (hc : c.Ok G) {o e : Expr} {x : Str} {xp : Pos} {me mo : Loc → M V} (h1 : ∀ ρ, Sound G c k q CL ρ relV (eval e c.env) (me ρ)) (h2 : ∀ ρ, Sound G c k q CL ρ relV (eval o c.env) (mo ρ)) :
  SoundS G c k q CL (exec (.Assign [.Attribute o x xp] e pos) c.env) (fun ρ => M.bind (me ρ) fun u => M.bind (mo ρ) fun y => M.bind (setAttrM G x y u) fun _ => M.pure (.next, ρ)) := by
 intro ρ st r e1 A s m news al Q E hA S hE hQ
 refine plainObj_wpAny_Assign_Attribute ((h1 ρ).goS e1 hA S hE fun u st1 e2 vu s1 n1 a1 S1 X1 R1 G1 => ?_) swaps_attr
 refine (h2 ρ).goS e2 hA S1 (hE.step S X1 G1) fun y st2 e3 v s2 n2 a2 S2 X2 R2 G2 => setAttr_go e3 fun kk C fs h0 ho hx1 hl e4 => ?_
 exact S2.setAttr hc (h0 ▸ R2) ho (clsOk_of (hG.cls _ _ _ hx1) hx1) hl (R1.ext S1.H X2) fun _ s3 n3 a3 S3 X3 _ G3 => hQ _ _ _ (sInj e4).symm _ s3 m n3 a3 S3 (X1.trans S.H (X2.trans S1.H X3)) .next (G1.trans (G2.trans G3))
theorem SoundS.assignS {o i e : Expr} {xp : Pos} {me mo mi : Loc → M V} (h1 : ∀ ρ, Sound G c k q CL ρ relV (eval e c.env) (me ρ)) (h2 : ∀ ρ, Sound G c k q CL ρ relV (eval o c.env) (mo ρ)) (h3 : ∀ ρ, Sound G c k q CL ρ relV (eval i c.env) (mi ρ)) :
  SoundS G c k q CL (exec (.Assign [.Subscript o i xp] e pos) c.env) (fun ρ => M.bind (me ρ) fun u => M.bind (mo ρ) fun y => M.bind (mi ρ) fun j => fun st => (setItV y j u st).map fun st' => (.ok (.next, ρ), st')) := by
 intro ρ st r e1 A s m news al Q E hA S hE hQ
 refine wpAny_Assign_Subscript ((h1 ρ).goS e1 hA S hE fun u st1 e2 vu s1 n1 a1 S1 X1 R1 G1 => ?_) swaps_sub
 refine (h2 ρ).goS e2 hA S1 (hE.step S X1 G1) fun y st2 e3 v s2 n2 a2 S2 X2 R2 G2 => ?_
 refine (h3 ρ).goS e3 hA S2 ((hE.step S X1 G1).step S1 X2 G2) fun j st3 e4 vj s3 n3 a3 S3 X3 R3 G3 => mapE e4 fun st4 e5 e6 => ?_
 exact setItV_sound S3 (R2.ext S2.H X3) R3 ((R1.ext S1.H X2).ext S2.H X3) e5 fun _ s4 n4 a4 S4 X4 _ G4 => hQ _ _ _ e6.symm _ s4 m n4 a4 S4 (X1.trans S.H (X2.trans S1.H (X3.trans S2.H X4))) .next (G1.trans (G2.trans (G3.trans G4)))
end
theorem frames_cons {env : Env} {outer : List Env} {L b : Addr} {P : Prop} (hf : env.frame = some L) (hm : b ∈ (env :: outer).filterMap (·.frame)) (k1 : b = L → P) (k2 : b ∈ outer.filterMap (·.frame) → P) : P := by
 rw [List.filterMap_cons, hf] at hm
 exact (List.mem_cons.mp hm).elim k1 k2
theorem fr_self {g h : Heap} {L : Addr} {m : Str → Option Value} {P : Prop} (F : Fr g L h m) {o : Obj} (e : g.get? L = some o) : P := noS ((kts_self F).symm.trans e)
section
variable {M : Model} {A : Around} {E : Value → Shared → Prop} {s' : Shared} {base g h : Heap} {outer : List Env} {env : Env} {L e : Addr} {m : Str → Option Value} {news : Led} {cls : Value} {Q : Unit → Shared → Prop}
theorem leave_on (hf : env.frame = some L) (hA : A.frames = some outer) (F : Fr g L h m) (R : RaisedSN base h (env :: outer) e cls news s'.heap) (hs : h.UpToSlots s'.heap)
  (hQ : ∀ h', RaisedSN base g outer e cls news h' → g.UpToSlots h' → Q () { s' with heap := h' }) : wpAny M (A.deeper env) (leaving env (.ref e)) Q E s' := by
 obtain ⟨B, a0, hB, hBG, hl, hfl⟩ := R
 exact wpAny_leaves_onW (Around.frames_deeper hA) hf hfl fun h' x1 x2 => hQ h' ⟨B, a0, hB, fun b o q nm => hBG b o (F.keep b o q) fun hm => frames_cons hf hm (fun z => fr_self F (z ▸ q)) nm, fun q hq => ⟨(hl q hq).1, kts_none F.keep (hl q hq).2.1, (hl q hq).2.2⟩, x1⟩ ((Heap.UpToSlots.of_keeps F.keep).trans (hs.trans x2))
theorem leave_new (hf : env.frame = some L) (hk : env.scope.kind = .function) (K : Below A base outer g) (F : Fr g L h m) (N : News g L h news) (hx : NewX h s'.heap e cls)
  (hQ : ∀ h', RaisedSN base g outer e cls news h' → g.UpToSlots h' → Q () { s' with heap := h' }) : wpAny M (A.deeper env) (leaving env (.ref e)) Q E s' := by
 have K' := pushX K F hf hk
 obtain ⟨x1, x2, oe, vs, a0, he, hcls, hd, h0, h1⟩ := hx
 have hin : ∀ env' ∈ (env :: outer), ∀ b, env'.frame = some b → b ∈ (env :: outer).filterMap (·.frame) := fun env' he b hb => List.mem_filterMap.mpr ⟨env', he, hb⟩
 have hen : (hideAll h ((env :: outer).filterMap (·.frame))).get? e = none := by
  cases q : (hideAll h ((env :: outer).filterMap (·.frame))).get? e with
  | none => rfl
  | some o => exact noS (x2.symm.trans (of_hideAll _ q))
 refine wpAny_leaving_firstW (a0 := a0) K'.stack ((funFrames_hide K'.frames hin).of_keeps fun b o hb _ => ⟨o, x1 b o hb, rfl⟩) hf he (fun b o hb => x1 b o (of_hideAll _ hb)) hen hd h1 h0 fun h' hL => ?_
 obtain ⟨k1, ⟨_, _, k2⟩, k3, k4⟩ := hL
 refine hQ h' ⟨_, a0, fun b o q => hideAll_get _ (K'.stays b o q) fun hm => noS ((K'.frames.mem hm).1.symm.trans q), fun b o q nm => hideAll_get _ (F.keep b o q) fun hm => frames_cons hf hm (fun z => fr_self F (z ▸ q)) nm, fun q hq => ⟨hideAll_get _ (N q hq).1 fun hm => frames_cons hf hm (N q hq).2.1 fun z => ?_, (N q hq).2.2, ?_⟩, k1, hen, k2, hcls ▸ k3⟩ (((Heap.UpToSlots.of_keeps F.keep).trans (Heap.UpToSlots.of_keeps x1)).trans k4)
 ·obtain ⟨_, o, ho, _⟩ := K.frames.mem z
  exact noS ((N q hq).2.2.symm.trans ho)
 ·exact kts_none K.stays (N q hq).2.2
theorem leave_held (hf : env.frame = some L) (F : Fr g L h m) (R : RaisedHN base h (env :: outer) L e cls news s'.heap) (hs : h.UpToSlots s'.heap)
  (hQ : ∀ h', RaisedSN base g outer e cls news h' → g.UpToSlots h' → Q () { s' with heap := h' }) : wpAny M (A.deeper env) (leaving env (.ref e)) Q E s' := by
 obtain ⟨B, a0, hB, hBG, hl, hh⟩ := R
 unfold leaving
 refine wpAny_bind (wpAny_noteFrame_againW hf hh.2.2.2 (wpAny_landsW hh fun h' hfl x2 => ?_))
 obtain ⟨k1, k2, ⟨_, _, k3⟩, k4⟩ := hfl
 exact hQ h' ⟨B, a0, hB, fun b o q nm => hBG b o (F.keep b o q) fun hm => frames_cons hf hm (fun z => fr_self F (z ▸ q)) nm, fun q hq => ⟨(hl q hq).1, kts_none F.keep (hl q hq).2.1, (hl q hq).2.2⟩, k1, k2, k3, k4⟩ ((Heap.UpToSlots.of_keeps F.keep).trans (hs.trans x2))
theorem came_back {B : Heap} {a0 : Value} {E' : Value → Shared → Prop} (hf : env.frame = some L) (hh : Heap.HeldW B (env :: outer) e cls a0 L s'.heap) (k : ∀ h', Heap.HeldW B (env :: outer) e cls a0 L h' → s'.heap.UpToSlots h' → E' (.ref e) { s' with heap := h' }) : cameBackBy M A env E' (.ref e) s' := by
 obtain ⟨hkb, hen, hl, oe, vs, T, oT, ts, he, hcls, hd, h1, hnT, hTe, hT, hdT, h3⟩ := hh
 have hsz3 : 3 < ts.size := (Array.getElem?_eq_some_iff.mp h3).1
 have other : ∀ b, b ≠ T → (s'.heap.update T (Obj.mapFields (·.setIfInBounds 3 ((some L).elim Value.none fun f => rawInt f)))).get? b = s'.heap.get? b := fun b hb => Heap.get?_update_other _ _ (Ne.symm hb)
 have noRecord : ∀ b o, s'.heap.get? b = some o → (∀ vs, o.data ≠ .fields vs) → b ≠ T := fun b o hb hnf q => by
  rw [q, hT] at hb
  exact hnf ts (sInj hb ▸ hdT)
 unfold cameBackBy
 refine wpAny_bind (wpAny_field he hd h1 ?_)
 rw [if_neg (show ¬ ((Value.ref T == Value.none) = true) from by simp), hf]
 unfold setFlight
 refine wpAny_bind (wpAny_field he hd h1 ?_)
 rw [if_pos (show (Value.ref T != Value.none) = true from by simp)]
 refine wpAny_setField hT hdT hsz3 (k _ ⟨fun b o hbo => (other b fun q => noS (hnT.symm.trans (q ▸ hbo))).trans (hkb b o hbo), hen,
  hl.of_keeps fun b o hb hnf => ⟨o, (other b (noRecord b o hb hnf)).trans hb, rfl⟩, ?_⟩ fun b o hb hnf => ⟨o.slots, (other b (noRecord b o hb hnf)).trans hb⟩)
 exact ⟨oe, vs, T, _, _, (other e (Ne.symm hTe)).trans he, hcls, hd, h1, hnT, hTe, Heap.get?_update_self _ hT (Obj.isFreed_of_fields (Obj.data_mapFields hdT _)), Obj.data_mapFields hdT _, by simp [hsz3]⟩
theorem noted_held {E' : Value → Shared → Prop} (hf : env.frame = some L) (R : RaisedHN base h (env :: outer) L e cls news s'.heap) (hs : h.UpToSlots s'.heap)
  (k : ∀ h', RaisedHN base h (env :: outer) L e cls news h' → h.UpToSlots h' → E' (.ref e) { s' with heap := h' }) : notedBy M A env (cameBackBy M A env E') (.ref e) s' := by
 obtain ⟨B, a0, hB, hBG, hl, hh⟩ := R
 exact wpAny_noteFrame_againW hf hh.2.2.2 (came_back hf hh fun h' x1 x2 => k h' ⟨B, a0, hB, hBG, hl, x1⟩ (hs.trans x2))
theorem noted_on {E' : Value → Shared → Prop} (hf : env.frame = some L) (hA : A.frames = some (env :: outer)) (R : RaisedSN base h (env :: outer) e cls news s'.heap) (hs : h.UpToSlots s'.heap)
  (k : ∀ h', RaisedHN base h (env :: outer) L e cls news h' → h.UpToSlots h' → E' (.ref e) { s' with heap := h' }) : notedBy M A env (cameBackBy M A env E') (.ref e) s' := by
 obtain ⟨B, a0, hB, hBG, hl, hfl⟩ := R
 exact wpAny_looks_onW hA hf hfl fun h1 x1 x2 => came_back hf x1 fun h' y1 y2 => k h' ⟨B, a0, hB, hBG, hl, y1⟩ (hs.trans (x2.trans y2))
theorem noted_new {E' : Value → Shared → Prop} (hf : env.frame = some L) (hk : env.scope.kind = .function) (hA : A.frames = some (env :: outer)) {A' : Around} (K : Below A' base outer g) (F : Fr g L h m) (N : News g L h news) (hx : NewX h s'.heap e cls)
  (k : ∀ h' G, Fr g L G m → RaisedHN base G (env :: outer) L e cls news h' → G.UpToSlots h' → E' (.ref e) { s' with heap := h' }) : notedBy M A env (cameBackBy M A env E') (.ref e) s' := by
 obtain ⟨FG, _, _, _⟩ := groundX (A := A) (s := { s' with heap := h }) (R := fun _ _ => True) K F N hA hf hk
 have K' := pushX K F hf hk
 obtain ⟨x1, x2, oe, vs, a0, he, hcls, hd, h0, h1⟩ := hx
 have hin : ∀ env' ∈ (env :: outer), ∀ b, env'.frame = some b → b ∈ (env :: outer).filterMap (·.frame) := fun env' he b hb => List.mem_filterMap.mpr ⟨env', he, hb⟩
 have hen : (hideAll h ((env :: outer).filterMap (·.frame))).get? e = none := by
  cases q : (hideAll h ((env :: outer).filterMap (·.frame))).get? e with
  | none => rfl
  | some o => exact noS (x2.symm.trans (of_hideAll _ q))
 unfold notedBy noteFrame
 simp only [hf]
 refine wpAny_bind (wpAny_field he hd h1 ?_)
 rw [if_neg (by decide)]
 refine wpAny_entryW hA ((funFrames_hide K'.frames hin).of_keeps fun b o hb _ => ⟨o, x1 b o hb, rfl⟩) hf he (fun b o hb => x1 b o (of_hideAll _ hb)) hen hd (Array.getElem?_eq_some_iff.mp h1).1 h0 fun h' hL => ?_
 obtain ⟨k1, k2, k3, k4⟩ := hL
 refine came_back hf ⟨k1, hen, k2, hcls ▸ k3⟩ fun h2 y1 y2 => k h2 _ FG ⟨_, a0, fun b o q => hideAll_get _ (K'.stays b o q) fun hm => noS ((K'.frames.mem hm).1.symm.trans q), fun b o q nm => hideAll_get _ (of_hideAll _ q) nm, fun q hq => ⟨hideAll_get _ (N q hq).1 fun hm => frames_cons hf hm (N q hq).2.1 fun z => ?_, hideAll_none _ (List.mem_map_of_mem hq), kts_none K.stays (N q hq).2.2⟩, y1⟩ ((Heap.UpToSlots.of_keeps fun b o q => x1 b o (of_hideAll _ q)).trans (Heap.UpToSlots.trans k4 y2))
 obtain ⟨_, o, ho, _⟩ := K.frames.mem z
 exact noS ((N q hq).2.2.symm.trans ho)
theorem ground_of {h5 : Heap} {B : Heap} (hf : env.frame = some L) (K : Below A base outer g) (F : Fr g L h m) (hB : ∀ b o, h.get? b = some o → b ∉ (env :: outer).filterMap (·.frame) → B.get? b = some o) (hs : B.StaysIn h5) (u : h.UpToSlots h5) :
  ∃ g', KtsTurn (outer.filterMap (·.frame)) g g' ∧ Fr g' L h5 m ∧ Below A base outer g' :=
 kts_ground (a := 0) (name := "") (scope := env.scope) (cd := .none) K F (fun b o q nm => hB b o q fun hm => nm (frames_cons hf hm (fun z => z ▸ List.mem_cons_self) fun z => List.mem_cons_of_mem _ z)) hs u
end
section
variable {G : Pg} {c : Act} {CL : List (Str × Nat)} {ρ : Loc} {m m' : Str → Option Value} {s s' : Shared} {news news' : Led} {al al' : Al} {st st' : Sto}
theorem fenv_frame : c.fenv.frame = some c.L := rfl
theorem St.fly {C : Addr} {v : Value} (hc : c.Ok G) (S : St G c CL ρ m s news al st) {h : Heap} (F : Fr S.gr c.L h m) {g' : Heap} (T : KtsTurn (c.L :: c.fs) h g') {e : Addr} (hv : v = .ref e) (R : RaisedSN c.base g' (c.fenv :: c.outer) e (.ref C) news' s'.heap) (u : g'.UpToSlots s'.heap) (H : HR (G.K c.w.params) G.prog c.w news' al' st') :
  c.fly m C v s' news' al' st' := by
 obtain ⟨g2, T2, F2, _⟩ := ground_of (env := c.fenv) (B := g') fenv_frame (S.B hc) F (fun b o q nm => T.other b o q nm) (fun _ _ q => q) fun b o q _ => T.up q
 exact hc.fl.mpr (hv ▸ .mk (S.T.trans T2) F2 u R H)
theorem ErrS.noted {α : Type} {r : Except Addr α × Sto} {A : Around} {M : Model} {E : Value → Shared → Prop} (hc : c.Ok G) (hA : A.frames = some (c.fenv :: c.outer)) (hE : ErrS c E s news al r) : ErrS c (notedBy M A c.fenv (cameBackBy M A c.fenv E)) s news al r := by
 intro C st' hr m e s' n' a' hf X Gs
 have go : ∀ {e1 : Addr} {h g : Heap} {h' : Heap}, KtsTurn c.fs c.h₀ g → Fr g c.L h m → h.UpToSlots h' → RaisedHN c.base h (c.fenv :: c.outer) c.L e1 (.ref C) n' h' → HR (G.K c.w.params) G.prog c.w n' a' st' → E (.ref e1) { s' with heap := h' } := fun T F u R H =>
  hE C st' hr m _ _ n' a' (.inr (.inr (hc.fh.mpr (.mk T F u R H)))) X (Same.trans Gs ⟨rfl, rfl⟩)
 rcases hf with hf | hf | hf
 ·cases hc.fl.mp hf with | mk T F u R H => exact noted_on fenv_frame hA R u fun h' R' u' => go T F u' R' H
 ·cases hc.fn.mp hf with | mk T F N hx H => exact noted_new fenv_frame hc.hk hA (below_turn hc.B T) F N hx fun h' _ F' R' u' => go T F' u' R' H
 ·cases hc.fh.mp hf with | mk T F u R H => exact noted_held fenv_frame R u fun h' R' u' => go T F u' R' H
theorem St.back (hc : c.Ok G) (S : St G c CL ρ m s news al st) {h : Heap} (F : Fr S.gr c.L h m) {g' : Heap} (T : KtsTurn (c.L :: c.fs) h g') {L' : Addr} (F' : Fr g' L' s'.heap m') (N' : News g' L' s'.heap news') (X : Ext news al news' al') (H : HR (G.K c.w.params) G.prog c.w news' al' st') :
  St G c CL ρ m s' news' al' st' := by
 obtain ⟨g2, T2, F2, _⟩ := ground_of (env := c.fenv) (B := g') fenv_frame (S.B hc) F (fun b o q nm => T.other b o q nm) F'.keep fun b o q _ => let ⟨sl, z⟩ := T.up q; ⟨sl, F'.keep _ _ z⟩
 refine S.extg X ⟨g2, S.T.trans T2, F2, fun p hp => ⟨(N' p hp).1, fun z => ?_, ?_⟩⟩ H
 ·obtain ⟨oL, _, _, hL, _⟩ := F.ns
  obtain ⟨_, z2⟩ := T.up hL
  exact noS ((N' p hp).2.2.symm.trans (z ▸ z2))
 ·cases q : g2.get? p.1 with
  | none => rfl
  | some o =>
   cases q1 : S.gr.get? p.1 with
   | none => exact noS ((T2.none_ _ q1).symm.trans q)
   | some o1 =>
    obtain ⟨_, z2⟩ := T.up (F.keep _ _ q1)
    exact noS ((N' p hp).2.2.symm.trans z2)
end
noncomputable def noErr {α : Type} (m : M α) : M α := fun st => match m st with
 | some (.ok a, st') => some (.ok a, st')
 | _ => none
theorem noErr_go {α β : Type} {m : M α} {g : α → M β} {st : Sto} {r : Except Addr β × Sto} {P : Prop} (e : M.bind (noErr m) g st = some r) (k : ∀ a st1, m st = some (.ok a, st1) → g a st1 = some r → P) : P := by
 unfold M.bind noErr at e
 cases h : m st with
 | none => rw [h] at e; exact noS e
 | some p =>
  obtain ⟨r1, st1⟩ := p
  rw [h] at e
  cases r1 with
  | ok a => exact k a st1 h e
  | error C => exact noS e
theorem noErr_ok {α : Type} {m : M α} {st : Sto} {r : Except Addr α × Sto} {P : Prop} (e : noErr m st = some r) (k : ∀ a st1, m st = some (.ok a, st1) → (.ok a, st1) = r → P) : P := by
 unfold noErr at e
 cases h : m st with
 | none => rw [h] at e; exact noS e
 | some p =>
  obtain ⟨r1, st1⟩ := p
  rw [h] at e
  cases r1 with
  | ok a => exact k a st1 h (sInj e)
  | error C => exact noS e
noncomputable def whileM (mt : Loc → M Bool) (mb : Loc → M (Fl × Loc)) : Nat → Loc → M (Fl × Loc)
 | 0, _ => stop
 | n + 1, ρ => M.bind (noErr (mt ρ)) fun b => iteM b (M.bind (noErr (mb ρ)) fun p => match p.1 with
   | .next | .cont => whileM mt mb n p.2
   | .brk => M.pure (.next, p.2)
   | .ret y => M.pure (.ret y, p.2)) (M.pure (.next, ρ))
inductive It where
 | lst (k : Nat)
 | tup (l : List V)
 | rng (a n c : Int)
 | dk (k : Nat)
def itM (it : It) (i : Nat) (st : Sto) : Option (Option V) := match it with
 | .lst k => (lstAt st k).map fun l => l[i]?
 | .tup l => some l[i]?
 | .rng a n c => some (if (i : Int) < n then some (.int (a + i * c)) else none)
 | .dk _ => some none
noncomputable def itO (k : Nat) : O → Option It
 | .list _ => some (.lst k)
 | .sdict l => if l.isEmpty then some (.dk k) else none
 | _ => none
def itOf (y : V) (st : Sto) : Option It := match y with
 | .hnd k => st[k]?.bind (itO k)
 | .tup l => some (.tup l)
 | .rng a b c => if Builtin.Range.small a b c then some (.rng a (Builtin.Range.rangeSize a b c) c) else none
 | _ => none
noncomputable def forM (asg : V → Loc → M Loc) (mb : Loc → M (Fl × Loc)) (it : It) : Nat → Nat → Loc → M (Fl × Loc)
 | 0, _, _ => stop
 | n + 1, i, ρ => M.bind (still fun st => itM it i st) fun o => match o with
  | none => M.pure (.next, ρ)
  | some y => M.bind (noErr (asg y ρ)) fun ρ1 => M.bind (mb ρ1) fun p => match p.1 with
   | .next | .cont => forM asg mb it n (i + 1) p.2
   | .brk => M.pure (.next, p.2)
   | .ret y => M.pure (.ret y, p.2)
section
variable {G : Pg} {c : Act} {k : Nat} {q : Bool} {CL : List (Str × Nat)} {ρ : Loc} {m : Str → Option Value} {s s' : Shared} {news news' : Led} {al al' : Al} {st st' : Sto} {A : Around} {E : Value → Shared → Prop} {pos : Pos}
inductive WhI (G : Pg) (c : Act) (CL : List (Str × Nat)) (r : Except Addr (Fl × Loc) × Sto) (F : Nat → Loc → M (Fl × Loc)) (s : Shared) (news : Led) (al : Al) (i : Nat) (s1 : Shared) : Prop where
 | mk {ρ1 : Loc} {st1 : Sto} {m1 : Str → Option Value} {n1 : Led} {a1 : Al} : F i ρ1 st1 = some r → St G c CL ρ1 m1 s1 n1 a1 st1 → Ext news al n1 a1 → Same s s1 → WhI G c CL r F s news al i s1
theorem SoundS.while {t : Expr} {b : List Stmt} {n : Nat} {mt : Loc → M Bool} {mb : Loc → M (Fl × Loc)} (ht : ∀ ρ, Sound G c k q CL ρ relB (isTrue t c.env (eval t c.env)) (mt ρ)) (hb : SoundS G c k q CL (execs b c.env) mb) :
  SoundS G c k q CL (exec (.While t b [] pos) c.env) (whileM mt mb n) := by
 intro ρ st r e1 A s m news al Q E hA S hE hQ
 refine wpAny_While (codeAny_whileLoop (WhI G c CL r (whileM mt mb) s news al) (fun i s1 h => ?_) n (.mk e1 S Ext.refl .refl))
 cases h with | mk e2 S1 X1 G1 =>
 cases i with
 | zero => exact noS e2
 | succ i =>
  refine noErr_go e2 fun b' st2 e3 e4 => (ht _).ok e3 hA S1 fun v s2 n2 a2 S2 X2 R2 G2 => ?_
  rw [show v = b' from R2]
  cases b' with
  | false => exact wpAny_execs_nil (hQ _ _ _ (sInj e4).symm _ s2 _ n2 a2 S2 (X1.trans S.H X2) .next (G1.trans G2))
  | true =>
   refine noErr_go e4 fun p st3 e5 e6 => hb.ok e5 hA S2 fun f s3 m3 n3 a3 S3 X3 R3 G3 => ?_
   have X : Ext news al n3 a3 := X1.trans S.H (X2.trans S1.H X3)
   have Gs := G1.trans (G2.trans G3)
   obtain ⟨fl, ρ3⟩ := p
   cases R3 with
   | next => exact ⟨i, Nat.lt_succ_self _, .mk e6 S3 X Gs⟩
   | cont => exact ⟨i, Nat.lt_succ_self _, .mk e6 S3 X Gs⟩
   | brk => exact hQ _ _ _ (sInj e6).symm _ s3 m3 n3 a3 S3 X .next Gs
   | ret hv => exact hQ _ _ _ (sInj e6).symm _ s3 m3 n3 a3 S3 X (.ret hv) Gs
structure Off (c : Act) (I : Addr) (news : Led) : Prop where
 ne : c.L ≠ I
 old : c.h₀.get? I = none
 out : I ∉ news.map (·.1)
theorem Off.oldg {I : Addr} (O : Off c I news') (S : St G c CL ρ m s news al st) : S.gr.get? I = none := S.T.none_ _ O.old
theorem St.old (S : St G c CL ρ m s news al st) {I : Addr} (h : S.gr.get? I = none) : c.h₀.get? I = none := by
 cases e : c.h₀.get? I with
 | none => rfl
 | some o => obtain ⟨_, h2⟩ := S.T.up e; exact noS (h.symm.trans h2)
theorem St.off (S : St G c CL ρ m s news al st) {I : Addr} (O : Off c I news) {h' : Heap} {tk : Nat} (hk : ∀ b o, b ≠ I → s.heap.get? b = some o → h'.get? b = some o) : St G c CL ρ m { s with heap := h', toks := tk } news al st :=
 ⟨⟨_, S.T, LCg.fr_but S.F (fun b o hb => hk b o (by simpa using hb)) O.ne (O.oldg S), LCg.news_but S.N (fun b o hb => hk b o (by simpa using hb)) fun p hp e => O.out (by rw [← e]; exact List.mem_map_of_mem (f := (·.1)) hp)⟩, S.H, S.R, S.C, S.I⟩
theorem St.new_off (S : St G c CL ρ m s news al st) : Off c s.heap.objs.size news :=
 ⟨Nat.ne_of_lt S.F.ns.lt, S.old (next_is_new S.F), S.fresh⟩
inductive ItAt (K : Frag) (news : Led) (al : Al) (h : Heap) (I : Addr) (i : Nat) : It → Prop where
 | lst {k : Nat} {a : Addr} : al[k]? = some (a, none) → h.IsListIter I a i → ItAt K news al h I i (.lst k)
 | tup {a : Addr} {l : List V} : VR K news al (.ref a) (.tup l) → h.IsTupleIter I a i → ItAt K news al h I i (.tup l)
 | rng {a n c : Int} : IsRangeIter h I (a + (i : Int) * c) (n - i) c → ItAt K news al h I i (.rng a n c)
 | dk {prog : Program} {w : World} {k : Nat} {a : Addr} {ep : Nat} : h.IsKeyIter I a 0 0 ep → h.DictAt (strKind prog w) a [] ep → ItAt K news al h I i (.dk k)
theorem ItAt.obj {K : Frag} {h : Heap} {I : Addr} {i : Nat} {it : It} (x : ItAt K news al h I i it) : ∃ o n vs, h.get? I = some o ∧ o.cls = .type n ∧ o.data = .fields vs ∧ n ∈ ["list_iterator", "tuple_iterator", "range_iterator", "dict_keyiterator"] ∧ ∀ x t, vs[1]? ≠ some (.str x t) := by
 cases x with
 | lst _ h => obtain ⟨o, h1, h2, h3⟩ := h; exact ⟨o, _, _, h1, h2, h3, by decide, nofun⟩
 | tup _ h => obtain ⟨o, h1, h2, h3⟩ := h; exact ⟨o, _, _, h1, h2, h3, by decide, nofun⟩
 | rng h => exact ⟨_, _, _, h, rfl, rfl, by decide, nofun⟩
 | dk h _ => obtain ⟨o, h1, h2, h3⟩ := h; exact ⟨o, _, _, h1, h2, h3, by decide, nofun⟩
theorem ItAt.there {K : Frag} {h : Heap} {I : Addr} {i : Nat} {it : It} (x : ItAt K news al h I i it) : ∃ o, h.get? I = some o ∧ ¬ Free o := by
 obtain ⟨o, n, vs, h1, h2, h3, h4, h5⟩ := x.obj
 have hn : n ≠ "tuple" ∧ n ≠ "range" := (show ∀ n ∈ ["list_iterator", "tuple_iterator", "range_iterator", "dict_keyiterator"], n ≠ "tuple" ∧ n ≠ "range" by decide) n h4
 exact ⟨o, h1, nf_of (h2 ▸ ty_ne hn.1) fun vs' e => ⟨h2 ▸ ty_ne hn.2, Data.fields.inj (h3.symm.trans e) ▸ h5⟩⟩
theorem ItAt.keep {K : Frag} {h h' : Heap} {I : Addr} {i : Nat} {it : It} (x : ItAt K news al h I i it) (X : Kp news al news' al') (e : h'.get? I = h.get? I) (hd : ∀ k, it = .dk k → ∀ b o, h.get? b = some o → h'.get? b = some o) : ItAt K news' al' h' I i it := by
 cases x with
 | lst h1 h2 => obtain ⟨o, g1, g2⟩ := h2; exact .lst (X.at h1) ⟨o, e.trans g1, g2⟩
 | tup h1 h2 => obtain ⟨o, g1, g2⟩ := h2; exact .tup (h1.kp X) ⟨o, e.trans g1, g2⟩
 | rng h1 => exact .rng (e.trans h1)
 | dk h1 h2 => obtain ⟨o, g1, g2⟩ := h1; exact .dk ⟨o, e.trans g1, g2⟩ (h2.keep (hd _ rfl))
theorem dictAt_any {prog prog' : Program} {w w' : World} {h : Heap} {a : Addr} {ep : Nat} (x : h.DictAt (strKind prog w) a [] ep) : h.DictAt (strKind prog' w') a [] ep := by
 obtain ⟨o, es, h1, h2, h3, _, h5, _⟩ := x
 have : es = #[] := by
  cases es with | mk l => cases h5; rfl
 subst this
 exact ⟨o, #[], h1, h2, h3, fun e he => by simp at he, .nil, List.nodup_nil⟩
set_option tactic.hygienic true in
theorem next_sound (hc : c.Ok G) (hh : A.handled = none) (S : St G c CL ρ m s news al st) {I : Addr} {i : Nat} {it : It} {o : Option V} {Q : Option Value → Shared → Prop} (O : Off c I news) (x : ItAt (G.K c.w.params) news al s.heap I i it) (e : itM it i st = some o)
  (h1 : ∀ y, o = some y → ∀ v s', St G c CL ρ m s' news al st → ItAt (G.K c.w.params) news al s'.heap I (i + 1) it → VR (G.K c.w.params) news al v y → Same s s' → (∀ b o, b ≠ I → s.heap.get? b = some o → s'.heap.get? b = some o) → Q (some v) s')
  (h0 : o = none → ∀ s', St G c CL ρ m s' news al st → Same s s' → (∀ b o, b ≠ I → s.heap.get? b = some o → s'.heap.get? b = some o) → Q none s') : wpAny (model G.prog c.w) A (pyNext (.ref I)) Q E s := by
 have H0 : o = none → ∀ h' tk, (∀ b o, b ≠ I → s.heap.get? b = some o → h'.get? b = some o) → Q none { s with heap := h', toks := tk } := fun ho h' tk hs => h0 ho _ (S.off O hs) ⟨rfl, rfl⟩ hs
 have H1 : ∀ y, o = some y → ∀ v h' tk, (∀ b, b ≠ I → h'.get? b = s.heap.get? b) → ItAt (G.K c.w.params) news al h' I (i + 1) it → VR (G.K c.w.params) news al v y → Q (some v) { s with heap := h', toks := tk } := fun y ho v h' tk hs x r =>
  have k : ∀ b o, b ≠ I → s.heap.get? b = some o → h'.get? b = some o := fun b o hb e => (hs b hb).trans e
  h1 y ho v _ (S.off O k) x r ⟨rfl, rfl⟩ k
 cases x with
 | lst g1 g2 =>
  obtain ⟨l, hk, e⟩ := Option.map_eq_some_iff.mp e
  obtain ⟨vs, n, _, hm, hl, r1⟩ := S.list (.hnd g1) (lstAt_of hk)
  cases o with
  | some y =>
   obtain ⟨v, e1, e2⟩ := r1.get e
   exact wpAny_pyNext_list_item g2 hl (List.getElem?_toArray.trans e1) fun h' hi hs => H1 y rfl v _ s.toks hs.2 (.lst g1 hi) e2
  | none => exact wpAny_pyNext_list_end hh g2 hl (List.getElem?_toArray.trans (List.getElem?_eq_none_iff.mpr (r1.length.symm ▸ List.getElem?_eq_none_iff.mp e))) fun h' hs => H0 rfl _ s.toks hs
 | tup g1 g2 =>
  have e := sInj e
  obtain ⟨vs, t1, r1⟩ := S.tup hc g1
  cases o with
  | some y =>
   obtain ⟨v, e1, e2⟩ := r1.get e
   exact wpAny_pyNext_tuple_item g2 t1 (List.getElem?_toArray.trans e1) fun h' hi hs => H1 y rfl v _ s.toks hs.2 (.tup g1 hi) e2
  | none => exact wpAny_pyNext_tuple_end hh g2 t1 (List.getElem?_toArray.trans (List.getElem?_eq_none_iff.mpr (r1.length.symm ▸ List.getElem?_eq_none_iff.mp e))) fun h' hs => H0 rfl _ s.toks hs
 | rng g1 =>
  rename_i a n c'
  have e := sInj e
  by_cases hlt : (i : Int) < n
  ·rw [if_pos hlt] at e
   refine wpAny_pyNext_range_item g1 (by lia) fun h' hi hs => H1 _ e.symm _ _ (s.toks + 1) hs.2 (.rng ?_) .int
   have e1 : a + (i : Int) * c' + c' = a + ((i + 1 : Nat) : Int) * c' := by
    rw [Int.natCast_succ, Int.add_mul, Int.one_mul, Int.add_assoc]
   have e2 : n - (i : Int) - 1 = n - ((i + 1 : Nat) : Int) := by lia
   rw [← e1, ← e2]; exact hi
  ·rw [if_neg hlt] at e
   exact wpAny_pyNext_range_end hh g1 (by lia) fun h' hs => H0 e.symm _ s.toks hs
 | dk g1 g2 => exact wpAny_pyNext_dict_end (knd := strKind G.prog c.w) (kvs := ([] : List (Str × Value))) hh g1 (dictAt_any g2) rfl fun h' hs => H0 (sInj e).symm _ s.toks hs
theorem iter_sound (hc : c.Ok G) (S : St G c CL ρ m s news al st) {v : Value} {y : V} {it : It} {Q : Value → Shared → Prop} (h : VR (G.K c.w.params) news al v y) (e : itOf y st = some it)
  (hQ : ∀ I s', St G c CL ρ m s' news al st → Off c I news → ItAt (G.K c.w.params) news al s'.heap I 0 it → Same s s' → Q (.ref I) s') : wpAny (model G.prog c.w) A (pyIter v) Q E s := by
 have P : ∀ o, ItAt (G.K c.w.params) news al (s.heap.push o) s.heap.objs.size 0 it → Q (.ref s.heap.objs.size) { s with heap := s.heap.push o } := fun o x => hQ _ _ (S.off S.new_off (tk := s.toks) fun b o hb e => Heap.get?_push_of_some _ e) S.new_off x ⟨rfl, rfl⟩
 cases y with
 | hnd k =>
  refine bindE e fun o hk e => ?_
  cases o with
  | list l =>
   obtain ⟨a, e0, _⟩ := h.inv
   rw [e0] at h ⊢
   obtain ⟨vs, n, hal, hm, hl, r1⟩ := S.list h hk
   exact wpAny_pyIter_list hl (P _ (sInj e ▸ .lst hal ⟨_, Heap.get?_push_size _ rfl, rfl, rfl⟩))
  | sdict l =>
   refine iteS e fun h0 e => ?_
   have h0 := List.isEmpty_iff.mp h0
   subst h0
   obtain ⟨a, o, kvs, e0, hal, hm, hd, hn, hD, hp⟩ := S.sdict h hk
   have hk0 : kvs = [] := List.length_eq_zero_iff.mp hp.length
   subst hk0
   obtain ⟨ep, hDA⟩ := hD.dictAt
   exact e0 ▸ wpAny_pyIter_dict hn hDA (P _ (sInj e ▸ .dk ⟨_, Heap.get?_push_size _ rfl, rfl, rfl⟩ (hDA.push _)))
  | _ => exact noS e
 | tup l =>
  obtain ⟨a, e0⟩ := h.inv
  rw [e0] at h ⊢
  obtain ⟨vs, t1, r1⟩ := S.tup hc h
  exact wpAny_pyIter_tuple t1 (P _ (sInj e ▸ .tup h ⟨_, Heap.get?_push_size _ rfl, rfl, rfl⟩))
 | rng x y z =>
  refine iteS e fun hs e => ?_
  obtain ⟨_, _, _, _, e0, hm⟩ := h.inv
  rw [e0]
  refine wpAny_pyIter_range (S.N.get hm) hs (P _ (sInj e ▸ .rng ?_))
  rw [Int.natCast_zero, Int.zero_mul, Int.add_zero, Int.sub_zero]
  exact Heap.get?_push_size _ rfl
 | _ => exact noS e
theorem St.with (S : St G c CL ρ m s news al st) {I : Addr} (O : Off c I news) {o : Obj} (ho : s.heap.get? I = some o) : St G c CL ρ m s ((I, o) :: news) al st := by
 refine S.ext Ext.free S.F (fun p hp => ?_) (S.H.free O.out)
 rcases List.mem_cons.mp hp with rfl | hp
 ·exact ⟨ho, Ne.symm O.ne, O.oldg S⟩
 ·exact S.N p hp
theorem St.without {c0 : Act} {CL0 : List (Str × Nat)} {ρ0 : Loc} {m0 : Str → Option Value} {s0 : Shared} {st0 : Sto} (S : St G c0 CL0 ρ0 m0 s0 news al st0) {I : Addr} {o : Obj} (O : Off c0 I news) (hf : ¬ Free o) (hw : c0.w = c.w) {h' g : Heap} (H0 : HR (G.K c.w.params) G.prog c.w news' al' st) (N0 : News g c.L h' news') (X : Ext ((I, o) :: news) al news' al') :
  News g c.L h' (dropLed I news') ∧ HR (G.K c.w.params) G.prog c.w (dropLed I news') al' st ∧ Ext news al (dropLed I news') al' ∧ Kp news' al' (dropLed I news') al' ∧ I ∉ (dropLed I news').map (·.1) ∧ h'.get? I = some o := by
 have hIal : I ∉ flat al := fun q => O.out (S.H.own_dom q)
 have hIm : (I, o) ∈ news' := X.keep _ (.head _) hIal
 have hIal' : I ∉ flat al' := fun q => by
  obtain ⟨β, e, hβ⟩ := X.more
  rw [e, flat_append] at q
  rcases List.mem_append.mp q with q | q
  ·exact hIal q
  ·exact hβ _ q (by simp)
 obtain ⟨H', K'⟩ := H0.drop hIal' fun o' ho' => by rw [nodup_eq H0.nd ho' hIm]; exact hf
 have X' : Ext news al (dropLed I news') al' := by
  refine ⟨?_, fun p hp hn => ?_, fun a ha => ?_⟩
  ·obtain ⟨β, e, hβ⟩ := X.more
   exact ⟨β, e, fun a ha q => hβ a ha (by rw [List.map_cons]; exact List.mem_cons_of_mem _ q)⟩
  ·exact mem_dropLed.mpr ⟨X.keep _ (.tail _ hp) hn, fun e => O.out (by rw [← e]; exact List.mem_map_of_mem (f := (·.1)) hp)⟩
  ·have := X.dom a (by simp only [List.map_cons, List.mem_cons]; exact .inr ha)
   obtain ⟨p, hp, e⟩ := List.mem_map.mp this
   exact List.mem_map.mpr ⟨p, mem_dropLed.mpr ⟨hp, fun e2 => O.out (by rw [← e2, e]; exact ha)⟩, e⟩
 refine ⟨fun p hp => N0 p (mem_dropLed.mp hp).1, H', X', K', fun q => ?_, N0.get hIm⟩
 obtain ⟨p, hp, e⟩ := List.mem_map.mp q
 exact (mem_dropLed.mp hp).2 e
def Back (G : Pg) (c : Act) (news : Led) (al : Al) (os : Led) : Prop := ∀ {h' g : Heap} {news' : Led} {al' : Al} {st : Sto}, HR (G.K c.w.params) G.prog c.w news' al' st → News g c.L h' news' → Ext (os ++ news) al news' al' → ∀ {P : Prop},
 (∀ n8, News g c.L h' n8 → HR (G.K c.w.params) G.prog c.w n8 al' st → Ext news al n8 al' → Kp news' al' n8 al' → (∀ p ∈ os, p.1 ∉ n8.map (·.1) ∧ h'.get? p.1 = some p.2) → (∀ X, X ∉ news'.map (·.1) → X ∉ n8.map (·.1)) → P) → P
theorem Back.nil : Back G c news al [] := fun H N X _ k => k _ N H X ⟨⟨[], (List.append_nil _).symm⟩, fun _ h _ => h⟩ (fun _ h => absurd h List.not_mem_nil) fun _ h => h
theorem Back.cons {os : Led} (B : Back G c news al os) (S : St G c CL ρ m s (os ++ news) al st) {I : Addr} {o : Obj} (O : Off c I (os ++ news)) (hf : ¬ Free o) : Back G c news al ((I, o) :: os) := fun H N X _ k => by
 obtain ⟨N1, H1, X1, K1, O1, g1⟩ := S.without (c := c) O hf rfl H N X
 exact B H1 N1 X1 fun n8 N8 H8 X8 K8 D8 M8 => k n8 N8 H8 X8 ⟨K8.more, fun p hp hf => K8.keep p (K1.keep p hp hf) hf⟩ (List.forall_mem_cons.mpr ⟨⟨M8 _ O1, g1⟩, D8⟩) fun X h => M8 X fun q => h (by
  obtain ⟨p, hp, e⟩ := List.mem_map.mp q
  exact List.mem_map.mpr ⟨p, (mem_dropLed.mp hp).1, e⟩)
theorem Off.cons {X : Addr} {I : Addr} {o : Obj} (O : Off c I news) (h : I ≠ X) : Off c I ((X, o) :: news) := ⟨O.ne, O.old, fun q => (List.mem_cons.mp q).elim h O.out⟩
theorem St.weak (hp : c.comp = none) (S : St G c CL ρ m s news al st) (N : News S.gr c.L s.heap news') (H : HR (G.K c.w.params) G.prog c.w news' al st) (K : Kp news al news' al) : St G c CL ρ m s news' al st :=
 ⟨⟨_, S.T, S.F, N⟩, H, fun x y e => by
  obtain ⟨v, h1, h2⟩ := S.R x y e
  refine ⟨v, ?_, h2.kp K⟩
  unfold Act.Look at h1 ⊢
  rw [hp] at h1 ⊢
  exact h1, S.C, S.I⟩
theorem ItAt.letGo {K : Frag} {I : Addr} {i : Nat} {it : It} {tg : Expr} {v : Value} {Q : Unit → Shared → Prop} (x : ItAt K news al s.heap I i it) (h : Q () s) : wpAny (model G.prog c.w) A (letOwnedTupleGo tg (.ref I) v) Q E s := by
 obtain ⟨o, n, vs, ho, hc, hd, hn, _⟩ := x.obj
 have hn : (["enumerate", "zip", "dict_itemiterator", "dict_reverseitemiterator", "odict_iterator", "itertools.zip_longest", "itertools.pairwise"].contains n) = false :=
  (show ∀ n ∈ ["list_iterator", "tuple_iterator", "range_iterator", "dict_keyiterator"], (["enumerate", "zip", "dict_itemiterator", "dict_reverseitemiterator", "odict_iterator", "itertools.zip_longest", "itertools.pairwise"].contains n) = false by decide) n hn
 cases tg <;> first
  | exact wpAny_pure h
  | (cases v <;> first
    | exact wpAny_pure h
    | (refine wpAny_bind (wpAny_load ho ?_); rw [hc, hd]; dsimp only; rw [hn]; exact wpAny_pure h))
def SoundA (G : Pg) (c : Act) (k : Nat) (q : Bool) (CL : List (Str × Nat)) (t : Value → Sem Unit) (asg : V → Loc → M Loc) : Prop :=
 ∀ (ρ : Loc) (st : Sto) (y : V) (ρ' : Loc) (st' : Sto), asg y ρ st = some (.ok ρ', st') → ∀ (A : Around) (s : Shared) (m : Str → Option Value) (news : Led) (al : Al) (v : Value) (Q : Unit → Shared → Prop) (E : Value → Shared → Prop),
  Ar c k q A → St G c CL ρ m s news al st → VR (G.K c.w.params) news al v y →
  (∀ s' m' news' al', St G c CL ρ' m' s' news' al' st' → Ext news al news' al' → Same s s' → Q () s') → wpAny (model G.prog c.w) A (t v) Q E s
inductive FoI (G : Pg) (c : Act) (CL : List (Str × Nat)) (r : Except Addr (Fl × Loc) × Sto) (F : Nat → Nat → Loc → M (Fl × Loc)) (I : Addr) (it : It) (s : Shared) (news : Led) (al : Al) (j : Nat) (s3 : Shared) : Prop where
 | mk {i : Nat} {ρ3 : Loc} {st3 : Sto} {m3 : Str → Option Value} {n3 : Led} {a3 : Al} : F j i ρ3 st3 = some r → St G c CL ρ3 m3 s3 n3 a3 st3 → Ext news al n3 a3 → Off c I n3 → ItAt (G.K c.w.params) n3 a3 s3.heap I i it → Same s s3 → FoI G c CL r F I it s news al j s3
theorem SoundS.for {tg it : Expr} {b : List Stmt} {n : Nat} {asg : V → Loc → M Loc} {mi : Loc → M V} {mb : Loc → M (Fl × Loc)} (hp : c.comp = none) (hc : c.Ok G) (hq : q = true) (hset : ∀ x, foldedSetIterable it c.env x = pure x)
  (hi : ∀ ρ, Sound G c k q CL ρ relV (eval it c.env) (mi ρ)) (ha : SoundA G c k q CL (assign tg c.env) asg) (hb : SoundS G c k q CL (execs b c.env) mb) :
  SoundS G c k q CL (exec (.For tg it b [] pos) c.env) (fun ρ => M.bind (mi ρ) fun y => M.bind (still fun st => itOf y st) fun it => forM asg mb it n 0 ρ) := by
 intro ρ st r e1 A s m news al Q E hA S hE hQ
 have hen : c.env = c.fenv := by unfold Act.env; rw [hp]
 refine wpAny_For ((hi ρ).goS e1 hA S hE fun y st1 e2 v s1 n1 a1 S1 X1 R1 G1 => still_go e2 fun itv e3 e4 => ?_) hset
 refine iter_sound hc S1 R1 e3 fun I s2 S2 O2 I2 G2 => ?_
 refine codeAny_forLoop_any (FoI G c CL r (forM asg mb itv) I itv s n1 a1) (fun j s3 h => ?_) n (.mk e4 S2 Ext.refl O2 I2 (G1.trans G2))
 cases h with | mk e5 S3 X3 O3 I3 G3 =>
 cases j with
 | zero => exact noS e5
 | succ j =>
  refine still_go e5 fun o e6 e7 => next_sound hc (hA.hd hq) S3 O3 I3 e6 (fun y' ho v s4 S4 I4 R4 G4 _ => ?_) fun ho s4 S4 G4 _ => ?_
  ·rw [ho] at e7
   refine noErr_go e7 fun ρ5 st5 e8 e9 => ?_
   obtain ⟨oI, hoI, hfI⟩ := I4.there
   refine I4.letGo ?_
   have S4' := S4.with O3 hoI
   refine ha _ _ y' ρ5 st5 e8 A s4 _ _ _ v _ _ hA S4' (R4.ext S4.H Ext.free) fun s5 m5 n5 a5 S5 X5 G5 => ?_
   refine M.elim e9 (fun p st6 e10 e11 => ?_) fun C st6 e10 e11 => hb _ _ _ e10 A s5 _ _ _ _ _ hA S5 (hen ▸ ErrS.noted hc hA.fr (e11 ▸ hE.step S ((X1.trans S.H X3).trans S.H ((Ext.free (a := I) (o := oI)).trans S4.H X5)) (G3.trans (G4.trans G5)))) nofun
   refine hb.ok e10 hA S5 fun f s6 m6 n6 a6 S6 X6 R6 G6 => ?_
   obtain ⟨N7, H7, X7, K7, O7, g7⟩ := S4.without O3 hfI rfl S6.H S6.N (X5.trans S4'.H X6)
   have S7 := S6.weak hp N7 H7 K7
   have X17 := X3.trans S1.H X7
   have Gs := G3.trans (G4.trans (G5.trans G6))
   have go : forM asg mb itv j _ p.2 st6 = some r → ∃ j', j' < j + 1 ∧ FoI G c CL r (forM asg mb itv) I itv s n1 a1 j' s6 := fun e => ⟨j, Nat.lt_succ_self _, .mk e S7 X17 ⟨O3.ne, O3.old, O7⟩ (I4.keep (X7.kp S4.H) (g7.trans hoI.symm) (fun k z => by rw [z] at e6; rw [ho] at e6; exact noS (sInj e6))) Gs⟩
   have stop := fun fl (e : some (Except.ok (fl, p.2), st6) = some r) f (R : FlR (G.K c.w.params) (dropLed I n6) a6 f fl) => hQ fl _ _ (sInj e).symm f s6 m6 _ a6 S7 (X1.trans S.H X17) R Gs
   obtain ⟨fl, ρ6⟩ := p
   cases R6 with
   | next => exact go e11
   | cont => exact go e11
   | brk => exact stop _ e11 _ .next
   | ret hv => exact stop _ e11 _ (.ret (hv.kp K7))
  ·rw [ho] at e7
   exact wpAny_execs_nil (hQ _ _ _ (sInj e7).symm _ s4 _ _ _ S4 (X1.trans S.H X3) .next (G3.trans G4))
theorem SoundA.name (hc : c.Ok G) (hp : c.comp = none) {x : Str} {p : Pos} : SoundA G c k q CL (assign (.Name x p) c.env) (fun y ρ => storeM c.cs CL x y ρ) := by
 intro ρ st y ρ' st' e A s m news al v Q E hA S h hQ
 exact wpAny_assign_Name (storeM_sound hc hp S h e fun s' m' news' S' X' G' => hQ s' m' news' al S' X' G')
noncomputable def storesM (sc : Scope) (CL : List (Str × Nat)) : List Str → List V → Loc → M Loc
 | [], [], ρ => M.pure ρ
 | x :: xs, y :: ys, ρ => M.bind (storeM sc CL x y ρ) fun ρ' => storesM sc CL xs ys ρ'
 | _, _, _ => stop
noncomputable def nameOf : Expr → Option Str
 | .Name x _ => some x
 | _ => none
noncomputable def namesOf : List Expr → Option (List Str)
 | [] => some []
 | e :: r => (nameOf e).bind fun x => (namesOf r).map (x :: ·)
theorem nameOf_of {e : Expr} {x : Str} (h : nameOf e = some x) : ∃ p, e = .Name x p := by
 cases e <;> first | exact noS h | exact ⟨_, congrArg (Expr.Name · _) (sInj h)⟩
theorem names_each {env : Env} {es : List Expr} : ∀ {xs : List Str}, namesOf es = some xs → (assignEach es env).length = xs.length ∧ (assignEach es env).findIdx? (·.1) = none := by
 induction es with
 | nil => exact fun e => sInj e ▸ ⟨rfl, rfl⟩
 | cons e0 r ih =>
  refine fun e => bindE e fun x h1 e => mapE e fun ys e1 e2 => ?_
  obtain ⟨p, h3⟩ := nameOf_of h1
  obtain ⟨i1, i2⟩ := ih e1
  rw [h3, ← e2]
  refine ⟨congrArg (· + 1) i1, ?_⟩
  show ((false, assign (.Name x p) env) :: assignEach r env).findIdx? (·.1) = none
  rw [List.findIdx?_cons, i2]; rfl
theorem storesM_ok {sc : Scope} : ∀ {xs : List Str} {ys : List V} {ρ : Loc} {st : Sto} {r : Except Addr Loc × Sto}, storesM sc CL xs ys ρ st = some r → ∃ ρ' st', r = (.ok ρ', st')
 | [], [], _, _, _, e => ⟨_, _, (sInj e).symm⟩
 | x :: xs, y :: ys, ρ, st, r, e => store_go (g := fun ρ' => storesM sc CL xs ys ρ') e fun ρ1 st1 e1 e2 => storesM_ok e2
 | [], _ :: _, _, _, _, e => noS e
 | _ :: _, [], _, _, _, e => noS e
theorem stores_sound (hc : c.Ok G) (hp : c.comp = none) {es : List Expr} : ∀ {xs : List Str} {vs : List Value} {ys : List V} {ρ : Loc} {m : Str → Option Value} {s : Shared} {news : Led} {st : Sto} {ρ' : Loc} {Q : Unit → Shared → Prop},
  namesOf es = some xs → St G c CL ρ m s news al st → VRs (G.K c.w.params) news al vs ys → storesM c.cs CL xs ys ρ st = some (.ok ρ', st') →
  (∀ s' m' news', St G c CL ρ' m' s' news' al st' → Ext news al news' al → Same s s' → Q () s') → wpAny (model G.prog c.w) A (assignInOrder ((assignEach es c.env).map (·.2)) vs) Q E s := by
 induction es with
 | nil =>
  intro xs vs ys ρ m s news st ρ' Q e S h e1 hQ
  rw [← sInj e] at e1
  cases ys with
  | nil =>
   obtain ⟨z1, z2⟩ := Prod.mk.inj (sInj e1)
   rw [show vs = [] from h.inv]
   exact wpAny_pure (hQ s m news (z2 ▸ Except.ok.inj z1 ▸ S) Ext.refl .refl)
  | cons _ _ => exact noS e1
 | cons e0 r ih =>
  intro xs vs ys ρ m s news st ρ' Q e S h e1 hQ
  refine bindE e fun x h1 e => mapE e fun zs e2 e3 => ?_
  obtain ⟨p, h3⟩ := nameOf_of h1
  rw [← e3] at e1
  cases ys with
  | nil => exact noS e1
  | cons y ys =>
   obtain ⟨v, ws, e4, h1, h2⟩ := h.inv
   rw [h3, e4]
   refine store_go (g := fun ρ' => storesM c.cs CL zs ys ρ') e1 fun ρ1 st1 e5 e6 => ?_
   show wpAny _ _ (do holding _ (assign (.Name x p) c.env _); assignInOrder ((assignEach r c.env).map (·.2)) _) _ _ _
   refine wpAny_bind (wpAny_holding (wpAny_assign_Name (storeM_sound hc hp S h1 e5 fun s2 m2 n2 S2 X2 G2 => ?_)))
   exact ih e2 S2 (h2.ext S.H X2) e6 fun s3 m3 n3 S3 X3 G3 => hQ s3 m3 n3 S3 (X2.trans S.H X3) (G2.trans G3)
def unpackM (sc : Scope) (CL : List (Str × Nat)) (xs : List Str) (y : V) (ρ : Loc) : M Loc := fun st => y.tup?.bind fun l => if l.length = xs.length then storesM sc CL xs l ρ st else none
theorem SoundA.tup (hc : c.Ok G) (hp : c.comp = none) (hq : q = true) {es : List Expr} {xs : List Str} {n : Nat} {p : Pos} (hn : namesOf es = some xs) : SoundA G c k q CL (assign (.Tuple es n p) c.env) (fun y ρ => unpackM c.cs CL xs y ρ) := by
 intro ρ st y ρ' st' e A s m news al v Q E hA S h hQ
 refine bindE e fun l e1 e => iteS e fun hl e => ?_
 obtain ⟨a, e0, h⟩ := h.vtup e1
 rw [e0]
 obtain ⟨vs, t1, r1⟩ := S.tup hc h
 obtain ⟨g1, g2⟩ := names_each (env := c.env) hn
 refine unpackN_ S.F S.N t1 (hA.hd hq) (g1.trans (hl.symm.trans r1.length.symm)) g2 fun h' F N => ?_
 exact stores_sound hc hp hn (s := { s with heap := h' }) (S.ext Ext.refl F N S.H) r1 e fun s' m' n' S' X' G' => hQ s' m' n' al S' X' G'
end
noncomputable def clos {α : Type} (cells : List (Str × α)) : List (Str × NameKind) → List (Str × α) → Option (List (Str × α))
 | [], acc => some acc
 | (n, kd) :: r, acc => if kd == .free then (cells.lookup n).bind fun a => clos cells r ((n, a) :: acc) else clos cells r acc
theorem clos_for {env : Env} {names : List (Str × NameKind)} : ∀ {acc cl : List (Str × Addr)}, clos env.cells names acc = some cl →
  (forIn names acc fun (x : Str × NameKind) (cs : List (Str × Addr)) => (if x.2 == .free then do let a ← cellOf env x.1; pure (ForInStep.yield ((x.1, a) :: cs)) else pure (ForInStep.yield cs) : Sem (ForInStep (List (Str × Addr))))) = pure cl := by
 induction names with
 | nil => exact fun e => sInj e ▸ rfl
 | cons p r ih =>
  intro acc cl e
  rw [List.forIn_cons]
  refine iteE e (fun hk e => bindE e fun a hl e => ?_) fun hk e => ?_
  ·have h1 : cellOf env p.1 = pure a := by unfold cellOf; rw [hl]
   rw [if_pos hk, h1]
   exact ih e
  ·rw [if_neg hk]
   exact ih e
theorem closureFor_of {scope : Scope} {env : Env} {cl : List (Str × Addr)} (h : clos env.cells scope.names [] = some cl) : closureFor scope env = pure cl := by
 unfold closureFor
 have := clos_for h
 simp only at this ⊢
 rw [this]; rfl
theorem clos_rel {al : Al} {cl : List (Str × Addr)} {CL : List (Str × Nat)} (hC : ∀ x k, CL.lookup x = some k → ∃ a, cl.lookup x = some a ∧ al[k]? = some (a, none)) {names : List (Str × NameKind)} : ∀ {acc : List (Str × Addr)} {accN r : List (Str × Nat)},
  (∀ x k, accN.lookup x = some k → ∃ a, acc.lookup x = some a ∧ al[k]? = some (a, none)) → clos CL names accN = some r → ∃ r', clos cl names acc = some r' ∧ ∀ x k, r.lookup x = some k → ∃ a, r'.lookup x = some a ∧ al[k]? = some (a, none) := by
 induction names with
 | nil => exact fun h e => ⟨_, rfl, sInj e ▸ h⟩
 | cons p rest ih =>
  intro acc accN r h e
  unfold clos
  refine iteE e (fun hk e => bindE e fun kk hl e => ?_) fun hk e => ?_
  ·obtain ⟨a, h1, h2⟩ := hC _ _ hl
   rw [if_pos hk, h1]
   refine ih (fun x k' hx => ?_) e
   rw [List.lookup_cons] at hx ⊢
   cases hx' : x == p.1 with
   | true => rw [hx'] at hx; exact ⟨a, rfl, sInj hx ▸ h2⟩
   | false => rw [hx'] at hx; exact h x k' hx
  ·rw [if_neg hk]
   exact ih h e
noncomputable def testsM (f : Expr → M Bool) : List Expr → M Bool
 | [] => M.pure true
 | x :: r => M.bind (f x) fun b => iteM b (testsM f r) (M.pure false)
noncomputable def compM (x : Str) (mt : Loc → M Bool) (me : Loc → M V) (it : It) : Nat → Nat → List V → M (List V)
 | 0, _, _ => stop
 | n + 1, i, acc => M.bind (still fun st => itM it i st) fun o => match o with
  | none => M.pure acc
  | some y => M.bind (noErr (mt [(x, y)])) fun b => iteM b (M.bind (noErr (me [(x, y)])) fun z => fun st => if acc.length < sizeLine then compM x mt me it n (i + 1) (acc ++ [z]) st else none) (compM x mt me it n (i + 1) acc)
theorem compM_ok {x : Str} {mt : Loc → M Bool} {me : Loc → M V} {it : It} {n : Nat} : ∀ {i : Nat} {acc : List V} {st : Sto} {r : Except Addr (List V) × Sto}, compM x mt me it n i acc st = some r → ∃ l st', r = (.ok l, st') := by
 induction n with
 | zero => exact fun e => noS e
 | succ n ih =>
  exact fun {i acc st r} e => still_go e fun o _ e1 => by
   cases o with
   | none => exact ⟨_, _, (sInj e1).symm⟩
   | some y =>
    exact noErr_go e1 fun b st1 _ e2 => by
     cases b with
     | false => exact ih e2
     | true => exact noErr_go e2 fun z st2 _ e3 => iteS e3 fun _ e3 => ih e3
section
variable {G : Pg} {c : Act} {k : Nat} {q : Bool} {CL : List (Str × Nat)} {ρ : Loc} {m : Str → Option Value} {s s' : Shared} {news news' : Led} {al al' : Al} {st st' : Sto} {A : Around} {E : Value → Shared → Prop} {pos : Pos}
noncomputable abbrev Act.inComp (c : Act) (C : Addr) (sc : Scope) (cl : List (Str × Addr)) : Act := { c with comp := some (C, sc, cl) }
theorem inComp_ok {C : Addr} {sc : Scope} {cl : List (Str × Addr)} (hc : c.Ok G) (hk : sc.kind = .function) : (c.inComp C sc cl).Ok G :=
 ⟨hc.B, hc.hk, fun C' sc' cl' e => by cases e; exact hk, hc.X, hc.T, hc.cd, hc.fl.trans ⟨fun | .mk a b d e f => .mk a b d e f, fun | .mk a b d e f => .mk a b d e f⟩, hc.fn.trans ⟨fun | .mk a b d e f => .mk a b d e f, fun | .mk a b d e f => .mk a b d e f⟩, hc.fh.trans ⟨fun | .mk a b d e f => .mk a b d e f, fun | .mk a b d e f => .mk a b d e f⟩⟩
theorem inComp_ar {C : Addr} {sc : Scope} {cl : List (Str × Addr)} (hA : Ar c k q A) : Ar (c.inComp C sc cl) k q A := ⟨hA.fr, hA.dep, hA.un, hA.hd⟩
theorem tests_off {p : Expr → Sem Bool} (l : List Expr) : (forIn l false fun x r => if r = true then do let ok ← p x; pure (ForInStep.yield ok) else pure (ForInStep.yield r) : Sem Bool) = pure false := by
 induction l with
 | nil => rfl
 | cons y l ih =>
  rw [List.forIn_cons, if_neg Bool.false_ne_true, pure_bind]
  exact ih
theorem tests_sound {f : Expr → M Bool} {xs : List Expr} (h : ∀ x ∈ xs, Sound G c k q CL ρ relB (isTrue x c.env (eval x c.env)) (f x)) :
  Sound G c k q CL ρ relB (forIn xs true fun x r => if r = true then do let ok ← isTrue x c.env (eval x c.env); pure (ForInStep.yield ok) else pure (ForInStep.yield r)) (testsM f xs) := by
 induction xs with
 | nil =>
  intro st r e A s m news al Q E hA S hE hQ
  rw [List.forIn_nil]
  exact wpAny_pure (hQ _ _ (sInj e).symm _ s news al S Ext.refl rfl .refl)
 | cons x xs ih =>
  intro st r e A s m news al Q E hA S hE hQ
  rw [List.forIn_cons, if_pos rfl]
  refine wpAny_bind (wpAny_bind ((h x (.head _)).go e hA S hE fun z st1 e1 v1 s1 n1 a1 S1 X1 R1 G1 => wpAny_pure ?_))
  rw [show v1 = z from R1]
  cases z with
  | false =>
   show wpAny _ _ (forIn xs false _) _ _ _
   rw [tests_off]
   exact wpAny_pure (hQ _ _ (sInj e1).symm _ s1 n1 a1 S1 X1 rfl G1)
  | true => exact ih (fun y hy => h y (.tail _ hy)) st1 r e1 A s1 m n1 a1 Q E hA S1 (hE.step S X1 G1) fun y st' x v s' n' a' S' X' R' G' => hQ y st' x v s' n' a' S' (X1.trans S.H X') R' (G1.trans G')
theorem notFree_ns {o : Obj} {mm : Str → Option Value} (h : LCg.NsObj o mm) : ¬ Free o := by
 obtain ⟨es, ep, hd, _⟩ := h
 exact nf_data (hd ▸ nofun) (hd ▸ nofun)
theorem notFree_lst {its : Array Value} {n : Nat} : ¬ Free (listOf its n) := nf_of (ty_ne (by decide)) nofun
theorem comp_env {C : Addr} {sc : Scope} {cl : List (Str × Addr)} (hp : c.comp = none) : (c.inComp C sc cl).env = compEnvC sc cl C c.env := by
 show compEnvC sc cl C c.fenv = _
 congr 1
 unfold Act.env
 rw [hp]
section
variable {elt : Expr} {x : Str} {ifs : List Expr} {sc : Scope} {cl : List (Str × Addr)} {CL' : List (Str × Nat)} {mt : Loc → M Bool} {me : Loc → M V} {I C D : Addr} {it : It} {st1 : Sto} {r : List V} {P : Prop}
theorem one_at {mm : Str → Option Value} {v : Value} {y : V} {K : Frag} (hv : mm x = some v) (R : VR K news al v y) (z : Str) (w : V) (hz : [(x, y)].lookup z = some w) : ∃ v, mm z = some v ∧ VR K news al v w := by
 rw [List.lookup_cons] at hz
 cases hzx : z == x with
 | true =>
  rw [hzx] at hz
  rw [← sInj hz, eq_of_beq hzx]
  exact ⟨v, hv, R⟩
 | false => rw [hzx] at hz; exact noS hz
theorem comp_in {oI oC oD : Obj} {ρ1 : Loc} {mm : Str → Option Value} (S : St G c CL ρ m s news al st) (OI : Off c I news) (OC : Off c C news) (OD : Off c D news) (nIC : I ≠ C) (nID : I ≠ D) (nCD : C ≠ D) (eI : s.heap.get? I = some oI) (fI : ¬ Free oI) (eC : s.heap.get? C = some oC) (hN : LCg.NsObj oC mm) (eD : s.heap.get? D = some oD) (fD : ¬ Free oD)
  (hρ : ∀ z w, ρ1.lookup z = some w → ∃ v, mm z = some v ∧ VR (G.K c.w.params) news al v w) (hcl : ∀ x k, CL'.lookup x = some k → ∃ a, cl.lookup x = some a ∧ al[k]? = some (a, none))
  (f : ∀ L, St G (c.inComp C sc cl) CL' ρ1 m s L al st → (∀ {ρ7 : Loc} {s7 : Shared} {n7 : Led} {a7 : Al} {st7 : Sto}, St G (c.inComp C sc cl) CL' ρ7 m s7 n7 a7 st7 → Ext L al n7 a7 → ∀ {P : Prop}, (∀ n8, St G c CL ρ m s7 n8 a7 st7 → Ext news al n8 a7 → Kp n7 a7 n8 a7 → Off c I n8 → Off c C n8 → Off c D n8 → s7.heap.get? I = some oI → s7.heap.get? C = some oC → s7.heap.get? D = some oD → P) → P) → P) : P := by
 have T1 := S.with OD eD
 have OC1 : Off c C ((D, oD) :: news) := OC.cons nCD
 have T2 := T1.with OC1 eC
 have OI1 : Off c I ((C, oC) :: (D, oD) :: news) := (OI.cons nID).cons nIC
 have T3 := T2.with OI1 eI
 have B : Back G c news al [(I, oI), (C, oC), (D, oD)] := Back.cons (Back.cons (Back.cons Back.nil S OD fD) T1 OC1 (notFree_ns hN)) T2 OI1 fI
 refine f _ ⟨T3.gd, T3.H, fun z w hz => ?_, hcl, T3.I⟩ fun {ρ7 s7 n7 a7 st7} S7 X7 P g => B S7.H S7.N X7 fun n8 N8 H8 X8 K8 D8 _ => ?_
 ·obtain ⟨v, hv, R⟩ := hρ z w hz
  exact ⟨v, ⟨oC, mm, .tail _ (.head _), fun h => OC.out (S.H.own_dom h), hN, hv⟩, R.kp ⟨⟨[], (List.append_nil _).symm⟩, fun p hp _ => .tail _ (.tail _ (.tail _ hp))⟩⟩
 ·have dI := D8 _ (.head _)
  have dC := D8 _ (.tail _ (.head _))
  have dD := D8 _ (.tail _ (.tail _ (.head _)))
  refine g n8 ⟨⟨_, S7.T, S7.F, N8⟩, H8, fun z w hz => ?_, fun z kk hz => ?_, S7.I⟩ X8 K8 ⟨OI.ne, OI.old, dI.1⟩ ⟨OC.ne, OC.old, dC.1⟩ ⟨OD.ne, OD.old, dD.1⟩ dI.2 dC.2 dD.2
  ·obtain ⟨u, h1, h2⟩ := S.R z w hz
   exact ⟨u, h1.ext X8, h2.kp (X8.kp S.H)⟩
  ·obtain ⟨a, h1, h2⟩ := S.C z kk hz
   exact ⟨a, h1, (X8.kp S.H).at h2⟩
inductive CInv (G : Pg) (c : Act) (CL : List (Str × Nat)) (ρ : Loc) (m : Str → Option Value) (F : Nat → Nat → List V → M (List V)) (r : Except Addr (List V) × Sto) (I C D : Addr) (it : It) (s : Shared) (news : Led) (al : Al) (j : Nat) (s3 : Shared) : Prop
 | mk {i : Nat} {acc : List V} {st3 : Sto} {n3 : Led} {a3 : Al} {vs : List Value} {nn : Nat} {mm : Str → Option Value} (e : F j i acc st3 = some r) (S : St G c CL ρ m s3 n3 a3 st3) (X : Ext news al n3 a3) (OI : Off c I n3) (OC : Off c C n3) (OD : Off c D n3) (hI : ItAt (G.K c.w.params) n3 a3 s3.heap I i it) (hC : s3.heap.Ns C mm)
  (hD : s3.heap.get? D = some (listOf vs.toArray nn)) (V : VRs (G.K c.w.params) n3 a3 vs acc) (g : Same s s3) : CInv G c CL ρ m F r I C D it s news al j s3
theorem compLoop_sound {iter : Expr} {px cpos : Pos} {n i : Nat} {acc : List V} {vs : List Value} {nn : Nat} {mm : Str → Option Value}
  {R : Result → Shared → Prop} (hc : c.Ok G) (hp : c.comp = none) (hh : A.handled = none) (hA : Ar c k q A) (hkind : sc.kind = .function) (hx : sc.names.lookup x = some .local)
  (ht : ∀ ρ, Sound G (c.inComp C sc cl) k q CL' ρ relB (forIn ifs true fun x r => if r = true then do let ok ← isTrue x (c.inComp C sc cl).env (eval x (c.inComp C sc cl).env); pure (ForInStep.yield ok) else pure (ForInStep.yield r)) (mt ρ))
  (he : ∀ ρ, Sound G (c.inComp C sc cl) k q CL' ρ relV (eval elt (c.inComp C sc cl).env) (me ρ))
  (hcl : ∀ al', (∃ β, al' = al ++ β) → ∀ x k, CL'.lookup x = some k → ∃ a, cl.lookup x = some a ∧ al'[k]? = some (a, none))
  (e : compM x mt me it n i acc st = some (.ok r, st1)) (S : St G c CL ρ m s news al st)
  (OI : Off c I news) (OC : Off c C news) (OD : Off c D news) (nIC : I ≠ C) (nID : I ≠ D) (nCD : C ≠ D) (hI : ItAt (G.K c.w.params) news al s.heap I i it) (hC : s.heap.Ns C mm) (hD : s.heap.get? D = some (listOf vs.toArray nn)) (hvs : VRs (G.K c.w.params) news al vs acc)
  (hR : ∀ s' news' al' vs' nn' mm', St G c CL ρ m s' news' al' st1 → Ext news al news' al' → Off c C news' → Off c D news' → s'.heap.Ns C mm' → s'.heap.get? D = some (listOf vs'.toArray nn') → VRs (G.K c.w.params) news' al' vs' r → Same s s' → R (.ok .next) s') :
  codeAny (model G.prog c.w) A (.compLoop (.ListComp elt [⟨.Name x px, iter, ifs, 0⟩] sc cpos) 0 (.ref I) (.ref D) (compEnvC sc cl C c.env)) R s := by
 have hee := comp_env (sc := sc) (cl := cl) (C := C) hp
 rw [hee] at ht he
 refine codeAny_compLoop_tests (CInv G c CL ρ m (compM x mt me it) (.ok r, st1) I C D it s news al) (fun j s3 h => ?_) n (.mk e S Ext.refl OI OC OD hI hC hD hvs .refl)
 cases h with | @mk i acc st3 n3 a3 vs nn mm e5 S3 X3 OI3 OC3 OD3 I3 C3 D3 V3 G3 =>
 cases j with
 | zero => exact noS e5
 | succ j =>
  refine still_go e5 fun o e6 e7 => next_sound hc hh S3 OI3 I3 e6 (fun y ho v s4 S4 I4 R4 G4 k4 => ?_) fun ho s4 S4 G4 k4 => ?_
  ·rw [ho] at e6 e7
   have hdk : ∀ k, it = .dk k → False := fun k z => by rw [z] at e6; exact noS (sInj e6)
   refine noErr_go e7 fun b st5 e8 e9 => wpAny_assign_Name (wpAny_storeName_local (lookup_relabel_local hx) (C3.at' fun o e => k4 C o (Ne.symm nIC) e) (fun h5 hn5 hs5 => ?_) (by
    show ((relabel sc c.env).kind == .class || ((relabel sc c.env).kind == .module && _)) = false
    rw [show (relabel sc c.env).kind = .function from hkind]; rfl))
   have k5 : ∀ b o, b ≠ C → s4.heap.get? b = some o → h5.get? b = some o := fun b o hb e => (hs5.2 b hb).trans e
   obtain ⟨oI, hoI, hfI⟩ := I4.there
   obtain ⟨oC, hoC, hNC⟩ := LCg.ns_obj hn5
   refine comp_in (S4.off OC3 (tk := s4.toks + 1) k5) OI3 OC3 OD3 nIC nID nCD (k5 I oI nIC hoI) hfI hoC hNC (k5 D _ (Ne.symm nCD) (k4 D _ (Ne.symm nID) D3)) notFree_lst (one_at (if_pos rfl) R4) (hcl a3 (X3.more.elim fun β h => ⟨β, h.1⟩)) fun L Sc back => (ht [(x, y)]).ok e8 (inComp_ar hA) Sc fun ok s6 n6 a6 S6 X6 R6 G6 => ?_
   have Gs : Same s s6 := G3.trans (G4.trans (Same.trans ⟨rfl, rfl⟩ G6))
   rw [show ok = b from R6]
   have next : ∀ {s7 : Shared} {n8 : Led} {a7 : Al} {st7 : Sto} {acc : List V} {vs : List Value} {nn : Nat}, compM x mt me it j (i + 1) acc st7 = some (.ok r, st1) → St G c CL ρ m s7 n8 a7 st7 → Ext n3 a3 n8 a7 → Off c I n8 → Off c C n8 → Off c D n8 → s7.heap.get? I = some oI → s7.heap.get? C = some oC → s7.heap.get? D = some (listOf vs.toArray nn) → VRs (G.K c.w.params) n8 a7 vs acc → Same s s7 →
     ∃ m', m' < j + 1 ∧ CInv G c CL ρ m (compM x mt me it) (.ok r, st1) I C D it s news al m' s7 := fun e S8 X8 OI8 OC8 OD8 g1 g2 g3 V8 G8 => ⟨j, Nat.lt_succ_self _, .mk e S8 (X3.trans S.H X8) OI8 OC8 OD8 (I4.keep (X8.kp S3.H) (g1.trans hoI.symm) fun k z => (hdk k z).elim) (hNC.ns g2) g3 V8 G8⟩
   cases b with
   | false => exact back S6 X6 fun n8 S8 X8 K8 OI8 OC8 OD8 g1 g2 g3 => next e9 S8 X8 OI8 OC8 OD8 g1 g2 g3 (V3.ext S3.H X8) Gs
   | true =>
    refine noErr_go e9 fun z st7 e10 e11 => iteS e11 fun hlen e11 => (he [(x, y)]).ok e10 (inComp_ar hA) S6 fun u s7 n7 a7 S7 X7 R7 G7 => back S7 (X6.trans Sc.H X7) fun n8 S8 X8 K8 OI8 OC8 OD8 g1 g2 g3 => ?_
    refine append_at (hsz := by have := V3.length; simp only [sizeLine] at hlen; simp; lia) g3 fun h9 hs9 ho9 => ?_
    have k9 : ∀ b o, b ≠ D → s7.heap.get? b = some o → h9.get? b = some o := fun b o hb e => (hs9.2 b hb).trans e
    exact next e11 (S8.off OD8 (tk := s7.toks) k9) X8 OI8 OC8 OD8 (k9 I oI nID g1) (k9 C oC nCD g2) (ho9.trans (by rw [List.push_toArray])) ((V3.ext S3.H X8).append (.one (R7.kp K8))) (Gs.trans G7)
  ·rw [ho] at e7
   obtain ⟨e1, e2⟩ := Prod.mk.inj (sInj e7)
   rw [← e2, ← Except.ok.inj e1] at hR
   exact hR s4 n3 a3 vs nn mm S4 X3 OC3 OD3 (C3.at' fun o e => k4 C o (Ne.symm nIC) e) (k4 D _ (Ne.symm nID) D3) V3 (G3.trans G4)
end
end
noncomputable def compOk (sc : Scope) (x : Str) : Bool := decide (sc.kind = .function) && sc.names.all (fun y => y.2 != .cell) && sc.names.all (fun y => y.2 != .local || sc.names.lookup y.1 == some .local) && (sc.names.lookup x == some .local)
noncomputable def noSet : Expr → Bool
 | .Set _ _ _ => false
 | _ => true
section
variable {G : Pg} {c : Act} {k : Nat} {q : Bool} {CL : List (Str × Nat)} {ρ : Loc} {m : Str → Option Value} {s s' : Shared} {news news' : Led} {al al' : Al} {st st' : Sto} {A : Around} {E : Value → Shared → Prop} {pos : Pos}
theorem compOk_of {sc : Scope} {x : Str} (h : compOk sc x = true) : sc.kind = .function ∧ (∀ y ∈ sc.names, y.2 ≠ .cell) ∧ (∀ y ∈ sc.names, y.2 = .local → sc.names.lookup y.1 = some .local) ∧ sc.names.lookup x = some .local := by
 unfold compOk at h
 simp only [Bool.and_eq_true, decide_eq_true_eq] at h
 obtain ⟨⟨⟨h1, h2⟩, h3⟩, h4⟩ := h
 refine ⟨h1, fun y hy e => ?_, fun y hy e => ?_, beq_iff_eq.mp h4⟩
 ·have := List.all_eq_true.mp h2 y hy
  rw [e] at this; simp at this
 ·have := List.all_eq_true.mp h3 y hy
  rw [e] at this; simpa using this
theorem noSet_of {e : Expr} {env : Env} (h : noSet e = true) (x : Value) : foldedSetIterable e env x = pure x := by
 cases e <;> first | rfl | cases h
theorem ItAt.self {K : Frag} {I : Addr} {i : Nat} {it : It} {Q : Value → Shared → Prop} (x : ItAt K news al s.heap I i it) (h : Q (.ref I) s) : wpAny (model G.prog c.w) A (pyIter (.ref I)) Q E s := by
 cases x with
 | lst _ h2 => exact wpAny_pyIter_listiter h2 h
 | tup _ h2 => exact wpAny_pyIter_tupleiter h2 h
 | rng h2 => exact wpAny_pyIter_rangeiter h2 h
 | dk h2 _ => exact wpAny_pyIter_keyiter h2 h
theorem comp_run {elt iter : Expr} {x : Str} {px : Pos} {ifs : List Expr} {sc : Scope} {cpos : Pos} {CL' : List (Str × Nat)} {mt : Loc → M Bool} {me : Loc → M V} {it : It} {v : Value} {y : V} {st1 : Sto} {r : List V} {n : Nat}
  {R : Value → Addr → Result → Shared → Prop} (hc : c.Ok G) (hp : c.comp = none) (hq : q = true) (hA : Ar c k q A) (hok : compOk sc x = true) {cl : List (Str × Addr)} (hcl : clos c.ncl sc.names [] = some cl) (hCL : clos CL sc.names [] = some CL')
  (ht : ∀ C ρ, Sound G (c.inComp C sc cl) k q CL' ρ relB (forIn ifs true fun x r => if r = true then do let ok ← isTrue x (c.inComp C sc cl).env (eval x (c.inComp C sc cl).env); pure (ForInStep.yield ok) else pure (ForInStep.yield r)) (mt ρ))
  (he : ∀ C ρ, Sound G (c.inComp C sc cl) k q CL' ρ relV (eval elt (c.inComp C sc cl).env) (me ρ))
  (hi : itOf y st = some it) (e : compM x mt me it n 0 [] st = some (.ok r, st1)) (S : St G c CL ρ m s news al st) (hv : VR (G.K c.w.params) news al v y)
  (hR : ∀ C D s' news' al' vs' nn' mm', St G c CL ρ m s' news' al' st1 → Ext news al news' al' → Off c C news' → Off c D news' → C ≠ D → s'.heap.Ns C mm' → s'.heap.get? D = some (listOf vs'.toArray nn') → VRs (G.K c.w.params) news' al' vs' r → Same s s' → R (.ref D) C (.ok .next) s') :
  wpAny (model G.prog c.w) A (pyIter v) (fun it' s₂ => wpAny (model G.prog c.w) A (newList []) (fun acc s₃ => wpAny (model G.prog c.w) A (newFunctionEnv sc c.env.globals cl [] c.env.qual none .none (some c.env)) (fun cenv s₄ =>
   codeAny (model G.prog c.w) A (.compStart (.ListComp elt [⟨.Name x px, iter, ifs, 0⟩] sc cpos) 0 it' acc { cenv with scope := relabel sc c.env }) (R acc cenv.locals) s₄) E s₃) E s₂) E s := by
 obtain ⟨hkind, hcell, hnames, hx⟩ := compOk_of hok
 have hh := hA.hd hq
 refine iter_sound hc S hv hi fun I s2 S2 OI I2 G2 => ?_
 refine wpAny_newObj_type (wpAny_newFunctionEnv hcell (by intro y hy; simp at hy) (fun h₁ hns₁ hsb₁ => ?_) hkind)
 dsimp only at hns₁ hsb₁ ⊢
 have OD := S2.new_off
 have hIlt : I < s2.heap.objs.size := by obtain ⟨o, ho, _⟩ := I2.there; exact Heap.lt_size ho
 generalize hH2 : s2.heap.push { cls := .type "list", dict := none, data := .seq ([] : List Value).toArray } = H2 at hns₁ hsb₁ ⊢
 have hDg : H2.get? s2.heap.objs.size = some (listOf #[] 0) := hH2 ▸ Heap.get?_push_size _ rfl
 have hC : H2.objs.size = s2.heap.objs.size + 1 := by rw [← hH2, Heap.size_push]
 have old2 : ∀ b o, s2.heap.get? b = some o → H2.get? b = some o := fun b o e => hH2 ▸ Heap.get?_push_of_some _ e
 have old : ∀ b o, H2.get? b = some o → h₁.get? b = some o := fun b o e => hsb₁.extBut b o (Nat.ne_of_lt (Heap.lt_size e)) (Heap.get?_push_of_some _ e)
 have S3 : St G c CL ρ m { s2 with heap := H2 } news al st := S2.ext Ext.refl (S2.F.keeps old2) (S2.N.grown old2) S2.H
 have OC := S3.new_off
 have S4 : St G c CL ρ m { s2 with heap := h₁, toks := s2.toks + ([] : List (Str × Value)).length } news al st := S3.ext Ext.refl (S3.F.keeps old) (S3.N.grown old) S3.H
 have nID : I ≠ s2.heap.objs.size := Nat.ne_of_lt hIlt
 have nIC : I ≠ H2.objs.size := by rw [hC]; exact Nat.ne_of_lt (Nat.lt_succ_of_lt hIlt)
 have nDC : H2.objs.size ≠ s2.heap.objs.size := by rw [hC]; exact Nat.ne_of_gt (Nat.lt_succ_self _)
 have I4 : ItAt (G.K c.w.params) news al h₁ I 0 it := by
  obtain ⟨o, ho, _⟩ := I2.there
  exact I2.keep ⟨⟨[], by simp⟩, fun p hp _ => hp⟩ ((old _ _ (old2 _ _ ho)).trans ho.symm) fun _ _ b x e => old _ _ (old2 _ _ e)
 have henv : ({ scope := relabel sc c.env, locals := H2.objs.size, globals := c.env.globals, cells := cl, qual := c.env.qual, func := none, code := c.env.code, frame := c.env.frame, builtins := c.env.builtins } : Env) = compEnvC sc cl H2.objs.size c.env := rfl
 have loop : codeAny (model G.prog c.w) A (.compLoop (.ListComp elt [⟨.Name x px, iter, ifs, 0⟩] sc cpos) 0 (.ref I) (.ref s2.heap.objs.size) (compEnvC sc cl H2.objs.size c.env)) (R (.ref s2.heap.objs.size) H2.objs.size) { s2 with heap := h₁, toks := s2.toks + ([] : List (Str × Value)).length } := by
  refine compLoop_sound hc hp hh hA hkind hx (ht _) (he _) (fun al2 hal2 => ?_) e S4 OI OC OD nIC nID nDC I4 hns₁ (vs := []) (nn := 0) (old _ _ hDg) .nil fun s' news' al' vs' nn' mm' S' X' OC' OD' n' d' V' G' => hR _ _ s' news' al' vs' nn' mm' S' X' OC' OD' nDC n' d' V' (G2.trans (Same.trans ⟨rfl, rfl⟩ G'))
  obtain ⟨β, rfl⟩ := hal2
  obtain ⟨r', e1, e2⟩ := clos_rel (al := al) S.C (acc := []) (accN := []) (fun x k e => by simp at e) hCL
  rw [hcl] at e1; induction e1 using E1
  intro z kk hz
  obtain ⟨a, g1, g2⟩ := e2 z kk hz
  exact ⟨a, g1, (List.getElem?_append_left (List.getElem?_eq_some_iff.mp g2).1).trans g2⟩
 exact codeAny_compStart_list loop (I4.self (c := c) loop)
theorem Sound.listComp {elt iter : Expr} {x : Str} {px : Pos} {ifs : List Expr} {sc : Scope} {CL' : List (Str × Nat)} {mi : M V} {mt : Loc → M Bool} {me : Loc → M V} {n : Nat}
  (hc : c.Ok G) (hp : c.comp = none) (hq : q = true) (hok : compOk sc x = true) (hs : noSet iter = true) (hCL : clos CL sc.names [] = some CL')
  (hi : Sound G c k q CL ρ relV (eval iter c.env) mi)
  (ht : ∀ C cl ρ, Sound G (c.inComp C sc cl) k q CL' ρ relB (forIn ifs true fun x r => if r = true then do let ok ← isTrue x (c.inComp C sc cl).env (eval x (c.inComp C sc cl).env); pure (ForInStep.yield ok) else pure (ForInStep.yield r)) (mt ρ))
  (he : ∀ C cl ρ, Sound G (c.inComp C sc cl) k q CL' ρ relV (eval elt (c.inComp C sc cl).env) (me ρ)) :
  Sound G c k q CL ρ relV (eval (.ListComp elt [⟨.Name x px, iter, ifs, 0⟩] sc pos) c.env) (M.bind mi fun y => M.bind (still fun st => itOf y st) fun it => M.bind (compM x mt me it n 0 []) fun l => newO (.list l)) := by
 intro st r e A s m news al Q E hA S hE hQ
 obtain ⟨hkind, hcell, hnames, hx⟩ := compOk_of hok
 obtain ⟨cl, hcl, _⟩ := clos_rel (al := al) S.C (acc := []) (accN := []) (fun x k e => by simp at e) hCL
 rw [eval_ListComp]
 refine wpAny_comprehension_free (use := none) rfl (noSet_of hs) (closureFor_of (by rw [env_cells]; exact hcl)) hkind hnames ?_
 refine hi.go e hA S hE fun y st1 e1 v s1 n1 a1 S1 X1 R1 G1 => ?_
 refine still_go e1 fun it e2 e3 => ?_
 unfold M.bind at e3
 cases e4 : compM x mt me it n 0 [] st1 with
 | none => rw [e4] at e3; cases e3
 | some p =>
  obtain ⟨l, st2, rfl⟩ := compM_ok e4
  rw [e4] at e3
  cases e3
  refine comp_run (CL' := CL') hc hp hq hA hok hcl hCL (ht · cl) (he · cl) e2 e4 S1 R1 fun C D s' n2 a2 vs nn mm S' X' OC OD nCD hN hD hV G' => ?_
  refine ⟨mm, hN, fun h' hs' => ?_⟩
  have S3 := S'.off OC (tk := s'.toks) fun b o hb e => (hs'.2 b hb).trans e
  have hD' : h'.get? D = some (listOf vs.toArray nn) := (hs'.2 D (Ne.symm nCD)).trans hD
  have N3 : News S3.gr c.L h' ((D, listOf vs.toArray nn) :: n2) := fun p hp => by
   rcases List.mem_cons.mp hp with rfl | hp
   ·exact ⟨hD', Ne.symm OD.ne, OD.oldg S3⟩
   ·exact S3.N p hp
  obtain ⟨S4, X4, r4⟩ := S3.newOwn (tk := s'.toks) (x := .list l) OD.out S3.F N3 (.list (.head _) (hV.ext S3.H (Ext.owned OD.out)))
  exact hQ _ _ rfl _ _ _ _ S4 (X1.trans S.H (X'.trans S1.H X4)) r4 (G1.trans (Same.trans G' ⟨rfl, rfl⟩))
noncomputable def swapC (sc cs : Scope) (y : Str) (py cpos : Pos) : Bool := (cs.names.lookup y == some .local) && (py.line == cpos.line) && !(sc.names.any fun (n, k) => n == y && (k == .local || k == .cell))
theorem SoundS.assignC {elt iter : Expr} {x y : Str} {px py : Pos} {ifs : List Expr} {sc : Scope} {CL' : List (Str × Nat)} {mi : Loc → M V} {mt : Loc → M Bool} {me : Loc → M V} {n : Nat} {cpos : Pos}
  (hc : c.Ok G) (hp : c.comp = none) (hq : q = true) (hok : compOk sc x = true) (hs : noSet iter = true) (hCL : clos CL sc.names [] = some CL') (hsw : swapC sc c.cs y py cpos = true)
  (hi : ∀ ρ, Sound G c k q CL ρ relV (eval iter c.env) (mi ρ))
  (ht : ∀ C cl ρ, Sound G (c.inComp C sc cl) k q CL' ρ relB (forIn ifs true fun x r => if r = true then do let ok ← isTrue x (c.inComp C sc cl).env (eval x (c.inComp C sc cl).env); pure (ForInStep.yield ok) else pure (ForInStep.yield r)) (mt ρ))
  (he : ∀ C cl ρ, Sound G (c.inComp C sc cl) k q CL' ρ relV (eval elt (c.inComp C sc cl).env) (me ρ)) :
  SoundS G c k q CL (exec (.Assign [.Name y py] (.ListComp elt [⟨.Name x px, iter, ifs, 0⟩] sc cpos) pos) c.env)
   (fun ρ => M.bind (mi ρ) fun z => M.bind (still fun st => itOf z st) fun it => M.bind (compM x mt me it n 0 []) fun l => M.bind (newO (.list l)) fun u => M.bind (storeM c.cs CL y u ρ) fun ρ' => M.pure (.next, ρ')) := by
 intro ρ st r e A s m news al Q E hA S hE hQ
 obtain ⟨hkind, hcell, hnames, hx⟩ := compOk_of hok
 obtain ⟨cl, hcl, _⟩ := clos_rel (al := al) S.C (acc := []) (accN := []) (fun x k e => by simp at e) hCL
 have hen : c.env = c.fenv := by unfold Act.env; rw [hp]
 unfold swapC at hsw
 rw [Bool.and_eq_true, Bool.and_eq_true] at hsw
 obtain ⟨⟨w1, w2⟩, w3⟩ := hsw
 have hsw' : swapsWith (.ListComp elt [⟨.Name x px, iter, ifs, 0⟩] sc cpos) (some (.Name y py)) pos.line c.env = pure true := by
  have e1 : c.env.blockKind = .function := by
   rw [hen]
   unfold Env.blockKind
   have : c.fenv.scope.kind = .function := hc.hk
   rw [this]; rfl
  have e2 : c.env.kindOf y = some .local := env_kindOf (by unfold Act.nsc; rw [hp]; exact beq_iff_eq.mp w1)
  show (pure (c.env.blockKind == .function && c.env.kindOf y == some .local && py.line == cpos.line && !(sc.names.any fun (n, k) => n == y && (k == .local || k == .cell))) : Sem Bool) = pure true
  rw [e1, e2, w2, w3]; rfl
 rw [exec_Assign_Name_used _ _ _ _ hsw']
 refine wpAny_bind (wpAny_standAt (wpAny_bind ?_))
 show wpAny _ A (do let _ ← comprehension (.ListComp elt [⟨.Name x px, iter, ifs, 0⟩] sc cpos) sc c.env _ (newList []) false (eval iter c.env) (some (assign (.Name y py) c.env))) _ _ s
 refine wpAny_bind (wpAny_mono (wpAny_comprehension_free (use := some (assign (.Name y py) c.env)) (Q := fun _ s' => Q .next s') rfl (noSet_of hs) (closureFor_of (by rw [env_cells]; exact hcl)) hkind hnames ?_) (fun _ s' hq => wpAny_pure (wpAny_pure hq)) fun _ _ e => e)
 refine (hi ρ).goS e hA S hE fun z st1 e1 v s1 n1 a1 S1 X1 R1 G1 => ?_
 refine still_go e1 fun it e2 e3 => ?_
 unfold M.bind at e3
 cases e4 : compM x mt me it n 0 [] st1 with
 | none => rw [e4] at e3; cases e3
 | some p =>
  obtain ⟨l, st2, rfl⟩ := compM_ok e4
  rw [e4] at e3
  refine comp_run (CL' := CL') hc hp hq hA hok hcl hCL (ht · cl) (he · cl) e2 e4 S1 R1 fun C D s' n2 a2 vs nn mm S' X' OC OD nCD hN hD hV G' => ?_
  have N3 : News S'.gr c.L s'.heap ((D, listOf vs.toArray nn) :: n2) := fun p hp => by
   rcases List.mem_cons.mp hp with rfl | hp
   ·exact ⟨hD, Ne.symm OD.ne, OD.oldg S'⟩
   ·exact S'.N p hp
  obtain ⟨S4, X4, r4⟩ := S'.newOwn (tk := s'.toks) (x := .list l) OD.out S'.F N3 (.list (.head _) (hV.ext S'.H (Ext.owned OD.out)))
  obtain ⟨oC, hoC, hNC⟩ := LCg.ns_obj hN
  have OC4 : Off c C ((D, listOf vs.toArray nn) :: n2) := ⟨OC.ne, OC.old, by simp only [List.map_cons, List.mem_cons, not_or]; exact ⟨nCD, OC.out⟩⟩
  have S5 := S4.with OC4 hoC
  have e5 : M.bind (storeM c.cs CL y (.hnd st2.length) ρ) (fun ρ' => M.pure (Fl.next, ρ')) (st2 ++ [.list l]) = some r := e3
  refine store_go e5 fun ρ6 st6 e6 e7 => ?_
  cases e7
  show wpAny _ A (assign (.Name y py) c.env (.ref D)) _ _ s'
  refine wpAny_assign_Name (storeM_sound hc hp S5 (r4.ext S4.H Ext.free) e6 fun s7 m7 n7 S7 X7 G7 => ?_)
  obtain ⟨N8, H8, X8, K8, O8, g8⟩ := S4.without (c := c) OC4 (notFree_ns hNC) rfl S7.H S7.N X7
  have S8 := S7.weak hp N8 H8 K8
  refine ⟨mm, ⟨_, _, _, g8, hNC.choose_spec.choose_spec.1, hNC.choose_spec.choose_spec.2⟩, fun h' hs' => ?_⟩
  have S9 := S8.off ⟨OC.ne, OC.old, O8⟩ (tk := s7.toks) fun b o hb e => (hs'.2 b hb).trans e
  exact hQ _ _ _ rfl _ _ m7 _ _ S9 (X1.trans S.H (X'.trans S1.H (X4.trans S'.H X8))) .next (G1.trans (G'.trans (Same.trans G7 ⟨rfl, rfl⟩)))
end
def pairOf (y : V) : Option (V × V) := y.tup?.bind arg2
noncomputable def dcompM (x1 x2 : Str) (mk mv : Loc → M V) (it : It) : Nat → Nat → List (Str × V) → M (List (Str × V))
 | 0, _, _ => stop
 | n + 1, i, acc => M.bind (still fun st => itM it i st) fun o => match o with
  | none => M.pure acc
  | some y => fun st => (pairOf y).bind fun p => M.bind (noErr (mk [(x1, p.1), (x2, p.2)])) (fun a => M.bind (noErr (mv [(x1, p.1), (x2, p.2)])) fun b => fun st => a.str?.bind fun s => if acc.length ≤ sizeLine then dcompM x1 x2 mk mv it n (i + 1) (putD s b acc) st else none) st
theorem two_at {x1 x2 : Str} {mm : Str → Option Value} {v1 v2 : Value} {y1 y2 : V} {K : Frag} {news : Led} {al : Al} (hn : x1 ≠ x2) (R1 : VR K news al v1 y1) (R2 : VR K news al v2 y2) (z : Str) (w : V) (hz : [(x1, y1), (x2, y2)].lookup z = some w) : ∃ v, (if z = x2 then some v2 else if z = x1 then some v1 else mm z) = some v ∧ VR K news al v w := by
 rw [List.lookup_cons] at hz
 cases hzx : z == x1 with
 | true =>
  rw [hzx] at hz
  have e := eq_of_beq hzx
  rw [if_neg (e ▸ hn), if_pos e, ← sInj hz]
  exact ⟨v1, rfl, R1⟩
 | false =>
  rw [hzx] at hz
  rw [List.lookup_cons] at hz
  cases hzy : z == x2 with
  | true =>
   rw [hzy] at hz
   rw [if_pos (eq_of_beq hzy), ← sInj hz]
   exact ⟨v2, rfl, R2⟩
  | false => rw [hzy] at hz; exact noS hz
section
variable {prog : Program} {w : World} {A : Around} {E : Value → Shared → Prop} {R : Result → Shared → Prop} {s : Shared}
theorem compLoopD {kx vx target iter : Expr} {scope : Scope} {pos : Pos} {it : Value} {D : Addr} {env : Env} (I : Nat → Shared → Prop)
  (turn : ∀ n s, I n s → wpAny (model prog w) A (pyNext it) (fun r s₁ => match r with
   | none => R (.ok .next) s₁
   | some v => wpAny (model prog w) A (letOwnedTupleGo target it v) (fun _ s1' => wpAny (model prog w) A (assign target env v) (fun _ s₂ =>
     wpAny (model prog w) A (eval kx env) (fun kv s₄ => wpAny (model prog w) A (eval vx env) (fun vv s₅ =>
       wpAny (model prog w) A (dictSet D kv vv) (fun _ s₆ => ∃ m, m < n ∧ I m s₆) (notedBy (model prog w) A env fun e s' => R (.error e) s') s₅) (notedBy (model prog w) A env fun e s' => R (.error e) s') s₄) (notedBy (model prog w) A env fun e s' => R (.error e) s') s₂) (notedBy (model prog w) A env fun e s' => R (.error e) s') s1') (notedBy (model prog w) A env fun e s' => R (.error e) s') s₁) (notedBy (model prog w) A env fun e s' => R (.error e) s') s)
  (n : Nat) (h : I n s) : codeAny (model prog w) A (.compLoop (.DictComp kx vx [⟨target, iter, [], 0⟩] scope pos) 0 it (.ref D) env) R s := by
 refine codeAny_loop rfl I (fun n s hI => ?_) n h
 show wpAny _ A ((compTurn (.DictComp kx vx [⟨target, iter, [], 0⟩] scope pos) 0 it (.ref D) env).onRaise (fun x => do noteFrame x env; theTreesLotGoes x)) _ _ s
 refine wpAny_noted ?_
 rw [compTurn_dict]
 refine wpAny_bind (wpAny_standAt (wpAny_bind (wpAny_mono (turn n s hI) (fun r s₁ h₁ => ?_) fun _ _ h' => h')))
 cases r with
 | none => exact wpAny_pure h₁
 | some v =>
  refine wpAny_bind (wpAny_mono h₁ (fun _ s1' h1' => wpAny_bind (wpAny_mono h1' (fun _ s₂ h₂ => ?_) fun _ _ h' => h')) fun _ _ h' => h')
  exact wpAny_bind (wpAny_pure (wpAny_bind (wpAny_bind (wpAny_mono h₂ (fun kv s₄ h₄ => wpAny_bind (wpAny_holding (wpAny_mono h₄ (fun vv s₅ h₅ => wpAny_bind (wpAny_standAt (wpAny_holding (wpAny_mono h₅ (fun _ s₆ h₆ => wpAny_pure ⟨rfl, h₆⟩) fun _ _ h' => h')))) fun _ _ h' => h'))) fun _ _ h' => h'))))
end
section
variable {G : Pg} {c : Act} {k : Nat} {q : Bool} {CL : List (Str × Nat)} {ρ : Loc} {m : Str → Option Value} {s s' : Shared} {news news' : Led} {al al' : Al} {st st' : Sto} {A : Around} {E : Value → Shared → Prop} {pos : Pos}
variable {kx vx : Expr} {x1 x2 : Str} {sc : Scope} {cl : List (Str × Addr)} {CL' : List (Str × Nat)} {mk mv : Loc → M V} {I C D : Addr} {it : It} {st1 : Sto} {r : List (Str × V)}
inductive DInv (G : Pg) (c : Act) (CL : List (Str × Nat)) (ρ : Loc) (m : Str → Option Value) (F : Nat → Nat → List (Str × V) → M (List (Str × V))) (r : Except Addr (List (Str × V)) × Sto) (I C D : Addr) (it : It) (s : Shared) (news : Led) (al : Al) (j : Nat) (s3 : Shared) : Prop
 | mk {i : Nat} {acc : List (Str × V)} {st3 : Sto} {n3 : Led} {a3 : Al} {kvs : List (Str × Value)} {mm : Str → Option Value} (e : F j i acc st3 = some r) (S : St G c CL ρ m s3 n3 a3 st3) (X : Ext news al n3 a3) (OI : Off c I n3) (OC : Off c C n3) (OD : Off c D n3) (hI : ItAt (G.K c.w.params) n3 a3 s3.heap I i it) (hC : s3.heap.Ns C mm)
  (hD : s3.heap.DictOf (strKind G.prog c.w) D kvs) (V : PR (G.K c.w.params) n3 a3 kvs acc) (g : Same s s3) : DInv G c CL ρ m F r I C D it s news al j s3
theorem dict_nf {o : Obj} {prog : Program} {w : World} {kvs : List (Str × Value)} (h : o.IsDictOf (strKind prog w) kvs) : ¬ Free o := by
 obtain ⟨es, ep, _, hdat, _⟩ := h
 exact nf_data (hdat ▸ nofun) (hdat ▸ nofun)
theorem compLoopD_sound {iter : Expr} {px1 px2 tp cpos : Pos} {tn : Nat} {n i : Nat} {acc : List (Str × V)} {kvs : List (Str × Value)} {mm : Str → Option Value} {R : Result → Shared → Prop} (hc : c.Ok G) (hp : c.comp = none) (hh : A.handled = none) (hA : Ar c k q A) (hkind : sc.kind = .function) (hx1 : sc.names.lookup x1 = some .local) (hx2 : sc.names.lookup x2 = some .local) (hne : x1 ≠ x2)
  (hk : ∀ ρ, Sound G (c.inComp C sc cl) k q CL' ρ relV (eval kx (c.inComp C sc cl).env) (mk ρ)) (hv : ∀ ρ, Sound G (c.inComp C sc cl) k q CL' ρ relV (eval vx (c.inComp C sc cl).env) (mv ρ))
  (hcl : ∀ al', (∃ β, al' = al ++ β) → ∀ x k, CL'.lookup x = some k → ∃ a, cl.lookup x = some a ∧ al'[k]? = some (a, none))
  (e : dcompM x1 x2 mk mv it n i acc st = some (.ok r, st1)) (S : St G c CL ρ m s news al st) (OI : Off c I news) (OC : Off c C news) (OD : Off c D news) (nIC : I ≠ C) (nID : I ≠ D) (nCD : C ≠ D) (hI : ItAt (G.K c.w.params) news al s.heap I i it) (hC : s.heap.Ns C mm) (hD : s.heap.DictOf (strKind G.prog c.w) D kvs) (hvs : PR (G.K c.w.params) news al kvs acc)
  (hR : ∀ s' news' al' kvs' mm', St G c CL ρ m s' news' al' st1 → Ext news al news' al' → Off c C news' → Off c D news' → s'.heap.Ns C mm' → s'.heap.DictOf (strKind G.prog c.w) D kvs' → PR (G.K c.w.params) news' al' kvs' r → Same s s' → R (.ok .next) s') :
  codeAny (model G.prog c.w) A (.compLoop (.DictComp kx vx [⟨.Tuple [.Name x1 px1, .Name x2 px2] tn tp, iter, [], 0⟩] sc cpos) 0 (.ref I) (.ref D) (compEnvC sc cl C c.env)) R s := by
 have hee := comp_env (sc := sc) (cl := cl) (C := C) hp
 rw [hee] at hk hv
 have hfun : ((relabel sc c.env).kind == .class || ((relabel sc c.env).kind == .module && (compEnvC sc cl C c.env).locals != (compEnvC sc cl C c.env).globals)) = false := by
  rw [show (relabel sc c.env).kind = .function from hkind]; rfl
 refine compLoopD (DInv G c CL ρ m (dcompM x1 x2 mk mv it) (.ok r, st1) I C D it s news al) (fun j s3 h => ?_) n (.mk e S Ext.refl OI OC OD hI hC hD hvs .refl)
 cases h with | @mk i acc st3 n3 a3 kvs mm e5 S3 X3 OI3 OC3 OD3 I3 C3 D3 V3 G3 =>
 cases j with
 | zero => exact noS e5
 | succ j =>
  refine still_go e5 fun o e6 e7 => next_sound hc hh S3 OI3 I3 e6 (fun y ho v s4 S4 I4 R4 G4 k4 => ?_) fun ho s4 S4 G4 k4 => ?_
  ·rw [ho] at e6 e7
   have hdk : ∀ k, it = .dk k → False := fun k z => by rw [z] at e6; exact noS (sInj e6)
   refine bindE e7 fun p e8 e7 => bindE e8 fun l e9 e10 => noErr_go e7 fun ya st5 e11 e7 => noErr_go e7 fun yb st6 e12 e7 => bindE e7 fun key e13 e7 => iteS e7 fun hlen e7 => ?_
   obtain ⟨oI, hoI, hfI⟩ := I4.there
   refine I4.letGo ?_
   obtain ⟨b, e0, h0⟩ := R4.vtup e9
   rw [e0]
   obtain ⟨vs, t1, r1⟩ := S4.tup hc h0
   obtain ⟨g1, g2⟩ := names_each (env := compEnvC sc cl C c.env) (es := [.Name x1 px1, .Name x2 px2]) rfl
   rw [arg2_of e10] at r1
   obtain ⟨v1, w1, z1, r2, r3⟩ := r1.inv
   obtain ⟨v2, w2, z2, r4, r5⟩ := r3.inv
   rw [z1, z2, show w2 = [] from r5.inv] at t1
   obtain ⟨oD, hoD, hoD2⟩ := Heap.dictOf_iff.mp D3
   refine assign_Tuple_tuple hh t1 g1 g2 fun h5 he => ?_
   have k5 : ∀ b o, s4.heap.get? b = some o → h5.get? b = some o := fun b o e => he b o (Nat.ne_of_lt (Heap.lt_size e)) e
   show wpAny _ _ (do holding _ (assign (.Name x1 px1) (compEnvC sc cl C c.env) v1); assignInOrder ((assignEach [.Name x2 px2] (compEnvC sc cl C c.env)).map (·.2)) [v2]) _ _ _
   refine wpAny_bind (wpAny_holding (wpAny_assign_Name (wpAny_storeName_local (lookup_relabel_local hx1) (C3.at' fun o e => k5 C o (k4 C o (Ne.symm nIC) e)) (fun h6 hn6 hs6 => ?_) hfun)))
   show wpAny _ _ (do holding _ (assign (.Name x2 px2) (compEnvC sc cl C c.env) v2); assignInOrder [] []) _ _ _
   refine wpAny_bind (wpAny_holding (wpAny_assign_Name (wpAny_storeName_local (lookup_relabel_local hx2) hn6 (fun h7 hn7 hs7 => wpAny_pure ?_) hfun)))
   have k7 : ∀ b o, b ≠ C → s4.heap.get? b = some o → h7.get? b = some o := fun b o hb e => (hs7.2 b hb).trans ((hs6.2 b hb).trans (k5 b o e))
   obtain ⟨oC, hoC, hNC⟩ := LCg.ns_obj hn7
   refine comp_in (S4.off OC3 (tk := s4.toks + 1 + 1) k7) OI3 OC3 OD3 nIC nID nCD (k7 I oI nIC hoI) hfI hoC hNC (k7 D _ (Ne.symm nCD) (k4 D _ (Ne.symm nID) hoD)) (dict_nf hoD2) (two_at hne r2 r4) (hcl a3 (X3.more.elim fun β h => ⟨β, h.1⟩)) fun L Sc back => (hk _).ok e11 (inComp_ar hA) Sc fun kv s8 n8 a8 S8 X8 R8 G8 => (hv _).ok e12 (inComp_ar hA) S8 fun vv s9 n9 a9 S9 X9 R9 G9 => back S9 (X8.trans Sc.H X9) fun n10 S10 X10 K10 OI10 OC10 OD10 g1 g2 g3 => ?_
   obtain ⟨t2, z3⟩ := R8.vstr e13
   rw [z3]
   refine wpAny_dictSet_pairs (strKind_is _ _ _ _) (Heap.dictOf_iff.mpr ⟨oD, g3, hoD2⟩) (fun h11 hD11 hs11 => ?_) (by rw [V3.length]; exact hlen)
   have k11 : ∀ b o, b ≠ D → s9.heap.get? b = some o → h11.get? b = some o := fun b o hb e => (hs11.2 b hb).trans e
   exact ⟨j, Nat.lt_succ_self _, .mk e7 (S10.off OD10 (tk := s9.toks + 1) k11) (X3.trans S.H X10) OI10 OC10 OD10 (I4.keep (X10.kp S3.H) ((k11 I oI nID g1).trans hoI.symm) fun k z => (hdk k z).elim) (hNC.ns (k11 C oC nCD g2)) hD11 ((V3.kp (X10.kp S3.H)).put key (R9.kp K10)) (Same.trans G3 (Same.trans G4 (Same.trans ⟨rfl, rfl⟩ (Same.trans G8 (Same.trans G9 ⟨rfl, rfl⟩)))))⟩
  ·rw [ho] at e7
   obtain ⟨e1, e2⟩ := Prod.mk.inj (sInj e7)
   rw [← e2, ← Except.ok.inj e1] at hR
   obtain ⟨oD, hoD, hoD2⟩ := Heap.dictOf_iff.mp D3
   exact hR s4 n3 a3 kvs mm S4 X3 OC3 OD3 (C3.at' fun o e => k4 C o (Ne.symm nIC) e) (Heap.dictOf_iff.mpr ⟨oD, k4 D _ (Ne.symm nID) hoD, hoD2⟩) V3 (G3.trans G4)
theorem compD_run {iter : Expr} {px1 px2 tp cpos : Pos} {tn : Nat} {v : Value} {y : V} {n : Nat} {R : Value → Addr → Result → Shared → Prop} (hc : c.Ok G) (hp : c.comp = none) (hq : q = true) (hA : Ar c k q A) (hok1 : compOk sc x1 = true) (hok2 : compOk sc x2 = true) (hne : x1 ≠ x2) (hcl : clos c.ncl sc.names [] = some cl) (hCL : clos CL sc.names [] = some CL')
  (hk : ∀ C ρ, Sound G (c.inComp C sc cl) k q CL' ρ relV (eval kx (c.inComp C sc cl).env) (mk ρ)) (hx : ∀ C ρ, Sound G (c.inComp C sc cl) k q CL' ρ relV (eval vx (c.inComp C sc cl).env) (mv ρ))
  (hi : itOf y st = some it) (e : dcompM x1 x2 mk mv it n 0 [] st = some (.ok r, st1)) (S : St G c CL ρ m s news al st) (hv : VR (G.K c.w.params) news al v y)
  (hR : ∀ C D s' news' al' kvs' mm', St G c CL ρ m s' news' al' st1 → Ext news al news' al' → Off c C news' → Off c D news' → C ≠ D → (D == sysModules) = false → s'.heap.Ns C mm' → s'.heap.DictOf (strKind G.prog c.w) D kvs' → PR (G.K c.w.params) news' al' kvs' r → Same s s' → R (.ref D) C (.ok .next) s') :
  wpAny (model G.prog c.w) A (pyIter v) (fun it' s₂ => wpAny (model G.prog c.w) A newDict (fun acc s₃ => wpAny (model G.prog c.w) A (newFunctionEnv sc c.env.globals cl [] c.env.qual none .none (some c.env)) (fun cenv s₄ =>
   codeAny (model G.prog c.w) A (.compStart (.DictComp kx vx [⟨.Tuple [.Name x1 px1, .Name x2 px2] tn tp, iter, [], 0⟩] sc cpos) 0 it' acc { cenv with scope := relabel sc c.env }) (R acc cenv.locals) s₄) E s₃) E s₂) E s := by
 obtain ⟨hkind, hcell, hnames, hx1⟩ := compOk_of hok1
 obtain ⟨_, _, _, hx2⟩ := compOk_of hok2
 have hh := hA.hd hq
 refine iter_sound hc S hv hi fun I s2 S2 OI I2 G2 => ?_
 refine wpAny_newObj_type (wpAny_newFunctionEnv hcell (by intro y hy; simp at hy) (fun h₁ hns₁ hsb₁ => ?_) hkind)
 dsimp only at hns₁ hsb₁ ⊢
 have OD := S2.new_off
 have hIlt : I < s2.heap.objs.size := by obtain ⟨o, ho, _⟩ := I2.there; exact Heap.lt_size ho
 have hnew : (s2.heap.push { cls := .type "dict", dict := none, data := .dict #[] }).DictOf (strKind G.prog c.w) s2.heap.objs.size [] := Heap.DictOf.new s2.heap
 have hsys := S2.sys hc
 generalize hH2 : s2.heap.push { cls := .type "dict", dict := none, data := .dict #[] } = H2 at hns₁ hsb₁ hnew ⊢
 have hC : H2.objs.size = s2.heap.objs.size + 1 := by rw [← hH2, Heap.size_push]
 have old2 : ∀ b o, s2.heap.get? b = some o → H2.get? b = some o := fun b o e => hH2 ▸ Heap.get?_push_of_some _ e
 have old : ∀ b o, H2.get? b = some o → h₁.get? b = some o := fun b o e => hsb₁.extBut b o (Nat.ne_of_lt (Heap.lt_size e)) (Heap.get?_push_of_some _ e)
 have S3 : St G c CL ρ m { s2 with heap := H2 } news al st := S2.ext Ext.refl (S2.F.keeps old2) (S2.N.grown old2) S2.H
 have OC := S3.new_off
 have S4 : St G c CL ρ m { s2 with heap := h₁, toks := s2.toks + ([] : List (Str × Value)).length } news al st := S3.ext Ext.refl (S3.F.keeps old) (S3.N.grown old) S3.H
 have nID : I ≠ s2.heap.objs.size := Nat.ne_of_lt hIlt
 have nIC : I ≠ H2.objs.size := by rw [hC]; exact Nat.ne_of_lt (Nat.lt_succ_of_lt hIlt)
 have nDC : H2.objs.size ≠ s2.heap.objs.size := by rw [hC]; exact Nat.ne_of_gt (Nat.lt_succ_self _)
 have I4 : ItAt (G.K c.w.params) news al h₁ I 0 it := by
  obtain ⟨o, ho, _⟩ := I2.there
  exact I2.keep ⟨⟨[], by simp⟩, fun p hp _ => hp⟩ ((old _ _ (old2 _ _ ho)).trans ho.symm) fun _ _ b x e => old _ _ (old2 _ _ e)
 have loop : codeAny (model G.prog c.w) A (.compLoop (.DictComp kx vx [⟨.Tuple [.Name x1 px1, .Name x2 px2] tn tp, iter, [], 0⟩] sc cpos) 0 (.ref I) (.ref s2.heap.objs.size) (compEnvC sc cl H2.objs.size c.env)) (R (.ref s2.heap.objs.size) H2.objs.size) { s2 with heap := h₁, toks := s2.toks + ([] : List (Str × Value)).length } := by
  refine compLoopD_sound hc hp hh hA hkind hx1 hx2 hne (hk _) (hx _) (fun al2 hal2 => ?_) e S4 OI OC OD nIC nID nDC I4 hns₁ (kvs := []) (hnew.at fun o e => old _ _ e) .nil fun s' news' al' kvs' mm' S' X' OC' OD' n' d' V' G' => hR _ _ s' news' al' kvs' mm' S' X' OC' OD' nDC hsys n' d' V' (G2.trans (Same.trans ⟨rfl, rfl⟩ G'))
  obtain ⟨β, rfl⟩ := hal2
  obtain ⟨r', e1, e2⟩ := clos_rel (al := al) S.C (acc := []) (accN := []) (fun x k e => by simp at e) hCL
  rw [hcl] at e1; induction e1 using E1
  intro z kk hz
  obtain ⟨a, g1, g2⟩ := e2 z kk hz
  exact ⟨a, g1, (List.getElem?_append_left (List.getElem?_eq_some_iff.mp g2).1).trans g2⟩
 exact codeAny_compStart_dict loop (I4.self (c := c) loop)
theorem dcompM_ok {x1 x2 : Str} {mk mv : Loc → M V} {it : It} {n : Nat} : ∀ {i : Nat} {acc : List (Str × V)} {st : Sto} {r : Except Addr (List (Str × V)) × Sto}, dcompM x1 x2 mk mv it n i acc st = some r → ∃ l st', r = (.ok l, st') := by
 induction n with
 | zero => exact fun e => noS e
 | succ n ih =>
  intro i acc st r e
  refine still_go e fun o _ e => ?_
  cases o with
  | none => exact ⟨_, _, (sInj e).symm⟩
  | some y => exact bindE e fun p _ e => noErr_go e fun _ _ _ e => noErr_go e fun _ _ _ e => bindE e fun _ _ e => iteS e fun _ e => ih e
theorem Sound.dictComp {iter : Expr} {px1 px2 tp : Pos} {tn : Nat} {mi : M V} {n : Nat} (hc : c.Ok G) (hp : c.comp = none) (hq : q = true) (hok1 : compOk sc x1 = true) (hok2 : compOk sc x2 = true) (hne : x1 ≠ x2) (hs : noSet iter = true) (hCL : clos CL sc.names [] = some CL') (hi : Sound G c k q CL ρ relV (eval iter c.env) mi)
  (hk : ∀ C cl ρ, Sound G (c.inComp C sc cl) k q CL' ρ relV (eval kx (c.inComp C sc cl).env) (mk ρ)) (hx : ∀ C cl ρ, Sound G (c.inComp C sc cl) k q CL' ρ relV (eval vx (c.inComp C sc cl).env) (mv ρ)) :
  Sound G c k q CL ρ relV (eval (.DictComp kx vx [⟨.Tuple [.Name x1 px1, .Name x2 px2] tn tp, iter, [], 0⟩] sc pos) c.env) (M.bind mi fun y => M.bind (still fun st => itOf y st) fun it => M.bind (dcompM x1 x2 mk mv it n 0 []) fun l => newO (.sdict l)) := by
 intro st r e A s m news al Q E hA S hE hQ
 obtain ⟨hkind, hcell, hnames, _⟩ := compOk_of hok1
 obtain ⟨cl, hcl, _⟩ := clos_rel (al := al) S.C (acc := []) (accN := []) (fun x k e => by simp at e) hCL
 rw [arm_eval_DictComp]
 refine wpAny_comprehension_free (use := none) rfl (noSet_of hs) (closureFor_of (by rw [env_cells]; exact hcl)) hkind hnames ?_
 refine hi.go e hA S hE fun y st1 e1 v s1 n1 a1 S1 X1 R1 G1 => ?_
 refine still_go e1 fun it e2 e3 => ?_
 unfold M.bind at e3
 cases e4 : dcompM x1 x2 mk mv it n 0 [] st1 with
 | none => rw [e4] at e3; exact noS e3
 | some p =>
  obtain ⟨l, st2, rfl⟩ := dcompM_ok e4
  rw [e4] at e3
  refine compD_run (CL' := CL') hc hp hq hA hok1 hok2 hne hcl hCL (hk · cl) (hx · cl) e2 e4 S1 R1 fun C D s' n2 a2 kvs mm S' X' OC OD nCD hsys hN hD hV G' => ?_
  refine ⟨mm, hN, fun h' hs' => ?_⟩
  have S3 := S'.off OC (tk := s'.toks) fun b o hb e => (hs'.2 b hb).trans e
  obtain ⟨oD, hoD, hoD2⟩ := Heap.dictOf_iff.mp hD
  have hD' : h'.get? D = some oD := (hs'.2 D (Ne.symm nCD)).trans hoD
  have N3 : News S3.gr c.L h' ((D, oD) :: n2) := fun p hp => by
   rcases List.mem_cons.mp hp with rfl | hp
   ·exact ⟨hD', Ne.symm OD.ne, OD.oldg S3⟩
   ·exact S3.N p hp
  obtain ⟨S4, X4, r4⟩ := S3.newOwn (tk := s'.toks) (x := .sdict l) OD.out S3.F N3 (.sdict (.head _) hoD2 hsys (hV.kp ((Ext.owned OD.out).kp S3.H)))
  exact hQ _ _ (sInj e3).symm _ _ _ _ S4 (X1.trans S.H (X'.trans S1.H X4)) r4 (G1.trans (Same.trans G' ⟨rfl, rfl⟩))
end
theorem zip_lookup {α : Type} : ∀ {ns : List Str} {vs : List α}, ns.Nodup → vs.length = ns.length → (ns.filterMap fun n => ((ns.zip vs).lookup n).map (n, ·)) = ns.zip vs := by
 intro ns vs hn hl
 have key : ∀ (pre : List (Str × α)) (ns : List Str) (vs : List α), ns.Nodup → (∀ n ∈ ns, n ∉ pre.map (·.1)) → vs.length = ns.length → (ns.filterMap fun n => ((pre ++ ns.zip vs).lookup n).map (n, ·)) = ns.zip vs := by
  intro pre ns
  induction ns generalizing pre with
  | nil => intro vs _ _ _; rfl
  | cons n r ih =>
   intro vs hn hp hl
   cases vs with
   | nil => simp at hl
   | cons v vs =>
    rw [List.nodup_cons] at hn
    have h1 : (pre ++ (n :: r).zip (v :: vs)).lookup n = some v := by
     have hpn := hp n (.head _)
     clear ih hp
     induction pre with
     | nil => simp
     | cons p pre ihp =>
      simp only [List.map_cons, List.mem_cons, not_or] at hpn
      have : (n == p.1) = false := by simpa using hpn.1
      obtain ⟨p1, p2⟩ := p
      simp only [List.cons_append, List.lookup_cons, this]
      exact ihp hpn.2
    rw [List.filterMap_cons, h1]
    simp only [Option.map_some, List.zip_cons_cons]
    congr 1
    have e : pre ++ (n, v) :: r.zip vs = (pre ++ [(n, v)]) ++ r.zip vs := by simp
    rw [e]
    refine ih (pre ++ [(n, v)]) vs hn.2 (fun x hx => ?_) (by simpa using hl)
    simp only [List.map_append, List.map_cons, List.map_nil, List.mem_append, List.mem_singleton, not_or]
    exact ⟨hp x (.tail _ hx), fun e => hn.1 (e ▸ hx)⟩
 simpa using key [] ns vs hn (by simp) hl
theorem lookup_zip {α : Type} {n : Str} {ns : List Str} : ∀ {vs : List α}, vs.length = ns.length → n ∈ ns → ((ns.zip vs).lookup n).isNone = false := by
 induction ns with
 | nil => exact fun _ h => nomatch h
 | cons m ns ih =>
  intro vs hl h
  cases vs with
  | nil => exact nomatch hl
  | cons v vs =>
   rw [List.zip_cons_cons, List.lookup_cons]
   cases hx : n == m with
   | true => rfl
   | false => exact ih (Nat.succ.inj hl) ((List.mem_cons.mp h).resolve_left (beq_eq_false_iff_ne.mp hx))
theorem bind_at {ps : List Arg} {kd : List (Option Expr)} {df : List Expr} (fd : FuncData) {vs : List Value} (hp : fd.params = ⟨[], ps, none, [], kd, none, df⟩) (h5 : fd.defaults = .none) (hl : vs.length = (ps.map (·.arg)).length) (hn : (ps.map (·.arg)).Nodup) :
  bindArgs fd ⟨vs, []⟩ = pure ((ps.map (·.arg)).zip vs) := by
 have hfl : ∀ X, (((ps.map (·.arg)).take X).filter fun n => (((ps.map (·.arg)).zip vs).lookup n).isNone) = [] := fun X =>
  List.filter_eq_nil_iff.mpr fun n hm => by rw [lookup_zip hl (List.mem_of_mem_take hm)]; exact Bool.false_ne_true
 unfold bindArgs
 rw [hp, h5]
 show (if (decide (vs.length > (ps.map (·.arg)).length) && true) = true then _ else _) = _
 rw [if_neg (by rw [hl, decide_eq_false (Nat.lt_irrefl _)]; exact Bool.false_ne_true)]
 show (if (!(List.filter (fun n => (((ps.map (·.arg)).zip vs).lookup n).isNone) (List.take _ (ps.map (·.arg)))).isEmpty) = true then _ else _) = _
 rw [if_neg (by rw [hfl]; exact Bool.false_ne_true)]
 refine (?_ : (forIn (List.zip (List.drop _ (ps.map (·.arg))) (List.drop (0 - (ps.map (·.arg)).length) ([] : List Value))) ((ps.map (·.arg)).zip vs) _ >>= fun r : List (Str × Value) => pure ((ps.map (fun x : Arg => x.arg) ++ []).filterMap fun n => (r.lookup n).map (n, ·)) : Sem (List (Str × Value))) = _)
 rw [List.drop_nil, List.zip_nil_right, List.forIn_nil, pure_bind, List.append_nil, zip_lookup hn hl]
theorem args_eq (p : Arguments) (h1 : p.posonlyargs = []) (h2 : p.kwonlyargs = []) (h3 : p.vararg = none) (h4 : p.kwarg = none) : p = ⟨[], p.args, none, [], p.kw_defaults, none, p.defaults⟩ := by
 cases p
 dsimp only at h1 h2 h3 h4
 rw [h1, h2, h3, h4]
theorem bind_simple (fd : FuncData) {vs : List Value} (h1 : fd.params.posonlyargs = []) (h2 : fd.params.kwonlyargs = []) (h3 : fd.params.vararg = none) (h4 : fd.params.kwarg = none) (h5 : fd.defaults = .none) (hl : vs.length = (fd.params.args.map (·.arg)).length) (hn : (fd.params.args.map (·.arg)).Nodup) :
  bindArgs fd ⟨vs, []⟩ = pure ((fd.params.args.map (·.arg)).zip vs) := bind_at fd (args_eq _ h1 h2 h3 h4) h5 hl hn
structure Fn where
 qual : Str
 tab : Option Nat
 names : List Str
 dfl : List V
 body : List Stmt
 sc : Scope
def kindsOk (sc : Scope) (names : List Str) : Prop := ∀ n, ∀ x ∈ names, sc.names.lookup x = some .local ∨ (sc.names.lookup x = some .cell ∧ ((cellsFrom n sc.names []).lookup x).isSome = true)
structure FnOk (tabs : List (Addr × Addr)) (K : Frag) (f : Addr) (fn : Fn) : Prop where
 at_ : ∃ oc od osl name params dV kV doc pm an cdv ct, K.lookup f = some ⟨oc, od, .func (fnX name fn.qual params fn.body fn.sc [] dV kV doc pm an cdv ct), osl⟩ ∧ codeIn K cdv fn.qual = true ∧
  (∀ ti, fn.tab = some ti → ∃ cc P, cdv = .ref cc ∧ tabs[ti]? = some (cc, P)) ∧ ∃ dvs : List Value, (∀ news al, VRs K news al dvs fn.dfl) ∧ ∀ (s : Shared), K.In s.heap → ∀ vs : List Value, fn.names.length ≤ vs.length + fn.dfl.length → vs.length ≤ fn.names.length →
   BindsTo s (fnX name fn.qual params fn.body fn.sc [] dV kV doc pm an cdv ct) ⟨vs, []⟩ (fn.names.zip (vs ++ dvs.drop (vs.length + fn.dfl.length - fn.names.length)))
 kinds : kindsOk fn.sc fn.names
 nd : ((cellsFrom 0 fn.sc.names []).map (·.1)).Nodup
 co : fn.sc.isCoroutine = false
 gen : fn.sc.isGenerator = false
 kind : fn.sc.kind = .function
noncomputable def bindLV (sc : Scope) : List (Str × V) → Loc → Loc
 | [], ρ => ρ
 | (n, y) :: r, ρ => bindLV sc r (match sc.names.lookup n with
  | some .local => putF n y ρ
  | _ => ρ)
noncomputable def bindCV (sc : Scope) : List (Str × V) → Loc → Loc
 | [], ρ => ρ
 | (n, y) :: r, ρ => bindCV sc r (match sc.names.lookup n with
  | some .local => ρ
  | _ => putF n y ρ)
noncomputable def cellsV (cs : List Str) (cv : Loc) : Sto := cs.map fun n => .cell (cv.lookup n)
noncomputable def clV : List Str → Nat → List (Str × Nat)
 | [], _ => []
 | n :: r, k => (n, k) :: clV r (k + 1)
noncomputable def retV : Fl → V
 | .ret y => y
 | _ => .none
def fnOut : Option (Except Addr (Fl × Loc) × Sto) → Option (Except Addr V × Sto)
 | some (.ok p, st') => some (.ok (retV p.1), st')
 | some (.error C, st') => some (.error C, st')
 | none => none
def fnM (fn : Fn) (body : List (Str × Nat) → Loc → M (Fl × Loc)) (args : List V) : M V := fun st =>
 if fn.names.length ≤ args.length + fn.dfl.length ∧ args.length ≤ fn.names.length then
  let binds := fn.names.zip (args ++ fn.dfl.drop (args.length + fn.dfl.length - fn.names.length))
  let cs := (cellsFrom 0 fn.sc.names []).map (·.1)
  fnOut (body (clV cs st.length) (bindLV fn.sc binds []) (st ++ cellsV cs (bindCV fn.sc binds [])))
 else none
theorem fnOut_some {o : Option (Except Addr (Fl × Loc) × Sto)} {r : Except Addr V × Sto} {P : Prop} (e : fnOut o = some r) (k : ∀ p st2, o = some (.ok p, st2) → (.ok (retV p.1), st2) = r → P) (k2 : ∀ C st2, o = some (.error C, st2) → (.error C, st2) = r → P) : P := by
 cases o with
 | none => exact noS e
 | some p =>
  obtain ⟨r1, st1⟩ := p
  cases r1 with
  | ok a => exact k a st1 rfl (sInj e)
  | error C => exact k2 C st1 rfl (sInj e)
set_option backward.match.sparseCases true in
theorem FlR.retV {K : Frag} {news : Led} {al : Al} {f : Flow} {fl : Fl} : FlR K news al f fl → VR K news al (match f with | .ret v => v | _ => .none) (retV fl) := fun h => by
 cases h with
 | ret h => exact h
 | _ => exact .none
section
variable {K : Frag} {news : Led} {al : Al}
inductive BR (K : Frag) (news : Led) (al : Al) : List (Str × Value) → List (Str × V) → Prop where
 | nil : BR K news al [] []
 | cons {n : Str} {v : Value} {y : V} {bs : List (Str × Value)} {ys : List (Str × V)} : VR K news al v y → BR K news al bs ys → BR K news al ((n, v) :: bs) ((n, y) :: ys)
theorem VRs.zip {vs : List Value} {l : List V} (h : VRs K news al vs l) (ns : List Str) : BR K news al (ns.zip vs) (ns.zip l) := by
 induction h using VRs.ind generalizing ns with
 | nil => rw [List.zip_nil_right, List.zip_nil_right]; exact .nil
 | cons h hs ih => cases ns with
  | nil => exact .nil
  | cons n ns => exact .cons h (ih ns)
theorem bindL_rel {sc : Scope} {kindOf : Str → Option NameKind} (hk : ∀ x, kindOf x = sc.names.lookup x) {bs : List (Str × Value)} {ys : List (Str × V)} (hb : BR K news al bs ys) {m : Str → Option Value} {ρ : Loc}
  (h : ∀ x y, ρ.lookup x = some y → ∃ v, m x = some v ∧ VR K news al v y) : ∀ x y, (bindLV sc ys ρ).lookup x = some y → ∃ v, bindL kindOf bs m x = some v ∧ VR K news al v y := by
 induction hb generalizing m ρ with
 | nil => exact h
 | @cons n v y bs ys hv hs ih =>
  unfold bindLV bindL
  refine ih fun x z => ?_
  rw [hk]
  cases sc.names.lookup n with
  | none => exact h x z
  | some kd => cases kd with
   | «local» =>
    dsimp only
    rw [if_pos rfl, putF_lookup]
    by_cases hx : x = n
    ·rw [if_pos hx, if_pos hx]; exact fun e => ⟨v, rfl, sInj e ▸ hv⟩
    ·rw [if_neg hx, if_neg hx]; exact h x z
   | _ => exact h x z
theorem bindC_rel {sc : Scope} {kindOf : Str → Option NameKind} (hk : ∀ x, kindOf x = sc.names.lookup x) {bs : List (Str × Value)} {ys : List (Str × V)} (hb : BR K news al bs ys) {m : Str → Option Value} {ρ : Loc}
  (h : ∀ x, (∀ y, ρ.lookup x = some y → ∃ v, m x = some v ∧ VR K news al v y) ∧ (ρ.lookup x = none → m x = none)) : ∀ x, (∀ y, (bindCV sc ys ρ).lookup x = some y → ∃ v, bindC kindOf bs m x = some v ∧ VR K news al v y) ∧ ((bindCV sc ys ρ).lookup x = none → bindC kindOf bs m x = none) := by
 induction hb generalizing m ρ with
 | nil => exact h
 | @cons n v y bs ys hv hs ih =>
  unfold bindCV bindC
  refine ih fun x => ?_
  rw [hk]
  have put : (∀ y', (putF n y ρ).lookup x = some y' → ∃ v', (if x = n then some v else m x) = some v' ∧ VR K news al v' y') ∧ ((putF n y ρ).lookup x = none → (if x = n then some v else m x) = none) := by
   rw [putF_lookup]
   by_cases hx : x = n
   ·rw [if_pos hx, if_pos hx]
    exact ⟨fun y' e => ⟨v, rfl, sInj e ▸ hv⟩, nofun⟩
   ·rw [if_neg hx, if_neg hx]
    exact h x
  cases sc.names.lookup n with
  | none => exact put
  | some kd => cases kd with
   | «local» => exact h x
   | _ => exact put
theorem BR.kp {news' : Led} {al' : Al} (X : Kp news al news' al') {bs : List (Str × Value)} {ys : List (Str × V)} (h : BR K news al bs ys) : BR K news' al' bs ys := by
 induction h with
 | nil => exact .nil
 | cons h _ ih => exact .cons (h.kp X) ih
end
theorem cellsFrom_fst : ∀ (names : List (Str × NameKind)) (n n' : Nat) (acc acc' : List (Str × Addr)), acc.map (·.1) = acc'.map (·.1) → (cellsFrom n names acc).map (·.1) = (cellsFrom n' names acc').map (·.1) := cellsFrom_names
theorem cellsFrom_snd : ∀ (names : List (Str × NameKind)) (n : Nat) (acc : List (Str × Addr)), (∀ p ∈ acc, p.2 < n) → (acc.map (·.2)).Nodup → ((cellsFrom n names acc).map (·.2)).Nodup ∧ ∀ p ∈ cellsFrom n names acc, p ∈ acc ∨ n ≤ p.2
 | [], n, acc, h1, h2 => ⟨h2, fun p hp => .inl hp⟩
 | (name, kind) :: r, n, acc, h1, h2 => by
  unfold cellsFrom
  split
  ·obtain ⟨g1, g2⟩ := cellsFrom_snd r (n + 1) ((name, n) :: acc) (fun p hp => by
    rcases List.mem_cons.mp hp with rfl | hp
    ·exact Nat.lt_succ_self _
    ·exact Nat.lt_succ_of_lt (h1 p hp)) (by
    simp only [List.map_cons, List.nodup_cons]
    refine ⟨fun q => ?_, h2⟩
    obtain ⟨p, hp, e⟩ := List.mem_map.mp q
    exact absurd (h1 p hp) (by rw [e]; exact Nat.lt_irrefl _))
   refine ⟨g1, fun p hp => ?_⟩
   rcases g2 p hp with hp | hp
   ·rcases List.mem_cons.mp hp with rfl | hp
    ·exact .inr (Nat.le_refl _)
    ·exact .inl hp
   ·exact .inr (Nat.le_of_succ_le hp)
  ·exact cellsFrom_snd r n acc h1 h2
section
variable {G : Pg} {c : Act} {k : Nat} {q : Bool} {CL : List (Str × Nat)} {ρ : Loc} {m : Str → Option Value} {s s' : Shared} {news news' : Led} {al al' : Al} {st st' : Sto} {A : Around} {E : Value → Shared → Prop} {pos : Pos}
theorem cells_in {K : Frag} {prog : Program} {w : World} {cm : Str → Option Value} {cv : Loc} : ∀ {cs : List (Str × Addr)} {cells : Led} {news : Led} {al : Al} {st : Sto}, CellsAre cm cs cells → HR K prog w news al st → (cs.map (·.2)).Nodup → (∀ p ∈ cs, p.2 ∉ news.map (·.1)) →
  (∀ x, (∀ y, cv.lookup x = some y → ∃ v, cm x = some v ∧ VR K news al v y) ∧ (cv.lookup x = none → cm x = none)) →
  HR K prog w (cells.reverse ++ news) (al ++ cells.map fun p => (p.1, none)) (st ++ cellsV (cs.map (·.1)) cv) ∧ Ext news al (cells.reverse ++ news) (al ++ cells.map fun p => (p.1, none)) ∧
  ∀ x k, (clV (cs.map (·.1)) st.length).lookup x = some k → ∃ a, cs.lookup x = some a ∧ (al ++ cells.map fun p => (p.1, (none : Option Addr)))[k]? = some (a, none)
 | [], _, news, al, st, .nil, H, _, _, _ => by
  refine ⟨by simpa [cellsV] using H, by simpa using Ext.refl, fun x k e => ?_⟩
  simp [clV] at e
 | (n, a) :: cs, _, news, al, st, .cons (o := o) (cells := cells) hd hs, H, hn, hf, hr => by
  simp only [List.map_cons, List.nodup_cons] at hn
  have ha : a ∉ news.map (·.1) := hf (n, a) (.head _)
  have hx : OR K prog w ((a, o) :: news) (al ++ [(a, none)]) (a, none) (.cell (cv.lookup n)) := by
   obtain ⟨h1, h2⟩ := hr n
   cases e : cv.lookup n with
   | none => exact .cell0 (.head _) (by rw [hd, h2 e])
   | some y =>
    obtain ⟨v, g1, g2⟩ := h1 y e
    exact .cell (.head _) (by rw [hd, g1]) (g2.kp ((Ext.owned ha).kp H))
  have H1 := H.owned (x := .cell (cv.lookup n)) ha hx
  have X1 : Ext news al ((a, o) :: news) (al ++ [(a, none)]) := Ext.owned ha
  obtain ⟨H2, X2, L2⟩ := cells_in hs H1 hn.2 (fun p hp => by
   simp only [List.map_cons, List.mem_cons, not_or]
   exact ⟨fun e => hn.1 (by rw [← e]; exact List.mem_map_of_mem (f := (·.2)) hp), hf p (.tail _ hp)⟩)
   fun x => ⟨fun y e => by obtain ⟨v, g1, g2⟩ := (hr x).1 y e; exact ⟨v, g1, g2.kp (X1.kp H)⟩, (hr x).2⟩
  have e1 : (((a, o) :: cells).reverse ++ news) = cells.reverse ++ (a, o) :: news := by simp
  have e2 : (al ++ ((a, o) :: cells).map fun p => (p.1, (none : Option Addr))) = (al ++ [(a, none)]) ++ cells.map fun p => (p.1, none) := by simp
  have e3 : st ++ cellsV ((n, a) :: cs |>.map (·.1)) cv = (st ++ [.cell (cv.lookup n)]) ++ cellsV (cs.map (·.1)) cv := by simp [cellsV]
  rw [e1, e2, e3]
  refine ⟨H2, X1.trans H X2, fun x k e => ?_⟩
  simp only [List.map_cons, clV, List.lookup_cons] at e ⊢
  cases hx' : x == n with
  | true =>
   rw [hx'] at e; cases e
   refine ⟨a, rfl, ?_⟩
   rw [← H.len]; simp
  | false =>
   rw [hx'] at e
   exact L2 x k (by rw [List.length_append]; exact e)
structure InFn (G : Pg) (c : Act) (fn : Fn) : Prop where
 comp : c.comp = none
 cs : c.cs = fn.sc
 cn : c.cn = fn.qual
 tab : ∀ ti, fn.tab = some ti → ∃ cc P, c.ccd = .ref cc ∧ G.tabs[ti]? = some (cc, P)
set_option backward.match.sparseCases true in
theorem enter_fn {prog : Program} {w : World} {tabs : List (Addr × Addr)} {K : Frag} {f : Addr} {fn : Fn} {vs : List Value} {R : Result → Shared → Prop} (hf : FnOk tabs K f fn) (X : K.In s.heap) (hl : s.heap.NoLimit) (hroom : A.depth < recursionLimit) (h1 : fn.names.length ≤ vs.length + fn.dfl.length) (h2 : vs.length ≤ fn.names.length)
  (k : ∀ cdv dvs h₁ tk cells, (∀ ti, fn.tab = some ti → ∃ cc P, cdv = .ref cc ∧ tabs[ti]? = some (cc, P)) → (∀ news al, VRs K news al dvs fn.dfl) → h₁.Ns s.heap.objs.size (bindL (envOfC fn.qual fn.sc s.heap.objs.size f cdv).kindOf (fn.names.zip (vs ++ dvs.drop (vs.length + fn.dfl.length - fn.names.length))) fun _ => none) →
   (∀ b o, s.heap.get? b = some o → h₁.get? b = some o) → News s.heap s.heap.objs.size h₁ cells → CellsAre (bindC (envOfC fn.qual fn.sc s.heap.objs.size f cdv).kindOf (fn.names.zip (vs ++ dvs.drop (vs.length + fn.dfl.length - fn.names.length))) fun _ => none) (cellsFrom (s.heap.objs.size + 1) fn.sc.names []) cells →
   wpAny (model prog w) (A.deeper (envOfC fn.qual fn.sc s.heap.objs.size f cdv)) (execs fn.body (envOfC fn.qual fn.sc s.heap.objs.size f cdv)) (fun fl s' => R (.ok (.ret (match fl with | .ret v => v | _ => .none))) s')
    (fun e s' => wpAny (model prog w) (A.deeper (envOfC fn.qual fn.sc s.heap.objs.size f cdv)) (leaving (envOfC fn.qual fn.sc s.heap.objs.size f cdv) e) (fun _ s'' => R (.error e) s'') (fun e' s'' => R (.error e') s'') s') { s with heap := h₁, toks := tk }) :
  codeAny (model prog w) A (.call (.ref f) ⟨vs, []⟩) R s := by
 obtain ⟨oc, od, osl, name, params, dV, kV, doc, pm, an, cdv, ct, hK, hcode, htab, dvs, hdv, hbind⟩ := hf.at_
 refine codeAny_call_function hroom (X _ _ hK) rfl hf.co hf.gen rfl (codeRec_of X hcode) (hbind s X vs h1 h2 _ _ _ _ ?_)
 refine wpAny_newFunctionEnv_cells hf.kind (fun x hx => hf.kinds _ _ (List.of_mem_zip hx).1) fun env' he s' x => ?_
 subst he
 refine ⟨hl.keeps x.toInCall.keep, codeAny_func ?_⟩
 obtain ⟨h₁, tk, rfl, _⟩ := x.done
 obtain ⟨cells, NC, Y⟩ := Cl.news (h₀ := s.heap) (Nat.le_refl _) fun n c hm => ⟨x.cell n c (lookup_of_mem_nodup (cellsFrom_names fn.sc.names 0 (s.heap.objs.size + 1) [] [] rfl ▸ hf.nd) hm), x.above n c hm⟩
 exact k cdv dvs h₁ tk cells htab hdv x.toInCall.ns x.toInCall.keep NC Y
abbrev Act.into (G : Pg) (c : Act) (A : Around) (g : Heap) (cn : Str) (cs : Scope) (L f : Addr) (cdv : Value) (cl : List (Str × Addr)) : Act := Act.std G { c with A₀ := A, h₀ := g, outer := c.fenv :: c.outer, cn := cn, cs := cs, L := L, a := f, ccd := cdv, cl := cl, comp := none }
theorem into_ok {g : Heap} {cn : Str} {cs : Scope} {L f : Addr} {cdv : Value} {cl : List (Str × Addr)} (hc : c.Ok G) (hk : cs.kind = .function) (B : Below A c.base (c.fenv :: c.outer) g) : (c.into G A g cn cs L f cdv cl).Ok G :=
 ⟨B, hk, fun _ _ _ h => noS h, hc.X, hc.T, hc.cd, std_fl, std_fn, std_fh⟩
theorem into_err {g : Heap} {cn : Str} {cs : Scope} {L f : Addr} {cdv : Value} {cl : List (Str × Addr)} {n1 : Led} {a1 : Al} {s1 : Shared} {α : Type} {r : Except Addr α × Sto} {R : Result → Shared → Prop} (hc : c.Ok G) (hk : cs.kind = .function) (S : St G c CL ρ m s news al st) (FG : Fr S.gr c.L g m) (B : Below A c.base (c.fenv :: c.outer) g) (X1 : Ext news al n1 a1) (G1 : Same s s1)
  (hR : ∀ C st', r = (.error C, st') → ∀ v s' n2 a2, c.fly m C v s' n2 a2 st' → Ext news al n2 a2 → Same s s' → R (.error v) s') :
  ErrS (c.into G A g cn cs L f cdv cl) (fun e s' => wpAny (model G.prog c.w) (A.deeper (envX cn cs L f cdv cl)) (leaving (envX cn cs L f cdv cl) e) (fun _ s'' => R (.error e) s'') (fun e' s'' => R (.error e') s'') s') s1 n1 a1 r := by
 intro C st' hr m' v s' n2 a2 hf X2 G2
 have X := X1.trans S.H X2
 rcases hf with ⟨T, F, u, Rs, H⟩ | ⟨T, F, N, hx, H⟩ | ⟨T, F, u, Rs, H⟩
 ·refine leave_on rfl B.stack F Rs u fun h' R1 u1 => ?_
  exact hR C st' hr _ _ n2 a2 (S.fly hc FG T rfl R1 u1 H) X (Same.trans G1 (Same.trans G2 ⟨rfl, rfl⟩))
 ·refine leave_new rfl hk (below_turn B T) F N hx fun h' R1 u1 => ?_
  exact hR C st' hr _ _ n2 a2 (S.fly hc FG T rfl R1 u1 H) X (Same.trans G1 (Same.trans G2 ⟨rfl, rfl⟩))
 ·refine leave_held rfl F Rs u fun h' R1 u1 => ?_
  exact hR C st' hr _ _ n2 a2 (S.fly hc FG T rfl R1 u1 H) X (Same.trans G1 (Same.trans G2 ⟨rfl, rfl⟩))
set_option backward.match.sparseCases true in
theorem fnCall {f : Addr} {fn : Fn} {body : List (Str × Nat) → Loc → M (Fl × Loc)} {vs : List Value} {args : List V} {r : Except Addr V × Sto} {R : Result → Shared → Prop} (hc : c.Ok G) (hf : FnOk G.tabs (G.K c.w.params) f fn)
  (hb : ∀ (c' : Act) (CL' : List (Str × Nat)), c'.Ok G → InFn G c' fn → SoundS G c' k q CL' (execs fn.body c'.env) (body CL'))
  (hfr : A.frames = some (c.fenv :: c.outer)) (hd : A.depth + 8 * k + 20 < recursionLimit) (hu : A.units + 64 * k + 140 < cLine) (hh : q = true → A.handled = none)
  (S : St G c CL ρ m s news al st) (hs : VRs (G.K c.w.params) news al vs args) (e : fnM fn body args st = some r)
  (hE : ∀ C st', r = (.error C, st') → ∀ v s' n2 a2, c.fly m C v s' n2 a2 st' → Ext news al n2 a2 → Same s s' → R (.error v) s')
  (hR : ∀ y st', r = (.ok y, st') → ∀ v s' news' al', St G c CL ρ m s' news' al' st' → Ext news al news' al' → VR (G.K c.w.params) news' al' v y → Same s s' → R (.ok (.ret v)) s') :
  codeAny (model G.prog c.w) A (.call (.ref f) ⟨vs, []⟩) R s := by
 refine iteS e fun hlen e => ?_
 have hlv := hs.length
 obtain ⟨FG, BG, stG, _⟩ := groundX (R := R) (S.B hc) S.F S.N hfr rfl hc.hk
 refine enter_fn hf (hc.X.keeps (S.sty hc)) ((S.TG hc).nolimit.keeps S.F.keep) (by lia) (by lia) (by lia) fun cdv dvs h₁ tk cells htab hdv hns hk₁ NC Y => ?_
 have hbr : BR (G.K c.w.params) news al (fn.names.zip (vs ++ dvs.drop (vs.length + fn.dfl.length - fn.names.length))) (fn.names.zip (args ++ fn.dfl.drop (args.length + fn.dfl.length - fn.names.length))) := by
  rw [hlv]
  exact VRs.zip (hs.append ((hdv _ _).drop _)) _
 have hlt : ∀ p ∈ news, p.1 < s.heap.objs.size := fun p hp => Heap.lt_size (S.N p hp).1
 obtain ⟨gc1, gc2⟩ := cellsFrom_snd fn.sc.names (s.heap.objs.size + 1) [] nofun List.nodup_nil
 have hnew : ∀ p ∈ cellsFrom (s.heap.objs.size + 1) fn.sc.names [], p.2 ∉ news.map (·.1) := fun p hp q => by
  obtain ⟨x, hx, e⟩ := List.mem_map.mp q
  have h1 := hlt x hx
  exact (gc2 p hp).elim (fun h => nomatch h) fun h => absurd (Nat.lt_of_lt_of_le (e ▸ h1) (Nat.le_of_succ_le h)) (Nat.lt_irrefl _)
 have hnames : (cellsFrom (s.heap.objs.size + 1) fn.sc.names []).map (·.1) = (cellsFrom 0 fn.sc.names []).map (·.1) := cellsFrom_names _ _ _ _ _ rfl
 obtain ⟨H1, X1, L1⟩ := cells_in (cv := bindCV fn.sc (fn.names.zip (args ++ fn.dfl.drop (args.length + fn.dfl.length - fn.names.length))) []) Y S.H gc1 hnew
  (bindC_rel (sc := fn.sc) (fun x => rfl) hbr fun x => ⟨fun y e => by simp at e, fun _ => rfl⟩)
 rw [hnames] at H1 L1
 have hc' := into_ok (cn := fn.qual) (cs := fn.sc) (L := s.heap.objs.size) (f := f) (cdv := cdv) (cl := cellsFrom (s.heap.objs.size + 1) fn.sc.names []) hc hf.kind BG
 have S1 : St G (c.into G A (hideAll s.heap (news.map (·.1))) fn.qual fn.sc s.heap.objs.size f cdv (cellsFrom (s.heap.objs.size + 1) fn.sc.names [])) (clV ((cellsFrom 0 fn.sc.names []).map (·.1)) st.length) (bindLV fn.sc (fn.names.zip (args ++ fn.dfl.drop (args.length + fn.dfl.length - fn.names.length))) [])
   (bindL (envOfC fn.qual fn.sc s.heap.objs.size f cdv).kindOf (fn.names.zip (vs ++ dvs.drop (vs.length + fn.dfl.length - fn.names.length))) fun _ => none) { s with heap := h₁, toks := tk } (cells.reverse ++ news) (al ++ cells.map fun p => (p.1, none)) (st ++ cellsV ((cellsFrom 0 fn.sc.names []).map (·.1)) (bindCV fn.sc (fn.names.zip (args ++ fn.dfl.drop (args.length + fn.dfl.length - fn.names.length))) [])) := by
  refine ⟨⟨_, .refl, ⟨hns, fun b o e => hk₁ b o (of_hideAll _ e), Nat.le_of_eq (hideAll_size _ _)⟩, fun p hp => (List.mem_append.mp hp).elim (fun hp => ?_) fun hp => ⟨hk₁ _ _ (S.N p hp).1, Nat.ne_of_lt (hlt p hp), hideAll_none _ (List.mem_map_of_mem hp)⟩⟩, H1, ?_, L1, fun i q e => (X1.kp S.H).at (S.I i q e)⟩
  ·obtain ⟨n1, n2, n3⟩ := NC p (List.mem_reverse.mp hp)
   refine ⟨n1, n2, ?_⟩
   cases q : (hideAll s.heap (news.map (·.1))).get? p.1 with
   | none => exact q
   | some o => exact noS (n3.symm.trans (of_hideAll _ q))
  ·exact bindL_rel (sc := fn.sc) (fun x => rfl) (hbr.kp (X1.kp S.H)) fun x y e => by simp at e
 have hA' : Ar (c.into G A (hideAll s.heap (news.map (·.1))) fn.qual fn.sc s.heap.objs.size f cdv (cellsFrom (s.heap.objs.size + 1) fn.sc.names [])) k q (A.deeper (envOfC fn.qual fn.sc s.heap.objs.size f cdv)) :=
  ⟨Around.frames_deeper hfr, by show A.depth + 1 + 8 * k + 16 < recursionLimit; lia, by show A.units + 3 + 64 * k + 128 < cLine; lia, hh⟩
 refine fnOut_some e (fun p st2 hbody e => ?_) fun C st2 hbody e => ?_
 ·refine hb _ _ hc' ⟨rfl, rfl, rfl, htab⟩ _ _ _ hbody _ _ _ _ _ _ _ hA' S1 (nofun) fun fl ρ' st' z f2 s2 m2 n2 a2 S2 X2 R2 G2 => ?_
  have X := X1.trans S.H X2
  obtain ⟨z1, z2⟩ := Prod.mk.inj z
  rw [Except.ok.inj z1, z2] at e
  exact hR _ _ e.symm _ _ n2 a2 (S.back hc FG S2.T S2.F S2.N X S2.H) X R2.retV (Same.trans ⟨rfl, rfl⟩ G2)
 ·refine hb _ _ hc' ⟨rfl, rfl, rfl, htab⟩ _ _ _ hbody _ _ _ _ _ _ _ hA' S1 (into_err hc hf.kind S FG BG X1 ⟨rfl, rfl⟩ fun C' st' z => ?_) nofun
  obtain ⟨z1, z2⟩ := Prod.mk.inj z
  exact hE C' st' (by rw [← e, ← z2]; rw [Except.error.inj z1])
end
noncomputable abbrev bmE : List Value := [.type "Exception", .type "BaseException", .type "object"]
theorem excF : ExcBaseFacts "Exception" "Exception.__new__" "Exception.__init__" bmE := PySem.F.excBase_Exception
theorem has2 {C P : Addr} {T : String} {b : Bool} (h : bmE.contains (.type T) = b) : (Value.ref C :: Value.ref P :: bmE).contains (.type T) = b := by
 rw [List.contains_cons, List.contains_cons, h]; rfl
inductive ClsAt (h : Heap) (C : Addr) (bm : List Value) (mN : Str → Option Value) : Prop
 | mk {nm q N bs sn sub ab col dd k0 k1 k2 k3 k5} : h.get? C = some (excClassObj nm q C N bs bm true sn sub ab col dd k0 k1 k2 k3 k5 "Exception.__new__") → h.Ns N mN → ClsAt h C bm mN
theorem ns_keeps {h h' : Heap} {N : Addr} {mN : Str → Option Value} (n : h.Ns N mN) (k : ∀ b o, h.get? b = some o → h'.get? b = some o) : h'.Ns N mN :=
 let ⟨o, es, ep, e, r⟩ := n; ⟨o, es, ep, k _ _ e, r⟩
theorem ClsAt.keeps {h h' : Heap} {C : Addr} {bm : List Value} {mN : Str → Option Value} (c : ClsAt h C bm mN) (k : ∀ b o, h.get? b = some o → h'.get? b = some o) : ClsAt h' C bm mN :=
 let ⟨hC, hn⟩ := c; ⟨k _ _ hC, ns_keeps hn k⟩
section
variable {prog : Program} {w : World} {A : Around} {E : Value → Shared → Prop} {h : Heap} {g : Array GenState} {d : Drawn} {t : Nat} {os : OsState} {C P e : Addr} {bm : List Value} {mN mP : Str → Option Value}
theorem look2 {M : Model} {name : Str} {y : Option Value} {Q : Option Value → Shared → Prop} (c1 : ClsAt h C (.ref P :: bmE) mN) (c2 : ClsAt h P bmE mP) (hB : typeLookup (.type "Exception") name = pure y)
  (hq : Q ((mN name).or ((mP name).or y)) ⟨h, g, d, t, os⟩) : wpAny M A (typeLookup (.ref C) name) Q E ⟨h, g, d, t, os⟩ := by
 obtain ⟨hC, hn⟩ := c1
 obtain ⟨hP, hm⟩ := c2
 have hrest : lookupAlong bmE name = pure y := by rw [typeLookup_eq, excF.mroIs] at hB; exact hB
 rw [typeLookup_eq]
 refine wpAny_bind (wpAny_mroOf_exc hC ?_)
 rw [lookupAlong_cons]
 refine wpAny_bind (wpAny_classOwn_exc hC hn ?_)
 cases hv : mN name with
 | some v => rw [hv] at hq; exact wpAny_pure hq
 | none =>
  rw [hv] at hq
  show wpAny _ _ (lookupAlong (.ref P :: bmE) name) _ _ _
  rw [lookupAlong_cons]
  refine wpAny_bind (wpAny_classOwn_exc hP hm ?_)
  cases hv2 : mP name with
  | some v => rw [hv2] at hq; exact wpAny_pure hq
  | none =>
   rw [hv2] at hq
   show wpAny _ _ (lookupAlong bmE name) _ _ _
   rw [hrest]; exact wpAny_pure hq
theorem exc_new {R : Result → Shared → Prop} {rest : List Value} (c1 : ClsAt h C (.ref P :: bmE) mN) (hrest : rest.length ≤ sizeLine)
  (hq : R (.ok (.ret (.ref (h.objs.size + 1)))) ⟨(h.push { cls := .type "tuple", data := .seq rest.toArray }).push { cls := .ref C, data := .fields #[.ref h.objs.size, .none, .none, .none, .bool false, .none] }, g, d, t, os⟩) :
  codeAny (model prog w) A (.builtin "Exception.__new__" ⟨.ref C :: rest, []⟩) R ⟨h, g, d, t, os⟩ := by
 obtain ⟨hC, hn⟩ := c1
 have F := excF
 have hends := F.ends
 have hcB : (Value.ref C :: Value.ref P :: bmE).contains (.type "Exception") = true := has2 F.hasB
 have hcA : (Value.ref C :: Value.ref P :: bmE).contains (.type "AttributeError") = false := has2 F.noAttr
 have hcN : (Value.ref C :: Value.ref P :: bmE).contains (.type "NameError") = false := has2 F.noName
 refine codeAny_builtinAt F.entry ?_
 unfold Builtin.«BaseException.__new__»
 refine PySem.wpAt_bind ?_
 show PySem.wpAt _ _ _ (stack >>= _) _ _ _
 refine PySem.wpAt_bind (PySem.wpAt_stack fun p below => PySem.wpAt_of_wpAny ?_)
 wp_walk
 refine PySem.wpAt_of_wpAny ?_
 rw [F.owner]
 repeat (first | with_reducible refine wpAny_madeHere_exc F.canon hC ?_ | with_reducible refine wpAny_loadPart_at hC ?_ | (with_reducible refine wpAny_isSubtype_exc hC ?_; first | rw [hcB] | rw [hcA] | rw [hcN]) | wp_step)
 show R _ _
 rw [Heap.size_push]
 exact hq
theorem check_new2 {M : Model} {rest : List Value} {Q : Unit → Shared → Prop} (c1 : ClsAt h C (.ref P :: bmE) mN) (hq : Q () ⟨h, g, d, t, os⟩) : wpAny M A (checkBuiltinCall "Exception.__new__" ⟨.ref C :: rest, []⟩) Q E ⟨h, g, d, t, os⟩ := by
 obtain ⟨hC, hn⟩ := c1
 have F := excF
 have hcont : (Value.ref C :: Value.ref P :: bmE).contains (.type "Exception") = true := has2 F.hasB
 have hstar := F.noStar
 simp only [checkBuiltinCall, F.newKind, F.newSplit, F.newRow]
 repeat (first | refine wpAny_loadPart_at hC ?_ | (refine wpAny_isSubtype_exc hC ?_; rw [hcont]) | refine wpAny_staticBase_exc hC ?_ | refine wpAny_madeBy_exc hC ?_ | simp only [bne_self_eq_false, Bool.false_eq_true, if_false] | wp_step)
 exact hq
noncomputable abbrev excO (C a : Addr) : Obj := { cls := .ref C, data := .fields #[.ref a, .none, .none, .none, .bool false, .none] }
theorem exc_call {rest : List Value} {fI : Addr} {oI : Obj} {Q : Value → Shared → Prop} (c1 : ClsAt h C (.ref P :: bmE) mN) (c2 : ClsAt h P bmE mP) (n1 : mN "__init__" = none) (n2 : mP "__init__" = some (.ref fI)) (hfI : h.get? fI = some oI) (hfc : oI.cls = .type "function") (hrest : rest.length ≤ sizeLine)
  (hq : ∀ h' e, (∀ b o, h.get? b = some o → h'.get? b = some o) → h.get? e = none → h'.get? e = some (excO C h.objs.size) → h.get? h.objs.size = none → h'.objs.size = h.objs.size + 2 →
   wpAny (model prog w) (A.under (.builtin "type.__call__" ⟨.ref C :: rest, []⟩)) (call (.ref fI) (.ref e :: rest)) (fun r s' => r = .none ∧ Q (.ref e) s') E ⟨h', g, d, t, os⟩) :
  wpAny (model prog w) A (call (.ref C) rest) Q E ⟨h, g, d, t, os⟩ := by
 have F := excF
 have c1' := c1
 obtain ⟨hC, hn⟩ := c1'
 have f1 := tc_lookup
 have f2 := tc_bind (.ref C)
 have hT : (⟨h, g, d, t, os⟩ : Shared).TypeIs (.ref C) "type" := ⟨_, hC, rfl⟩
 refine wpAny_call (codeAny_of_tree ?_)
 show wpAny _ _ (callAny (.ref C) _) _ _ _
 repeat (any_goals (first | assumption | with_reducible refine wpAny_loadPart_at hC ?_ | wp_step))
 refine ⟨rfl, ?_⟩
 refine codeAny_call_builtin_at (Code.quiet_builtin _ (by decide +kernel)) entry_typeCall (wpAny_check_type_call_sub hC ?_)
 repeat (first | with_reducible refine wpAny_loadPart_at hC ?_ | with_reducible refine wpAny_madeBy_exc hC ?_ | wp_step)
 refine codeAny_call_builtin_code (Code.quiet_builtin _ F.quiet) (check_new2 c1 ?_)
 refine exc_new c1 hrest ?_
 show wpAny _ _ _ _ _ _
 have kk : ∀ b o, h.get? b = some o → ((h.push { cls := .type "tuple", data := .seq rest.toArray }).push { cls := .ref C, data := .fields #[.ref h.objs.size, .none, .none, .none, .bool false, .none] }).get? b = some o := fun b o hb => Heap.get?_push_of_some _ (Heap.get?_push_of_some _ hb)
 have hget : ((h.push { cls := .type "tuple", data := .seq rest.toArray }).push { cls := .ref C, data := .fields #[.ref h.objs.size, .none, .none, .none, .bool false, .none] }).get? (h.objs.size + 1) = some { cls := .ref C, data := .fields #[.ref h.objs.size, .none, .none, .none, .bool false, .none] } := Heap.get?_push_at (by rw [Heap.size_push]) rfl
 have hcC : (Value.ref C :: Value.ref P :: bmE).contains (.ref C) = true := by simp
 have hC1 := kk _ _ hC
 unfold isInstance
 repeat (first | with_reducible refine wpAny_loadPart_at hget ?_ | wp_step)
 refine wpAny_isSubtype_exc hC1 ?_
 rw [hcC]
 repeat wp_step
 show wpAny _ _ (typeLookup (.ref C) _) _ _ _
 refine look2 (c1.keeps kk) (c2.keeps kk) F.init.lookup ?_
 rw [n1, n2]
 refine wpAny_holding (wpAny_bind ?_)
 unfold bindSpecial
 refine wpAny_bind (wpAny_typeOf (T := "function") ⟨_, kk _ _ hfI, hfc⟩ ?_)
 rw [if_pos (by decide)]
 refine wpAny_pure (wpAny_bind (wpAny_mono (hq _ (h.objs.size + 1) kk (Heap.get?_none_of_le (Nat.le_succ _)) hget (Heap.get?_none_of_le (Nat.le_refl _)) (by rw [Heap.size_push, Heap.size_push])) (fun r s' hr => ?_) fun _ _ x => x))
 obtain ⟨rfl, hQ⟩ := hr
 wp_walk
 exact hQ
open Builtin Builtin.ObjectAttr in
theorem stored {x : Addr} {o : Obj} {name : Str} {v : Value} {tk : Tok} {mA : Str → Option Value} {Q : Fin → Shared → Prop} (hx : h.get? x = some o) (hdn : o.dict = none) (hc : o.cls = .ref C) (hnc : ∀ c, o.data ≠ .cls c) (hxs : x ≠ h.objs.size) (hmA : ∀ n, mA n = none)
  (hq : ∀ h' tk', h'.Inst x C (fun y => if y = name then some v else mA y) → (∀ b o, b ≠ x → (∀ o₀ dx, h.get? x = some o₀ → o₀.dict = some dx → b ≠ dx) → h.get? b = some o → h'.get? b = some o) →
   (∀ o₀, h.get? x = some o₀ → ∃ o₁, h'.get? x = some o₁ ∧ o₁.cls = o₀.cls ∧ o₁.data = o₀.data ∧ o₁.slots = o₀.slots ∧ ∀ dx, o₁.dict = some dx → (o₀.dict = some dx ∨ h.get? dx = none)) → Q (.done (.ret .none)) ⟨h', g, d, tk', os⟩) :
  wpAny (model prog w) A (storeInDict h.objs.size (.str name tk) name v) Q E ⟨(h.push { cls := .type "dict", data := .dict #[] }).update x fun o => { cls := o.cls, dict := some h.objs.size, data := o.data, slots := o.slots }, g, d, t, os⟩ := by
 have hx1 : (h.push { cls := .type "dict", data := .dict #[] }).get? x = some o := Heap.get?_push_of_some _ hx
 have hnd : ((h.push { cls := .type "dict", data := .dict #[] }).update x fun o => { cls := o.cls, dict := some h.objs.size, data := o.data, slots := o.slots }).Ns h.objs.size (fun _ => none) :=
  ⟨_, #[], _, (Heap.get?_update_ne _ _ _ _ hxs.symm).trans (Heap.get?_push_at rfl rfl), rfl, fun e he => absurd he (by simp), fun _ => rfl⟩
 unfold storeInDict newKeyGuard
 refine wpAny_bind (wpAny_pure (wpAny_bind (wpAny_nsSet1 (Heap.Ns1.of_empty hnd) fun h' hn' hs => ?_)))
 obtain ⟨oD, esD, epD, hoD, hdD, hcD⟩ := hn'.count (Within.cons name v Within.nil)
 refine wpAny_bind (wpAny_lookBehind hoD (by rw [hdD]; exact pastItsLine_dict (Nat.le_trans hcD (by rw [List.length_cons, List.length_nil, sizeLine_eq]; lia))) ?_)
 wp_walk
 have hx' : h'.get? x = some { cls := o.cls, dict := some h.objs.size, data := o.data, slots := o.slots } := by
  refine (hs.2 x hxs).trans (Heap.get?_update_self _ hx1 ?_)
  have hfr := (Heap.get?_some_iff.mp hx).2
  obtain ⟨oc, od, odt, osl⟩ := o
  cases odt <;> first | rfl | exact hfr
 refine hq h' _ ⟨_, hx', hc, hnc, .inr ⟨h.objs.size, rfl, hxs.symm, ?_⟩⟩ (fun b ob hbx _ hb => (hs.2 b (Nat.ne_of_lt (Heap.lt_size hb))).trans ((Heap.get?_update_ne _ _ _ _ hbx).trans (Heap.get?_push_of_some _ hb)))
  fun o0 h0 => ⟨_, hx', (sInj (hx.symm.trans h0)) ▸ ⟨rfl, rfl, rfl, fun dx e => .inr (sInj e ▸ Heap.get?_none_of_le (Nat.le_refl _))⟩⟩
 obtain ⟨o', es, ep, e1, e2, e3, eu, e4⟩ := hn'
 exact ⟨o', es, ep, e1, e2, e3, eu, fun y => by rw [e4 y]; by_cases hy : y = name <;> simp [hy, hmA]⟩
open Builtin Builtin.ObjectAttr in
theorem store2 {x : Addr} {name : Str} {v : Value} {tk : Tok} {mA : Str → Option Value} {ns : List Str} {Q : Fin → Shared → Prop} (c1 : ClsAt h C (.ref P :: bmE) mN) (c2 : ClsAt h P bmE mP) (na : mN name = none) (nb : mP name = none) (hB : typeLookup (.type "Exception") name = pure none) (I : h.Inst x C mA)
  (hq : ∀ h' tk', h'.Inst x C (fun y => if y = name then some v else mA y) → (∀ b o, b ≠ x → (∀ o₀ dx, h.get? x = some o₀ → o₀.dict = some dx → b ≠ dx) → h.get? b = some o → h'.get? b = some o) →
   (∀ o₀, h.get? x = some o₀ → ∃ o₁, h'.get? x = some o₁ ∧ o₁.cls = o₀.cls ∧ o₁.data = o₀.data ∧ o₁.slots = o₀.slots ∧ ∀ dx, o₁.dict = some dx → (o₀.dict = some dx ∨ h.get? dx = none)) → Q (.done (.ret .none)) ⟨h', g, d, tk', os⟩) (hw : Within mA ns) (hsz : ns.length ≤ 2) :
  wpAny (model prog w) A (Builtin.«object.__setattr__» ⟨[.ref x, .str name tk, v], []⟩) Q E ⟨h, g, d, t, os⟩ := by
 have SF := PySem.F.store_Exception
 have c1' := c1
 obtain ⟨hC, hn⟩ := c1'
 obtain ⟨o, hx, hc, hnc, hd⟩ := I
 have hpass := SF.passes (.ref x)
 unfold Builtin.«object.__setattr__»
 repeat (first | rw [refuse_eq] | (rw [refuseLoop_ref, refuseLoop_ref, hpass]) | (with_reducible refine wpAny_loadPart_at hx ?_; rw [hc]) | with_reducible refine wpAny_mroOf_exc hC ?_ | (with_reducible refine look2 c1 c2 hB ?_; rw [na, nb]) | wp_step)
 rcases hd with ⟨hdn, hmA⟩ | ⟨dx, hdx, hne, hns⟩
 ·rw [hdn, if_neg (by simp [typeHasDict])]
  dsimp only
  cases hcd : o.data with
  | cls cd => exact absurd hcd (hnc cd)
  | _ =>
   dsimp only
   refine wpAny_bind (wpAny_alloc' ?_)
   have hx1 : (h.push { cls := .type "dict", data := .dict #[] }).get? x = some o := Heap.get?_push_of_some _ hx
   have hxs : x ≠ h.objs.size := Nat.ne_of_lt (Heap.lt_size hx)
   refine wpAny_bind (wpAny_update' hx1 (wpAny_pure ?_))
   exact stored hx hdn hc hnc hxs (fun y => hmA y) hq
 ·rw [hdx]
  refine wpAny_pure ?_
  show wpAny _ _ (storeInDict dx (.str name tk) name v) _ _ _
  unfold storeInDict newKeyGuard
  refine wpAny_bind (wpAny_pure (wpAny_bind (wpAny_nsSet1 hns fun h' hn' hs => ?_)))
  obtain ⟨oD, esD, epD, hoD, hdD, hcD⟩ := hn'.count (Within.cons name v hw)
  refine wpAny_bind (wpAny_lookBehind hoD (by rw [hdD]; exact pastItsLine_dict (Nat.le_trans hcD (by rw [List.length_cons, sizeLine_eq]; lia))) ?_)
  wp_walk
  refine hq h' _ ⟨o, (hs.2 x hne.symm).trans hx, hc, hnc, .inr ⟨dx, hdx, hne, hn'⟩⟩ (fun b ob _ hbd hb => (hs.2 b (hbd o dx hx hdx)).trans hb) fun o0 h0 => ⟨o0, (hs.2 x hne.symm).trans h0, rfl, rfl, rfl, fun _ e => .inl e⟩
theorem check_sa2 {M : Model} {x : Addr} {o : Obj} {nameV v : Value} {Q : Unit → Shared → Prop} (c1 : ClsAt h C (.ref P :: bmE) mN) (hx : h.get? x = some o) (hc : o.cls = .ref C) (hq : Q () ⟨h, g, d, t, os⟩) : wpAny M A (checkBuiltinCall "object.__setattr__" ⟨[.ref x, nameV, v], []⟩) Q E ⟨h, g, d, t, os⟩ := by
 obtain ⟨hC, hn⟩ := c1
 have SF := PySem.F.store_Exception
 have hcB : (Value.ref C :: Value.ref P :: bmE).contains (.type "object") = true := has2 SF.hasOwner
 simp only [checkBuiltinCall, SF.kind, SF.split]
 refine wpAny_bind ?_
 unfold isInstance
 repeat (first | (with_reducible refine wpAny_loadPart_at hx ?_; rw [hc]) | wp_step)
 refine wpAny_isSubtype_exc hC ?_
 rw [hcB]
 repeat wp_step
 exact hq
theorem setAttr2 {x : Addr} {name : Str} {v : Value} {mA : Str → Option Value} {ns : List Str} {Q : Unit → Shared → Prop} (c1 : ClsAt h C (.ref P :: bmE) mN) (c2 : ClsAt h P bmE mP) (sa : mN "__setattr__" = none) (sb : mP "__setattr__" = none) (na : mN name = none) (nb : mP name = none) (hB : typeLookup (.type "Exception") name = pure none) (I : h.Inst x C mA)
  (hq : ∀ h' tk', h'.Inst x C (fun y => if y = name then some v else mA y) → (∀ b o, b ≠ x → (∀ o₀ dx, h.get? x = some o₀ → o₀.dict = some dx → b ≠ dx) → h.get? b = some o → h'.get? b = some o) →
   (∀ o₀, h.get? x = some o₀ → ∃ o₁, h'.get? x = some o₁ ∧ o₁.cls = o₀.cls ∧ o₁.data = o₀.data ∧ o₁.slots = o₀.slots ∧ ∀ dx, o₁.dict = some dx → (o₀.dict = some dx ∨ h.get? dx = none)) → Q () ⟨h', g, d, tk', os⟩) (hw : Within mA ns) (hsz : ns.length ≤ 2) :
  wpAny (model prog w) A (setAttr (.ref x) name v) Q E ⟨h, g, d, t, os⟩ := by
 have SF := PySem.F.store_Exception
 obtain ⟨o, hx, hc, _⟩ := id I
 have f3 := SF.slot.bind (.ref x)
 unfold setAttr callSpecial? specialOf
 repeat (any_goals (first | assumption | (with_reducible refine wpAny_loadPart_at hx ?_; rw [hc]) | (with_reducible refine look2 c1 c2 SF.slot.lookup ?_; rw [sa, sb]) | wp_step))
 refine codeAny_call_builtin SF.slot.plain SF.entry (check_sa2 c1 hx hc (store2 c1 c2 na nb hB I (fun h' tk' I' hk hs => ?_) hw hsz))
 repeat (any_goals (first | assumption | wp_step))
 exact hq h' tk' I' hk hs
theorem check_init2 {M : Model} {x : Addr} {o : Obj} {rest : List Value} {Q : Unit → Shared → Prop} (c1 : ClsAt h C (.ref P :: bmE) mN) (hx : h.get? x = some o) (hc : o.cls = .ref C) (hq : Q () ⟨h, g, d, t, os⟩) : wpAny M A (checkBuiltinCall "Exception.__init__" ⟨.ref x :: rest, []⟩) Q E ⟨h, g, d, t, os⟩ := by
 obtain ⟨hC, hn⟩ := c1
 have F := excF
 have hcB : (Value.ref C :: Value.ref P :: bmE).contains (.type "Exception") = true := has2 F.hasB
 have hshort := F.noStar
 simp only [checkBuiltinCall, F.initKind, F.initSplit, F.initRow]
 repeat (first | (with_reducible refine wpAny_loadPart_at hx ?_; rw [hc]) | with_reducible refine wpAny_loadPart_at hC ?_ | (refine wpAny_isSubtype_exc hC ?_; rw [hcB]) | wp_step)
 refine wpAny_onRaise ?_
 rw [show ∀ (a b : String) (n : Nat), Bind.check ⟨.positional, "*", "Exception", .self, [⟨"args", .varPos, false⟩]⟩ a b n (List.map (fun x => x.fst) ({ pos := Value.ref x :: rest } : Args).kw) = pure () from
  fun a b n => check_star_args _ _ _ _ _ _]
 exact wpAny_pure hq
theorem init2 {x a : Addr} {od : Option Addr} {v : Value} {Q : Value → Shared → Prop} (c1 : ClsAt h C (.ref P :: bmE) mN) (hx : h.get? x = some { excO C a with dict := od })
  (hq : Q .none ⟨(h.push { cls := .type "tuple", data := .seq #[v] }).update x (Obj.mapFields fun x => x.setIfInBounds 0 (.ref h.objs.size)), g, d, t, os⟩) : wpAny (model prog w) A (call (.builtin "Exception.__init__") [.ref x, v]) Q E ⟨h, g, d, t, os⟩ := by
 have F := excF
 refine wpAny_call (codeAny_call_builtin F.init.plain F.initEntry (check_init2 c1 hx rfl ?_))
 wp_walk
 exact hq
end
theorem exc_method : findCls [] (.type "Exception") (.type "type") "__init__" = some (.val (.builtin "Exception.__init__")) := by kernel_rfl
theorem exc_type : typeOf (.type "Exception") = pure (.type "type") := by kernel_rfl
theorem exc_handed : handedIn (.builtin "Exception.__init__") = true := by kernel_rfl
theorem exc_what : typeLookup (.type "Exception") "what" = pure none := by rw [typeLookup_type, builtinLookup_eq_fast]; kernel_rfl
theorem exc_at : typeLookup (.type "Exception") "at" = pure none := by rw [typeLookup_type, builtinLookup_eq_fast]; kernel_rfl
theorem exc_stub : Manifest.isStub "Exception" = false := by kernel_rfl
section
variable {prog : Program} {w : World} {A : Around} {E : Value → Shared → Prop} {h : Heap} {g : Array GenState} {d : Drawn} {t : Nat} {os : OsState} {C P x a : Addr} {mN mP mg mb mm : Str → Option Value} {env : Env}
theorem ne_obj {h : Heap} {a b : Addr} {x y : Obj} (h1 : h.get? a = some x) (h2 : h.get? b = some y) (hn : x.data ≠ y.data) : a ≠ b := fun e => hn (by rw [e, h2] at h1; rw [sInj h1])
theorem ns_but {h h' : Heap} {N : Addr} {m : Str → Option Value} {o : Obj} {vs : Array Value} (hx : h.get? x = some o) (hd : o.data = .fields vs) (k : ∀ b o, b ≠ x → h.get? b = some o → h'.get? b = some o) (n : h.Ns N m) : h'.Ns N m :=
 let ⟨_, es, ep, e, r⟩ := n; ⟨_, es, ep, k _ _ (ne_obj e hx (by rw [r.1, hd]; exact nofun)) e, r⟩
theorem ClsAt.but {h h' : Heap} {C : Addr} {bm : List Value} {mN : Str → Option Value} {o : Obj} {vs : Array Value} (c : ClsAt h C bm mN) (hx : h.get? x = some o) (hd : o.data = .fields vs) (k : ∀ b o, b ≠ x → h.get? b = some o → h'.get? b = some o) : ClsAt h' C bm mN :=
 let ⟨hC, hn⟩ := c; ⟨k _ _ (ne_obj hC hx (by rw [hd]; exact nofun)) hC, ns_but hx hd k hn⟩
structure ErrEnv (h : Heap) (env : Env) (C P : Addr) (mN mP mg mb mm : Str → Option Value) (x : Addr) (v va : Value) : Prop where
 kind : env.scope.kind = .function
 self : env.kindOf "self" = some .local
 what : env.kindOf "what" = some .local
 at_ : env.kindOf "at" = some .local
 exc : env.kindOf "Exception" = some .globalImplicit
 ns : h.Ns env.locals mm
 m1 : mm "self" = some (.ref x)
 m2 : mm "what" = some v
 m3 : mm "at" = some va
 gl : h.Ns env.globals mg
 g1 : mg "Exception" = none
 bu : h.Ns env.builtins mb
 b1 : mb "Exception" = some (.type "Exception")
 c1 : ClsAt h C (.ref P :: bmE) mN
 c2 : ClsAt h P bmE mP
 non : ∀ y ∈ (["__setattr__", "what", "at"] : List Str), mN y = none ∧ mP y = none
theorem noFC {x : Array Value} {y : ClassData} {P : Prop} (h : Data.fields x = Data.cls y) : P := by cases h
theorem errBody {v va : Value} {p1 p2 p3 p4 p5 p6 q1 q2 q3 q4 r1 r2 r3 r4 : Pos} {Q : Flow → Shared → Prop} {h₀ : Heap} {L : Addr} {m : Str → Option Value} (V : ErrEnv h env C P mN mP mg mb mm x v va) (hx : h.get? x = some (excO C a)) (F : Fr h₀ L h m) (hline : (p2.endLine == p5.line) = true)
  (hq : ∀ h' tk oe a', (∀ b o, b ≠ x → h.get? b = some o → h'.get? b = some o) → h'.get? x = some oe → oe.cls = .ref C → oe.data = .fields #[.ref a', .none, .none, .none, .bool false, .none] → Q .next ⟨h', g, d, tk, os⟩) :
  wpAny (model prog w) A (execs [.Expr (.Call (.Attribute (.Name "Exception" p1) "__init__" p2) [.Name "self" p3, .Name "what" p4] [] p5) p6, .Assign [.Attribute (.Name "self" q1) "what" q2] (.Name "what" q3) q4, .Assign [.Attribute (.Name "self" r1) "at" r2] (.Name "at" r3) r4] env) Q E ⟨h, g, d, t, os⟩ := by
 have hni : interactive env = false := by unfold interactive; rw [V.kind]; rfl
 refine wpAny_execs_cons (wpAny_Expr_any ?_ hni (swaps_no rfl))
 show wpAny _ _ (do
  let ov ← attributeBase (.Name "Exception" p1) "__init__" env (eval (.Name "Exception" p1) env)
  standAt p2.atName
  methodCall (.Name "Exception" p1) "__init__" p2 p5 env ov 2 (backTo p5 (starEach [.Name "self" p3, .Name "what" p4] env)) (backToKw p5 (keywordEach [] env))) _ _ _
 rw [base_ok rfl]
 refine wpAny_bind (Name_function_global V.kind V.exc (loadGlobal_builtin V.gl V.g1 V.bu V.b1 (wpAny_bind (wpAny_standAt ?_))) (by decide))
 unfold methodCall
 have hform : methodCallForm 2 (backTo p5 (starEach [.Name "self" p3, .Name "what" p4] env)) (backToKw p5 (keywordEach [] env)) = true := form_ok (es := [.Name "self" p3, .Name "what" p4]) rfl (show 2 < 30 by decide)
 rw [hform]
 refine wpAny_bind (wpAny_holding ?_)
 unfold calleeOf
 simp only [if_true]
 refine method_type (T := "Exception") (name := "__init__") (v := .builtin "Exception.__init__") (K := []) F (fun _ _ h => noS h) exc_type exc_stub exc_method exc_handed ?_
 show wpAny _ _ (methodCallPos true (.Name "Exception" p1) env p2 p5 >>= _) _ _ _
 unfold methodCallPos
 rw [hline]
 simp only [Bool.not_true, Bool.or_true, if_true]
 refine wpAny_bind (wpAny_pure ?_)
 have nm : ∀ {y : Str} {p : Pos} {u : Value} {h1 : Heap} {tk : Tok} {Q : Value → Shared → Prop}, h1.Ns env.locals mm → env.kindOf y = some .local → mm y = some u → (y == ("__debug__" : Str) || y == ("__classdict__" : Str)) = false → Q u ⟨h1, g, d, tk, os⟩ → wpAny (model prog w) A (eval (.Name y p) env) Q E ⟨h1, g, d, tk, os⟩ := fun n k m hd q => wpAny_Name (wpAny_loadName_local V.kind k n m q) (Bool.or_eq_false_iff.mp hd).1
 refine Calls.callWith_builtin rfl (Calls.evalArgs_plain (Calls.spliced_cons (nm V.ns V.self V.m1 (by decide) (Calls.spliced_cons (nm V.ns V.what V.m2 (by decide) (Calls.spliced_nil ?_))))))
 refine init2 V.c1 hx ?_
 have hx0 := Heap.get?_push_of_some { cls := .type "tuple", data := .seq #[v] } hx
 have hx1 : ((h.push { cls := .type "tuple", data := .seq #[v] }).update x (Obj.mapFields fun x => x.setIfInBounds 0 (.ref h.objs.size))).get? x = some (excO C h.objs.size) := Heap.get?_update_self _ hx0 rfl
 have k1 : ∀ b o, b ≠ x → h.get? b = some o → ((h.push { cls := .type "tuple", data := .seq #[v] }).update x (Obj.mapFields fun x => x.setIfInBounds 0 (.ref h.objs.size))).get? b = some o := fun b o hb e => (Heap.get?_update_other _ _ (Ne.symm hb)).trans (Heap.get?_push_of_some _ e)
 generalize ((h.push { cls := .type "tuple", data := .seq #[v] }).update x (Obj.mapFields fun x => x.setIfInBounds 0 (.ref h.objs.size))) = h1 at hx1 k1 ⊢
 refine wpAny_execs_cons (plainObj_wpAny_Assign_Attribute (nm (ns_but hx rfl k1 V.ns) V.what V.m2 (by decide) (nm (ns_but hx rfl k1 V.ns) V.self V.m1 (by decide) ?_)) swaps_attr)
 refine setAttr2 (V.c1.but hx rfl k1) (V.c2.but hx rfl k1) (V.non _ (.head _)).1 (V.non _ (.head _)).2 (V.non _ (.tail _ (.head _))).1 (V.non _ (.tail _ (.head _))).2 exc_what (mA := fun _ => none) ⟨_, hx1, rfl, fun _ h => noFC h, .inl ⟨rfl, fun _ => rfl⟩⟩ (fun h2 tk2 I2 k2 o2 => ?_) Within.nil (Nat.zero_le _)
 obtain ⟨ox2, hx2, z1, z2, _, z4⟩ := o2 _ hx1
 have k2 : ∀ b o, b ≠ x → h1.get? b = some o → h2.get? b = some o := fun b o hb e => k2 b o hb (fun o0 dx e1 e2 => by rw [hx1] at e1; rw [← sInj e1] at e2; exact noS e2) e
 have k12 : ∀ b o, b ≠ x → h.get? b = some o → h2.get? b = some o := fun b o hb e => k2 b o hb (k1 b o hb e)
 refine wpAny_execs_cons (plainObj_wpAny_Assign_Attribute (nm (ns_but hx rfl k12 V.ns) V.at_ V.m3 (by decide) (nm (ns_but hx rfl k12 V.ns) V.self V.m1 (by decide) ?_)) swaps_attr)
 refine setAttr2 (V.c1.but hx rfl k12) (V.c2.but hx rfl k12) (V.non _ (.head _)).1 (V.non _ (.head _)).2 (V.non _ (.tail _ (.tail _ (.head _)))).1 (V.non _ (.tail _ (.tail _ (.head _)))).2 exc_at I2 (fun h3 tk3 I3 k3 o3 => ?_) (Within.cons "what" v Within.nil) (by decide)
 obtain ⟨ox3, hx3, y1, y2, _, _⟩ := o3 _ hx2
 refine wpAny_execs_nil (hq h3 _ ox3 h.objs.size (fun b o hb e => k3 b o hb (fun o0 dx e1 e2 => ?_) (k12 b o hb e)) hx3 (y1.trans z1) (y2.trans z2))
 rw [hx2] at e1
 rw [← sInj e1] at e2
 rcases z4 dx e2 with e3 | e3
 ·exact noS e3
 ·exact fun q => noS ((q ▸ e3).symm.trans (k1 b o hb e))
theorem raise_made {M : Model} {s : Shared} {y : Sem Value} {Q : Flow → Shared → Prop} (hh : A.handled = none)
  (h : wpAny M A y (fun v s1 => ∃ e oe C P mN a', v = .ref e ∧ ClsAt s1.heap C (.ref P :: bmE) mN ∧ s1.heap.get? e = some oe ∧ oe.cls = .ref C ∧ oe.data = .fields #[.ref a', .none, .none, .none, .bool false, .none] ∧ E (.ref e) s1) E s) : wpAny M A (raiseStmt env (some y) none) Q E s := by
 unfold raiseStmt
 refine wpAny_bind (wpAny_mono h (fun v s1 h1 => ?_) fun _ _ x => x)
 obtain ⟨e, oe, C, P, mN, a', rfl, ⟨hC, _⟩, he, hcls, hd, hE⟩ := h1
 obtain ⟨hp, g, d, tk, os⟩ := s1
 have hcB : (Value.ref C :: Value.ref P :: bmE).contains (.type "BaseException") = true := has2 excF.hasBase
 repeat (first | (with_reducible refine wpAny_loadPart_at he ?_; rw [hcls]) | with_reducible refine wpAny_loadPart_at hC ?_ | (refine wpAny_isSubtype_exc hC ?_; rw [hcB]) | (rw [hd]; dsimp only) | wp_step)
 exact wpAny_raiseNew_none hh hE
end
set_option tactic.hygienic true in
theorem ns_of {K : Frag} {h : Heap} {N : Addr} {mg : Str → Option Value} {n : Str} {r : Option Value} (X : K.In h) (G : h.Ns N mg) (e : nsIn K N n = some r) : mg n = r := by
 cases r with
 | none => exact ns_none_of X G e
 | some v =>
  obtain ⟨o, es, ep, ho, hd, _, hf⟩ := G
  unfold nsIn at e
  split at e
  ·rename_i c d es' n' sl q
   have := X _ _ q
   rw [ho] at this
   cases this
   cases hd
   split at e
   ·rename_i en he
    cases e
    rw [← hf]
    unfold nsFind findBy
    rw [← Array.find?_toList, he]
    rfl
   ·split at e <;> cases e
  ·exact noS e
inductive ExcAt (K : Frag) (C : Addr) (bm : List Value) (init : Option Value) : Prop where
 | mk {nm q : Str} {N : Addr} {bs : List Value} {sn : List Str} {sub : List Value} {ab : Bool} {col : Option Bool} {dd : Option Addr} {k0 k1 k2 k3 k5 : Option Value} : K.lookup C = some (excClassObj nm q C N bs bm true sn sub ab col dd k0 k1 k2 k3 k5 "Exception.__new__") → nsOkIn K N = true → nsIn K N "__init__" = some init → (["__setattr__", "what", "at"] : List Str).all (fun y => nsIn K N y == some none) = true → ExcAt K C bm init
theorem ExcAt.of {K : Frag} {h : Heap} {C : Addr} {bm : List Value} {init : Option Value} (X : K.In h) (q : ExcAt K C bm init) : ∃ mN, ClsAt h C bm mN ∧ mN "__init__" = init ∧ ∀ y ∈ (["__setattr__", "what", "at"] : List Str), mN y = none := by
 cases q with
 | mk h1 h2 h3 h4 =>
  have hN := Heap.Ns.of_isNs (isNs_of_in X h2)
  exact ⟨_, ⟨X _ _ h1, hN⟩, ns_of X hN h3, fun y hy => ns_of X hN (beq_iff_eq.mp (List.all_eq_true.mp h4 y hy))⟩
inductive ExcOk (tabs : List (Addr × Addr)) (K : Frag) (C : Addr) : Prop where
 | mk {P fI : Addr} {oI : Obj} {fn : Fn} {y : V} {p1 p2 p3 p4 p5 p6 q1 q2 q3 q4 r1 r2 r3 r4 : Pos} : ExcAt K C (.ref P :: bmE) none → ExcAt K P bmE (some (.ref fI)) → K.lookup fI = some oI → oI.cls = .type "function" → FnOk tabs K fI fn → fn.names = (["self", "what", "at"] : List Str) → fn.dfl = [y] →
  fn.body = [.Expr (.Call (.Attribute (.Name "Exception" p1) "__init__" p2) [.Name "self" p3, .Name "what" p4] [] p5) p6, .Assign [.Attribute (.Name "self" q1) "what" q2] (.Name "what" q3) q4, .Assign [.Attribute (.Name "self" r1) "at" r2] (.Name "at" r3) r4] →
  (p2.endLine == p5.line) = true → fn.sc.names.lookup ("self" : Str) = some NameKind.local → fn.sc.names.lookup ("what" : Str) = some NameKind.local → fn.sc.names.lookup ("at" : Str) = some NameKind.local → fn.sc.names.lookup ("Exception" : Str) = some NameKind.globalImplicit → nsIn K mainGlobals "Exception" = some none → ExcOk tabs K C
section
variable {G : Pg} {c : Act} {k : Nat} {q : Bool} {CL : List (Str × Nat)} {ρ : Loc} {m : Str → Option Value} {s : Shared} {news : Led} {al : Al} {st : Sto} {A : Around} {E : Value → Shared → Prop} {C : Addr}
set_option backward.match.sparseCases true in
theorem exc_make (hc : c.Ok G) (S : St G c CL ρ m s news al st) (X : ExcOk G.tabs (G.K c.w.params) C) (hd : A.depth + 1 < recursionLimit) {v : Value} {Q : Value → Shared → Prop}
  (hq : ∀ s' e oe a' P mN, Same s s' → NewX s.heap s'.heap e (.ref C) → ClsAt s'.heap C (.ref P :: bmE) mN → s'.heap.get? e = some oe → oe.cls = .ref C → oe.data = .fields #[.ref a', .none, .none, .none, .bool false, .none] → Q (.ref e) s') : wpAny (model G.prog c.w) A (call (.ref C) [v]) Q E s := by
 cases X with
 | mk X1 X2 hfI hfc hf hn hdf hbody hline l1 l2 l3 l4 l5 =>
  have KX := hc.X.keeps (S.sty hc)
  obtain ⟨mN, c1, n1, z1⟩ := X1.of KX
  obtain ⟨mP, c2, n2, z2⟩ := X2.of KX
  have T := topRead_of hc.T
  obtain ⟨hp, g, d, t, os⟩ := s
  refine exc_call c1 c2 n1 n2 (KX _ _ hfI) hfc (show 1 ≤ sizeLine by decide) fun h' e k1 he0 he1 ht hsz => wpAny_call ?_
  refine enter_fn (s := ⟨h', g, d, t, os⟩) hf (KX.keeps k1) ((((S.TG hc).nolimit.keeps S.F.keep)).keeps k1) hd (by rw [hn, hdf]; exact Nat.le_refl 3) (by rw [hn]; exact Nat.le_succ 2) fun cdv dvs h₁ tk cells _ hdv hns hk₁ _ _ => ?_
  have hlen := (hdv [] []).length
  rw [hdf] at hlen
  obtain ⟨va, rfl⟩ : ∃ va, dvs = [va] := List.length_eq_one_iff.mp hlen
  have kk : ∀ b o, hp.get? b = some o → h₁.get? b = some o := fun b o e => hk₁ _ _ (k1 _ _ e)
  rw [hbody]
  have e3 : fn.names.zip ([.ref e, v] ++ [va].drop ([Value.ref e, v].length + fn.dfl.length - fn.names.length)) = ([("self", .ref e), ("what", v), ("at", va)] : List (Str × Value)) := by rw [hn, hdf]; rfl
  rw [show Value.ref e :: [v] = [.ref e, v] from rfl, e3] at hns
  have mmv : ∀ {y : Str} {u : Value}, (if y = ("at" : Str) then some va else if y = ("what" : Str) then some v else if y = ("self" : Str) then some (.ref e) else none) = some u → bindL (envOfC fn.qual fn.sc h'.objs.size fI cdv).kindOf ([("self", Value.ref e), ("what", v), ("at", va)] : List (Str × Value)) (fun _ => none) y = some u := fun h => by
   unfold bindL bindL bindL bindL
   rw [if_pos (show (envOfC fn.qual fn.sc h'.objs.size fI cdv).kindOf ("at" : Str) = some NameKind.local from l3), if_pos (show (envOfC fn.qual fn.sc h'.objs.size fI cdv).kindOf ("what" : Str) = some NameKind.local from l2), if_pos (show (envOfC fn.qual fn.sc h'.objs.size fI cdv).kindOf ("self" : Str) = some NameKind.local from l1)]
   exact h
  refine errBody (V := ⟨hf.kind, l1, l2, l3, l4, hns, mmv rfl, mmv rfl, mmv rfl, (hc.T.g.keeps (S.sty hc)).keeps kk, mg_none_of hc.X T.g l5, (T.b.keeps (S.sty hc)).keeps kk, (T.builtins _ (by decide)).trans PyProof.Rows.Boot.«Exception», c1.keeps kk, c2.keeps kk, fun y hy => ⟨z1 y hy, z2 y hy⟩⟩) (hk₁ _ _ he1) (⟨hns, hk₁, Nat.le_refl _⟩ : Fr h' h'.objs.size h₁ _) hline fun h3 tk3 oe a' k3 hx3 hcl hda => ?_
  have kf : ∀ b o, hp.get? b = some o → h3.get? b = some o := fun b o q => k3 b o (fun z => noS ((z ▸ he0).symm.trans q)) (kk b o q)
  exact ⟨rfl, hq ⟨h3, g, d, tk3, os⟩ e oe a' _ _ ⟨rfl, rfl⟩ ⟨kf, he0, oe, _, _, hx3, hcl, hda, rfl, rfl⟩ (c1.keeps kf) hx3 hcl hda⟩
end
def ExcsOk (G : Pg) : Prop := ∀ P C, G.exc C = true → ExcOk G.tabs (G.K P) C
noncomputable def excOf (G : Pg) : V → Option Addr
 | .glob C => if G.exc C = true then some C else none
 | _ => none
def raiseM (G : Pg) (mf me : Loc → M V) (ρ : Loc) : M (Fl × Loc) := M.bind (mf ρ) fun f => M.bind (me ρ) fun _ st => (excOf G f).map fun C => (.error C, st)
section
variable {G : Pg} {c : Act} {k : Nat} {q : Bool} {CL : List (Str × Nat)} {pos : Pos}
theorem SoundS.raise (hX : ExcsOk G) (hc : c.Ok G) (hq : q = true) {x : Str} {np cpos : Pos} {e : Expr} {mf me : Loc → M V} (hn : noStar e = true) (h1 : ∀ ρ, Sound G c k q CL ρ relV (eval (.Name x np) c.env) (mf ρ)) (h2 : ∀ ρ, Sound G c k q CL ρ relV (eval e c.env) (me ρ)) :
  SoundS G c k q CL (exec (.Raise (some (.Call (.Name x np) [e] [] cpos)) none pos) c.env) (raiseM G mf me) := by
 intro ρ st r e1 A s m news al Q E hA S hE hQ
 rw [arm_exec_Raise]
 have hd := hA.dep
 refine wpAny_bind (wpAny_standAt (?_ : wpAny _ _ (raiseStmt c.env (some (do let v ← eval (.Call (.Name x np) [e] [] cpos) c.env; standAt pos; pure v)) none) _ _ _))
 refine raise_made (hA.hd hq) (wpAny_bind (wpAny_mono (wpAny_Call_ofName ((h1 ρ).goS e1 hA S hE fun f st1 e2 v1 s1 n1 a1 S1 X1 R1 G1 => ?_)) (fun v s3 h3 => wpAny_bind (wpAny_standAt (wpAny_pure h3))) fun _ _ x => x))
 unfold callWith
 refine wpAny_bind (wpAny_holding (wpAny_mono ?_ (fun a s2 h2 => h2) fun _ _ x => x))
 rw [star_no hn]
 refine evalArgs_plain (Calls.spliced_cons ((h2 ρ).goS e2 hA S1 (hE.step S X1 G1) fun y st2 e3 v2 s2 n2 a2 S2 X2 R2 G2 => Calls.spliced_nil (mapE e3 fun C e6 e7 => ?_)))
 cases f with
 | glob C' =>
  refine iteS e6 fun hx e6 => ?_
  have X := hX c.w.params _ hx
  have X0 := X
  cases X0 with
  | mk Y1 Y2 =>
   obtain ⟨mN, c1, n1, z1⟩ := Y1.of (hc.X.keeps (S2.sty hc))
   rw [show v1 = .ref C' from R1.inv]
   refine wpAny_bind (wpAny_standAt ?_)
   obtain ⟨hC, _⟩ := c1
   obtain ⟨hp, g, d, tk, os⟩ := s2
   dsimp only
   refine wpAny_bind (wpAny_keeperOf_exc hC ?_)
   refine wpAny_bind (exc_make (v := v2) hc S2 X (by lia) fun s' e' oe a' P' mN' Gs hx' c1' he hcl hda => wpAny_bind (wpAny_holding (wpAny_point (wpAny_pure ?_))))
   exact ⟨e', oe, C', P', mN', a', rfl, c1', he, hcl, hda, hE C' st2 (by rw [← e7, sInj e6]) m _ s' n2 a2 (.inr (.inl (hc.fn.mpr (.mk S2.T S2.F S2.N hx' S2.H)))) (X1.trans S.H X2) (G1.trans (G2.trans Gs))⟩
 | _ => exact noS e6
end
def hdlC (G : Pg) (sc : Scope) (x : Str) : Option Addr := if sc.names.lookup x = some .globalImplicit ∧ (x == ("__debug__" : Str)) = false then (G.gl x).bind (excOf G) else none
theorem has1 {P : Addr} {T : String} {b : Bool} (h : bmE.contains (.type T) = b) : (Value.ref P :: bmE).contains (.type T) = b := by
 rw [List.contains_cons, h]; rfl
section
variable {G : Pg} {c : Act} {k : Nat} {q : Bool} {CL : List (Str × Nat)} {ρ : Loc} {m : Str → Option Value} {s s' : Shared} {news news' : Led} {al al' : Al} {st st' st2 : Sto} {A : Around} {E : Value → Shared → Prop} {pos : Pos}
theorem Ar.mark {e : Value} (hA : Ar c k q A) : Ar c k false (A.mark (some e)) := ⟨hA.fr, hA.dep, hA.un, nofun⟩
theorem hdl_name {M : Model} (hG : G.Ok) (hc : c.Ok G) (hp : c.comp = none) {x : Str} {np : Pos} {C : Addr} {h5 : Heap} {Q : Value → Shared → Prop} (hx : hdlC G c.cs x = some C) (k5 : c.base.StaysIn h5) {g : Array GenState} {d : Drawn} {t : Nat} {os : OsState} (hQ : G.exc C = true → Q (.ref C) ⟨h5, g, d, t, os⟩) :
  wpAny M A (eval (.Name x np) c.env) Q E ⟨h5, g, d, t, os⟩ := by
 refine iteS hx fun h1 hx => bindE hx fun y h2 hx => ?_
 have hen : c.env = c.fenv := by unfold Act.env; rw [hp]
 cases y with
 | glob C' =>
  refine iteS hx fun h3 hx => ?_
  have T := topRead_of hc.T
  rw [hen]
  rcases hG.gl c.w.params x _ h2 with ⟨v, g1, g2⟩ | ⟨v, g1, g2, g3, g4⟩
  ·refine Name_function_global hc.hk h1.1 (loadGlobal_global (T.g.keeps k5) (mg_of hc.X T.g g1) ?_) h1.2
   rw [show v = .ref C' from (g2 [] []).inv, sInj hx]
   exact hQ (sInj hx ▸ h3)
  ·refine Name_function_global hc.hk h1.1 (loadGlobal_builtin (T.g.keeps k5) (mg_none_of hc.X T.g g1) (T.b.keeps k5) ((T.builtins x g3).trans g2) ?_) h1.2
   rw [show v = .ref C' from (g4 [] []).inv, sInj hx]
   exact hQ (sInj hx ▸ h3)
 | _ => exact noS hx
theorem FlyingW.away {B : Heap} {env : Env} {outer : List Env} {e L : Addr} {cls a0 : Value} {h : Heap} (hf : env.frame = some L) (x : Heap.FlyingW B (env :: outer) e cls a0 h) : B.get? L = none := by
 obtain ⟨_, _, ⟨_, ⟨L', _, hf', hn, _⟩, _⟩, _⟩ := x
 exact sInj (hf.symm.trans hf') ▸ hn
theorem caught (hG : G.Ok) (hX : ExcsOk G) (hc : c.Ok G) (hp : c.comp = none) (hA : Ar c k q A) (S : St G c CL ρ m s news al st) {C : Addr} {v : Value} {x : Str} {np hpos : Pos} {b0 : Stmt} {suite : List Stmt} {mh : Loc → M (Fl × Loc)} {r : Fl × Loc} {Q : Flow → Shared → Prop} (hb : SoundS G c k false CL (execs (b0 :: suite) c.env) mh)
  (hx : hdlC G c.cs x = some C) (e : mh ρ st' = some (.ok r, st2)) (fl : c.fly m C v s' news' al' st') (X : Ext news al news' al') (Gs : Same s s')
  (hQ : ∀ f s2 m2 n2 a2, St G c CL r.2 m2 s2 n2 a2 st2 → Ext news al n2 a2 → FlR (G.K c.w.params) n2 a2 f r.1 → Same s s2 → Q f s2) :
  wpAny (model G.prog c.w) A (noteFrame v c.env) (fun _ s2 => wpAny (model G.prog c.w) A (setFlight v none) (fun _ s3 => wpAny (model G.prog c.w) A (handleBy v c.env [.ExceptHandler (some (.Name x np)) none (b0 :: suite) hpos]) Q E s3) E s2) E s' := by
 have hen : c.env = c.fenv := by unfold Act.env; rw [hp]
 cases hc.fl.mp fl with
 | @mk e0 h g T F u R H =>
  obtain ⟨B, a0, hB, hBG, hl, hfl⟩ := R
  refine wpAny_looks_onW (hen ▸ hA.fr) (hen ▸ fenv_frame) (hen ▸ hfl) fun h4 hheld4 u4 => ?_
  refine wpAny_landsW hheld4 fun h5 hheld u5 => ?_
  have K0 := below_turn hc.B T
  have u5 := u4.trans u5
  obtain ⟨g5, T5, F5, K5⟩ := ground_of fenv_frame K0 F hBG hheld.1 (u.trans u5)
  have k5 : c.base.StaysIn h5 := fun b o q => F5.keep _ _ (K5.stays _ _ q)
  obtain ⟨ob, hob, hobc⟩ := hheld.there
  refine wpAny_handleBy_cons (codeAny_handlers_test (hdl_name hG hc hp hx k5 fun hxc => ?_)) (fun q => nomatch q)
  cases hX c.w.params _ hxc with
  | mk Y1 Y2 =>
   obtain ⟨mN, ⟨hC, _⟩, _, _⟩ := Y1.of (hc.X.keeps k5)
   refine wpAny_excMatches_sub_self hC hob hobc (has1 excF.hasBase) (codeAny_handlers_suite ?_)
   refine lands_againW hheld fun h6 hfl6 u6 => ?_
   obtain ⟨g6, T6, F6, K6⟩ := ground_of fenv_frame K0 F hBG hfl6.1 (u.trans (u5.trans u6))
   have hL := FlyingW.away fenv_frame hfl
   have S6 : St G c CL ρ m { s' with heap := h6 } news' al' st' := S.extg X ⟨g6, T.trans T6, F6, fun q hq => ⟨hfl6.1 _ _ (hl q hq).1, fun z => noS ((z ▸ hL).symm.trans (hl q hq).1), T6.none_ _ (kts_none F.keep (hl q hq).2.1)⟩⟩ H
   exact hb.ok e hA.mark S6 fun f s2 m2 n2 a2 S2 X2 R2 G2 => hQ f s2 m2 n2 a2 S2 (X.trans S.H X2) R2 (Same.trans Gs (Same.trans ⟨rfl, rfl⟩ G2))
def tryVM (mv : Loc → M V) (fin : V → Loc → M Loc) (xc : Option Addr) (mh : Loc → M (Fl × Loc)) (ρ : Loc) : M (Fl × Loc) := fun st => match mv ρ st with
 | some (.ok y, st1) => M.bind (noErr (fin y ρ)) (fun ρ' => M.pure (.next, ρ')) st1
 | some (.error C, st1) => if xc = some C then noErr (mh ρ) st1 else none
 | none => none
theorem try_go (hG : G.Ok) (hX : ExcsOk G) (hc : c.Ok G) (hp : c.comp = none) (hA : Ar c k q A) (S : St G c CL ρ m s news al st) {t : Sem Value} {mv : Loc → M V} {fin : V → Loc → M Loc} {x : Str} {np hpos : Pos} {b0 : Stmt} {suite : List Stmt} {mh : Loc → M (Fl × Loc)} {r : Except Addr (Fl × Loc) × Sto} {Q : Flow → Shared → Prop} {Q1 : Value → Shared → Prop}
  (h1 : Sound G c k q CL ρ relV t (mv ρ)) (hb : SoundS G c k false CL (execs (b0 :: suite) c.env) mh) (e : tryVM mv fin (hdlC G c.cs x) mh ρ st = some r)
  (hQ : ∀ fl ρ' st', r = (.ok (fl, ρ'), st') → ∀ f s' m' news' al', St G c CL ρ' m' s' news' al' st' → Ext news al news' al' → FlR (G.K c.w.params) news' al' f fl → Same s s' → Q f s')
  (hF : ∀ y ρ' st1 st3, fin y ρ st1 = some (.ok ρ', st3) → r = (.ok (.next, ρ'), st3) → ∀ v s1 n1 a1, St G c CL ρ m s1 n1 a1 st1 → Ext news al n1 a1 → VR (G.K c.w.params) n1 a1 v y → Same s s1 → Q1 v s1) :
  wpAny (model G.prog c.w) A t Q1 (fun v s' => wpAny (model G.prog c.w) A (noteFrame v c.env) (fun _ s2 => wpAny (model G.prog c.w) A (setFlight v none) (fun _ s3 => wpAny (model G.prog c.w) A (handleBy v c.env [.ExceptHandler (some (.Name x np)) none (b0 :: suite) hpos]) Q E s3) E s2) E s') s := by
 unfold tryVM at e
 cases h : mv ρ st with
 | none => rw [h] at e; exact noS e
 | some p =>
  obtain ⟨r1, st1⟩ := p
  rw [h] at e
  cases r1 with
  | ok y =>
   refine noErr_go e fun ρ' st3 e2 e3 => h1.ok h hA S fun v s1 n1 a1 S1 X1 R1 G1 => hF y ρ' st1 st3 e2 (sInj e3).symm v s1 n1 a1 S1 X1 R1 G1
  | error C =>
   refine iteS e fun hx e => noErr_ok e fun p st3 e2 e3 => h1 st _ h A s m news al Q1 _ hA S (fun C' st' z v s' n' a' fl X Gs => ?_) nofun
   obtain ⟨z1, z2⟩ := Prod.mk.inj z
   rw [Except.error.inj z1] at hx
   rw [z2] at e2
   exact caught hG hX hc hp hA S hb hx e2 fl X Gs fun f s2 m2 n2 a2 S2 X2 R2 G2 => hQ _ _ _ e3.symm f s2 m2 n2 a2 S2 X2 R2 G2
theorem SoundS.tryE (hG : G.Ok) (hX : ExcsOk G) (hc : c.Ok G) (hp : c.comp = none) {e : Expr} {ep : Pos} {x : Str} {np hpos : Pos} {b0 : Stmt} {suite : List Stmt} {mv : Loc → M V} {mh : Loc → M (Fl × Loc)} (hn : noComp e = true) (h1 : ∀ ρ, Sound G c k q CL ρ relV (eval e c.env) (mv ρ)) (hb : SoundS G c k false CL (execs (b0 :: suite) c.env) mh) :
  SoundS G c k q CL (exec (.Try [.Expr e ep] [.ExceptHandler (some (.Name x np)) none (b0 :: suite) hpos] [] [] pos) c.env) (tryVM mv (fun _ ρ => M.pure ρ) (hdlC G c.cs x) mh) := by
 intro ρ st r e1 A s m news al Q E hA S hE hQ
 refine wpAny_Try_except (wpAny_execs_cons (wpAny_Expr_any (try_go hG hX hc hp hA S (h1 ρ) hb e1 hQ fun y ρ' st1 st3 e2 e3 v s1 n1 a1 S1 X1 R1 G1 => ?_) (not_interactive hc) (swaps_no hn)))
 obtain ⟨z1, z2⟩ := Prod.mk.inj (sInj e2)
 rw [← Except.ok.inj z1, ← z2] at e3
 exact wpAny_execs_nil (wpAny_execs_nil (hQ _ _ _ e3 _ s1 m n1 a1 S1 X1 .next G1))
theorem SoundS.tryN (hG : G.Ok) (hX : ExcsOk G) (hc : c.Ok G) (hp : c.comp = none) {z : Str} {zp : Pos} {e : Expr} {ep : Pos} {x : Str} {np hpos : Pos} {b0 : Stmt} {suite : List Stmt} {mv : Loc → M V} {mh : Loc → M (Fl × Loc)} (hn : noComp e = true) (h1 : ∀ ρ, Sound G c k q CL ρ relV (eval e c.env) (mv ρ)) (hb : SoundS G c k false CL (execs (b0 :: suite) c.env) mh) :
  SoundS G c k q CL (exec (.Try [.Assign [.Name z zp] e ep] [.ExceptHandler (some (.Name x np)) none (b0 :: suite) hpos] [] [] pos) c.env) (tryVM mv (fun y ρ => storeM c.cs CL z y ρ) (hdlC G c.cs x) mh) := by
 intro ρ st r e1 A s m news al Q E hA S hE hQ
 refine wpAny_Try_except (wpAny_execs_cons (wpAny_Assign_Name (try_go hG hX hc hp hA S (h1 ρ) hb e1 hQ fun y ρ' st1 st3 e2 e3 v s1 n1 a1 S1 X1 R1 G1 => ?_) (swaps_no hn)))
 exact storeM_sound hc hp S1 R1 e2 fun s2 m2 n2 S2 X2 G2 => wpAny_execs_nil (wpAny_execs_nil (hQ _ _ _ e3 _ s2 m2 n2 _ S2 (X1.trans S.H X2) .next (G1.trans G2)))
end
noncomputable def clsM (C : Addr) (init : List V → M V) (args : List V) : M V := fun st => match init (.hnd st.length :: args) (st ++ [.inst C []]) with
 | some (.ok .none, st') => some (.ok (.hnd st.length), st')
 | _ => none
section
variable {K : Frag} {prog : Program} {w : World}
theorem HR.ownedI {news : Led} {al : Al} {st : Sto} {x dx C : Addr} (H : HR K prog w news al st) (hx : x ∉ news.map (·.1)) (hd : dx ∉ news.map (·.1)) (hn : x ≠ dx) :
  HR K prog w ((x, instObj C dx) :: (dx, emptyDict) :: news) (al ++ [(x, some dx)]) (st ++ [.inst C []]) ∧ Ext news al ((x, instObj C dx) :: (dx, emptyDict) :: news) (al ++ [(x, some dx)]) := by
 have hb : ∀ b ∈ [x, dx], b ∉ news.map (·.1) := fun b hb => (List.mem_cons.mp hb).elim (· ▸ hx) fun h => List.mem_singleton.mp h ▸ hd
 have hx2 : x ∉ ((dx, emptyDict) :: news).map (·.1) := fun h => (List.mem_cons.mp h).elim hn hx
 exact ⟨((H.free hd).free hx2).snoc (p := (x, some dx)) (List.nodup_cons.mpr ⟨fun h => hn (List.mem_singleton.mp h), List.nodup_cons.mpr ⟨nofun, List.nodup_nil⟩⟩) (fun b h q => hb b h (H.own_dom q)) (.inst (es := []) (n := 0) (.head _) (.tail _ (.head _)) .nil),
  ⟨⟨[(x, some dx)], rfl, hb⟩, fun _ h _ => .tail _ (.tail _ h), fun _ h => .tail _ (.tail _ h)⟩⟩
end
section
variable {G : Pg} {c : Act} {k : Nat} {q : Bool} {CL : List (Str × Nat)} {ρ : Loc} {m : Str → Option Value} {s s' : Shared} {news news' : Led} {al al' : Al} {st st' : Sto} {A : Around} {E : Value → Shared → Prop} {pos : Pos}
structure ClsFn (K : Frag) (C f : Addr) : Prop where
 mak : makesIn K C = true
 init : findIn K (.ref C) "__init__" = some (some (.ref f))
 fn : typeIn K (.ref f) = some (.type "function")
set_option tactic.hygienic true in
theorem clsCall {C f : Addr} {fn : Fn} {body : List (Str × Nat) → Loc → M (Fl × Loc)} {vs : List Value} {args : List V} {y : V} {R : Result → Shared → Prop} (hc : c.Ok G) (hC : ClsFn (G.K c.w.params) C f) (hf : FnOk G.tabs (G.K c.w.params) f fn)
  (hb : ∀ (c' : Act) (CL' : List (Str × Nat)), c'.Ok G → InFn G c' fn → SoundS G c' k q CL' (execs fn.body c'.env) (body CL'))
  (hfr : A.frames = some (c.fenv :: c.outer)) (hd : A.depth + 8 * k + 22 < recursionLimit) (hu : A.units + 64 * k + 150 < cLine) (hh : q = true → A.handled = none)
  (S : St G c CL ρ m s news al st) (hs : VRs (G.K c.w.params) news al vs args) (e : clsM C (fnM fn body) args st = some (.ok y, st'))
  (hR : ∀ v s' news' al', St G c CL ρ m s' news' al' st' → Ext news al news' al' → VR (G.K c.w.params) news' al' v y → Same s s' → R (.ok (.ret v)) s') :
  codeAny (model G.prog c.w) A (.call (.ref C) ⟨vs, []⟩) R s := by
 unfold clsM at e
 split at e
 ·rename_i st2 he
  induction e using E3
  refine W.make_K S.F S.N (hc.X.keeps (S.sty hc)) hC.mak hC.init hC.fn fun x dx h' F N hlt hxd => ?_
  have hdx : dx ∉ news.map (·.1) := fun q => by
   obtain ⟨p, hp, e⟩ := List.mem_map.mp q
   exact absurd (hlt p hp) (by rw [e]; exact Nat.lt_irrefl _)
  have hx : x ∉ news.map (·.1) := fun q => by
   obtain ⟨p, hp, e⟩ := List.mem_map.mp q
   exact absurd (Nat.lt_trans (hlt p hp) hxd) (by rw [e]; exact Nat.lt_irrefl _)
  obtain ⟨H1, X1⟩ := S.H.ownedI (C := C) hx hdx (Nat.ne_of_gt hxd)
  have S1 : St G c CL ρ m { s with heap := h' } ((x, instObj C dx) :: (dx, emptyDict) :: news) (al ++ [(x, some dx)]) (st ++ [.inst C []]) := S.ext X1 F N H1
  have r1 : VR (G.K c.w.params) ((x, instObj C dx) :: (dx, emptyDict) :: news) (al ++ [(x, some dx)]) (.ref x) (.hnd st.length) := .hnd (x := some dx) (by rw [← S.H.len]; simp)
  refine fnCall (A := A.under (.builtin "type.__call__" ⟨.ref C :: vs, []⟩)) hc hf hb hfr ?_ ?_ hh S1 (.cons r1 (hs.ext S.H X1)) he nofun fun y' st'' z v s2 n2 a2 S2 X2 R2 G2 => ?_
  ·show A.depth + 1 + 8 * k + 20 < recursionLimit
   lia
  ·show A.units + 1 + 64 * k + 140 < cLine
   lia
  ·obtain ⟨z1, z2⟩ := Prod.mk.inj z
   rw [← Except.ok.inj z1] at R2
   rw [← z2] at S2
   cases R2
   exact ⟨rfl, hR _ _ n2 a2 S2 (X1.trans S.H X2) (r1.ext S1.H X2) (Same.trans ⟨rfl, rfl⟩ G2)⟩
 ·exact noS e
noncomputable def plainPar (p : Arguments) : Bool := p.posonlyargs.isEmpty && p.kwonlyargs.isEmpty && p.vararg.isNone && p.kwarg.isNone && p.defaults.isEmpty && p.kw_defaults.isEmpty && decide ((p.args.map (·.arg)).Nodup)
def lamOk (p : Arguments) (sc : Scope) : Bool := plainPar p && (p.args.map (·.arg)).all (fun x => sc.names.lookup x == some .local) && !sc.isCoroutine && !sc.isGenerator && decide (sc.kind = .function) && sc.names.all (fun x => x.2 != .cell)
noncomputable def tabQ : O → Option Str
 | .tab q => some q
 | _ => none
def lamC (ti : Option Nat) (CL : List (Str × Nat)) (params : Arguments) (sc : Scope) (qual : Str) (st : Sto) : Option (List (Str × Nat)) := ti.bind fun ti => st[ti]?.bind fun o => (tabQ o).bind fun qq => if qq = qual ∧ lamOk params sc = true then clos CL sc.names [] else none
def lamM (ti : Option Nat) (CL : List (Str × Nat)) (params : Arguments) (body : Expr) (sc : Scope) (qual : Str) : M V := fun st => (lamC ti CL params sc qual st).bind fun cl => newO (.lam params body sc qual cl) st
theorem lamOk_of {p : Arguments} {sc : Scope} (h : lamOk p sc = true) : (p.posonlyargs = [] ∧ p.kwonlyargs = [] ∧ p.vararg = none ∧ p.kwarg = none ∧ p.defaults = [] ∧ p.kw_defaults = [] ∧ (p.args.map (·.arg)).Nodup) ∧ (∀ x ∈ p.args.map (·.arg), sc.names.lookup x = some .local) ∧ sc.isCoroutine = false ∧ sc.isGenerator = false ∧ sc.kind = .function ∧ ∀ x ∈ sc.names, x.2 ≠ .cell := by
 unfold lamOk plainPar at h
 simp only [Bool.and_eq_true, List.isEmpty_iff, Option.isNone_iff_eq_none, decide_eq_true_eq, Bool.not_eq_true', List.all_eq_true, beq_iff_eq, bne_iff_ne] at h
 obtain ⟨⟨⟨⟨⟨⟨⟨⟨⟨⟨⟨h1, h2⟩, h3⟩, h4⟩, h5⟩, h6⟩, h7⟩, h8⟩, h9⟩, h10⟩, h11⟩, h12⟩ := h
 exact ⟨⟨h1, h2, h3, h4, h5, h6, h7⟩, h8, h9, h10, h11, h12⟩
theorem tri_ind {P : List Value → Prop} (h0 : P []) (h1 : ∀ {a b : Int} {s t : Tok} {y : Value} {r : List Value}, P r → P (.int a s :: .int b t :: y :: r)) : ∀ l, TriplesOk l → P l
 | [], _ => h0
 | .int _ _ :: .int _ _ :: _ :: r, h => h1 (tri_ind h0 h1 r h)
theorem codeAmong_snoc_ne {pos p : Pos} {cv x : Value} (l : List Value) (h : TriplesOk l) : codeAmong p (l ++ [rawInt pos.line, rawInt pos.col, cv]) = some x → codeAmong p l = some x ∨ x = cv :=
 tri_ind (P := fun l => codeAmong p (l ++ [rawInt pos.line, rawInt pos.col, cv]) = some x → codeAmong p l = some x ∨ x = cv)
  (fun e => iteE (show (if ((pos.line : Int) == p.line && (pos.col : Int) == p.col) then some cv else codeAmong p []) = some x from e) (fun _ e => .inr (sInj e).symm) fun _ e => .inl e)
  (fun {a b s t y r} ih e => by
   show (if a == p.line && b == p.col then some y else codeAmong p r) = _ ∨ _
   refine iteE (show (if a == p.line && b == p.col then some y else codeAmong p (r ++ _)) = _ from e) (fun hc e => ?_) fun hc e => ?_
   ·rw [if_pos hc]; exact .inl e
   ·rw [if_neg hc]; exact ih e) l h
theorem triples_snoc {pos : Pos} {cv : Value} {l : List Value} (h : TriplesOk l) : TriplesOk (l ++ [rawInt pos.line, rawInt pos.col, cv]) :=
 tri_ind (P := fun l => TriplesOk (l ++ [rawInt pos.line, rawInt pos.col, cv])) trivial (fun h => h) l h
theorem dflt_none {p : Arguments} {env : Env} (h1 : p.defaults = []) (h2 : p.kw_defaults = []) : defaultsOf p env = ([], []) := by
 cases p
 simp only at h1 h2
 subst h1 h2
 rfl
theorem env_code : c.env.code = c.ccd := by unfold Act.env; cases c.comp <;> rfl
theorem ne_data {h : Heap} {a b : Addr} {x y : Obj} (h1 : h.get? a = some x) (h2 : h.get? b = some y) (hn : x.data ≠ y.data) : a ≠ b := fun e => hn (by rw [e, h2] at h1; rw [sInj h1])
theorem putLed_cons {d a : Addr} {o x : Obj} {news : Led} (h : a ≠ d) : putLed d o ((a, x) :: news) = (a, x) :: putLed d o news := congrArg (· :: putLed d o news) (if_neg h)
theorem HR.turn {K : Frag} {prog : Program} {w : World} (H : HR K prog w news al st) {ti : Nat} {P c' : Addr} {oc : Obj} {vs : Array Value} {t : Tok} {q : Str} {ps : Array Value} (hal : al[ti]? = some (P, none)) (hst : st[ti]? = some (.tab q)) (g1 : (P, tabObj ps) ∈ news) (g2 : TriplesOk ps.toList)
  (g3 : ∀ pos cv, codeAmong pos ps.toList = some cv → ∃ c' oc vs t, cv = .ref c' ∧ (c', oc) ∈ news ∧ oc.data = .fields vs ∧ vs[1]? = some (.str q t)) (hn : c' ∉ news.map (·.1)) (hd : oc.data = .fields vs) (hv : vs[1]? = some (.str q t)) :
  HR K prog w ((c', oc) :: putLed P (tabObj (ps ++ #[rawInt pos.line, rawInt pos.col, .ref c'])) news) al st := by
 have hne : c' ≠ P := fun e => hn (e ▸ List.mem_map_of_mem (f := (·.1)) g1)
 have hPo : P ∈ flat al := mem_flat.mpr ⟨ti, _, hal, .inl rfl⟩
 have X : Ext news al ((c', oc) :: putLed P (tabObj (ps ++ #[rawInt pos.line, rawInt pos.col, .ref c'])) news) al := putLed_cons hne ▸ (Ext.free (a := c') (o := oc)).trans H (Ext.put hPo)
 have H1 := (H.free hn (o := oc)).put (o := tabObj (ps ++ #[rawInt pos.line, rawInt pos.col, .ref c'])) (x := .tab q) hal (.inl rfl) ?_
 ·rw [putLed_cons hne] at H1
  obtain ⟨hlt, hg⟩ := List.getElem?_eq_some_iff.mp hst
  rw [← hg, List.set_getElem_self] at H1
  exact H1
 ·rw [putLed_cons hne]
  refine .tab (.tail _ (mem_putLed_at g1)) (by rw [Array.toList_append]; exact triples_snoc g2) fun pos' cv e => ?_
  rw [Array.toList_append] at e
  rcases codeAmong_snoc_ne _ g2 e with e | e
  ·obtain ⟨c3, oc3, vs3, t3, u1, u2, u3, u4⟩ := g3 pos' _ e
   exact ⟨c3, oc3, vs3, t3, u1, X.keep _ u2 (H.free_of u2 (free_code u3 u4)), u3, u4⟩
  ·exact ⟨c', oc, vs, t, e, .head _, hd, hv⟩
theorem News.turn {h h' : Heap} {h₀ : Heap} {L : Addr} {P : Addr} {o : Obj} (N : News h₀ L h news) (hx : ∀ b x, b ≠ P → h.get? b = some x → h'.get? b = some x) (htb : h'.get? P = some o) : News h₀ L h' (putLed P o news) := fun p hp => by
 obtain ⟨x, hxm, e⟩ := List.mem_map.mp hp
 refine iteE e (fun hxp e => ?_) fun hxp e => ?_
 ·exact e ▸ ⟨htb, hxp ▸ (N _ hxm).2⟩
 ·exact e ▸ ⟨hx _ _ hxp (N _ hxm).1, (N _ hxm).2⟩
theorem St.lamNew {s1 : Shared} {n1 : Led} {c' : Addr} {oc : Obj} {vs : Array Value} {t : Tok} {name qual : Str} {params : Arguments} {body : Expr} {sc : Scope} {clA : List (Str × Addr)} {CL' : List (Str × Nat)} {pm ctv : Value} {tk : Nat} {Q : Value → Shared → Prop} (S : St G c CL ρ m s1 n1 al st) (k1 : (c', oc) ∈ n1) (k2 : oc.data = .fields vs) (k3 : vs[1]? = some (.str qual t))
  (hrel : ∀ x k, CL'.lookup x = some k → ∃ a, clA.lookup x = some a ∧ al[k]? = some (a, none)) (hQ : Cont G c CL ρ m s1 n1 al relV (.hnd st.length) (st ++ [.lam params body sc qual CL']) Q) :
  Q (.ref s1.heap.objs.size) { s1 with heap := s1.heap.push (kla_obj name qual params body sc clA pm c' ctv), toks := tk } := by
 obtain ⟨S', X', r'⟩ := S.newOwn (tk := tk) S.fresh (S.F.push _) (S.N.push S.F _) (x := .lam params body sc qual CL') (.lam (.head _) (.tail _ k1) k2 k3 fun x kk hx => by
  obtain ⟨a, u1, u2⟩ := hrel x kk hx
  exact ⟨a, u1, (List.getElem?_append_left (List.getElem?_eq_some_iff.mp u2).1).trans u2⟩)
 exact hQ _ _ _ _ S' X' r' ⟨rfl, rfl⟩
theorem Sound.lambda {fn : Fn} {params : Arguments} {body : Expr} {sc : Scope} (hc : c.Ok G) (hcd : ∀ ti, fn.tab = some ti → ∃ cc P, c.ccd = .ref cc ∧ G.tabs[ti]? = some (cc, P)) (hcn : c.cn = fn.qual) :
  Sound G c k q CL ρ relV (eval (.Lambda params body sc pos) c.env) (lamM fn.tab CL params body sc (fn.qual ++ ".<locals>." ++ "<lambda>")) := by
 intro st r e A s m news al Q E hA S hE hQ
 refine bindE e fun CL' e1 e => bindE e1 fun ti hti e1 => bindE e1 fun o hst e1 => bindE e1 fun qq ho e1 => iteS e1 fun hq hCL => ?_
 cases o with
 | tab q' =>
  obtain ⟨⟨p1, p2, p3, p4, p5, p6, p7⟩, _⟩ := lamOk_of hq.2
  rw [show q' = fn.qual ++ ".<locals>." ++ "<lambda>" from (sInj ho).trans hq.1] at hst
  obtain ⟨cc, P, h1, h2⟩ := hcd ti hti
  have hal := S.I ti _ h2
  have CH := (hc.cd _ (List.mem_of_getElem? h2)).keeps (S.sty hc)
  obtain ⟨clA, hcl, hrel⟩ := clos_rel (al := al) S.C (acc := []) (accN := []) nofun hCL
  obtain ⟨_, ps, g1, g2, g3⟩ := (S.H.obj _ _ _ hal hst).inv
  have hP := S.N.get g1
  obtain ⟨bm, ob, b1, b2, b3, b4, b5, b6⟩ := hc.T.bmain
  have b3 := S.sty hc _ _ b3
  have hgs := hc.T.g.keeps (S.sty hc)
  obtain ⟨og, es, ep, d1, d2, _⟩ := hgs
  have hgP : mainGlobals ≠ P := ne_data d1 hP (d2 ▸ nofun)
  have hB : s.heap.BuiltinsAt c.mg P := ⟨bm, ob, b1, b2, ne_data b3 d1 (b6 ▸ d2 ▸ nofun), ne_data b3 hP (b6 ▸ nofun), b3, b4, b5, b6⟩
  have hEnd : ∀ {s1 : Shared} {n1 : Led} {c' : Addr} {oc : Obj} {vs : Array Value} {t : Tok} {name : Str} {pm ctv : Value} {tk : Nat}, St G c CL ρ m s1 n1 al st → Ext news al n1 al → Same s s1 → (c', oc) ∈ n1 → oc.data = .fields vs → vs[1]? = some (.str (fn.qual ++ ".<locals>." ++ "<lambda>") t) → Q (.ref s1.heap.objs.size) { s1 with heap := s1.heap.push (kla_obj name (fn.qual ++ ".<locals>." ++ "<lambda>") params body sc clA pm c' ctv), toks := tk } := fun S1 X1 G1 k1 k2 k3 =>
   S1.lamNew k1 k2 k3 hrel fun v s' n' a' S' X' R' G' => hQ _ _ (sInj e).symm v s' n' a' S' (X1.trans S.H X') R' (G1.trans G')
  refine kla_eval (dflt_none p5 p6) ?_
  rw [show c.env.qual ++ "<lambda>" = fn.qual ++ ".<locals>." ++ "<lambda>" by rw [← hcn]; unfold Act.env; cases c.comp <;> rfl]
  cases hf : codeAmong pos ps.toList with
  | some cv =>
   obtain ⟨c', oc, vs, t, e2, k1, k2, k3⟩ := g3 pos cv hf
   refine kla_makeFunctionHit (mg := c.mg) (closureFor_of (env_cells ▸ hcl)) env_globals.1 (hc.T.g.keeps (S.sty hc)) (env_code.trans h1) CH hP g2 hf hB fun ctv h' tk hk hsz => ?_
   rw [e2]
   exact hEnd (s1 := { s with heap := h', toks := tk }) (S.ext Ext.refl (S.F.keeps hk) (S.N.grown hk) S.H) Ext.refl ⟨rfl, rfl⟩ k1 k2 k3
  | none =>
   refine kla_makeFunction (mg := c.mg) (closureFor_of (env_cells ▸ hcl)) env_globals.1 (hc.T.g.keeps (S.sty hc)) (env_code.trans h1) CH hP g2 hf hgP hB fun c' ctv h' tk hx hge hlt hrec htb => ?_
   obtain ⟨c₂, oc, vs, t, e2, hoc, hd, hv⟩ := hrec
   rw [← Value.ref.inj e2] at hoc
   have hPn := S.N _ g1
   have hLc : c.L < c' := Nat.lt_of_lt_of_le S.F.ns.lt hge
   have hn : c' ∉ news.map (·.1) := fun q => by
    obtain ⟨p, hp, e⟩ := List.mem_map.mp q
    exact absurd (Heap.lt_size (S.N p hp).1) (by rw [e]; exact Nat.not_lt.mpr hge)
   have hne : c' ≠ P := fun e => hn (e ▸ List.mem_map_of_mem (f := (·.1)) g1)
   have N1 := News.turn S.N hx htb
   have X1 : Ext news al ((c', oc) :: putLed P (tabObj (ps ++ #[rawInt pos.line, rawInt pos.col, .ref c'])) news) al := (Ext.put (mem_flat.mpr ⟨ti, _, hal, .inl rfl⟩)).trans S.H Ext.free
   refine hEnd (s1 := { s with heap := h' }) (S.ext X1 ⟨S.F.ns.extBut hx hPn.2.1.symm, fun b o e => hx b o (fun q => by rw [q, hPn.2.2] at e; exact noS e) (S.F.keep b o e), S.F.above⟩ (fun p hp => ?_) (S.H.turn hal hst g1 g2 g3 hn hd hv)) X1 ⟨rfl, rfl⟩ (.head _) hd hv
   rcases List.mem_cons.mp hp with e | hp
   ·exact e ▸ ⟨hoc, Nat.ne_of_gt hLc, Heap.get?_none_of_le (Nat.le_trans S.F.above (Nat.le_of_lt hLc))⟩
   ·exact N1 p hp
 | _ => exact noS ho
noncomputable def lamCallM (ev : List (Str × Nat) → Loc → M V) (params : Arguments) (cl : List (Str × Nat)) (args : List V) : M V := fun st =>
 if args.length = params.args.length then ev cl ((params.args.map (·.arg)).zip args) st else none
theorem lookupNd {α : Type} : ∀ {l : List (Str × α)} {x : Str} {v : α}, (l.map (·.1)).Nodup → (x, v) ∈ l → l.lookup x = some v
 | [], _, _, _, h => nomatch h
 | (n, u) :: r, x, v, hn, h => by
  simp only [List.map_cons, List.nodup_cons] at hn
  rw [List.lookup_cons]
  rcases List.mem_cons.mp h with e | h
  ·induction e using E4; simp
  ·have : (x == n) = false := by
    rw [beq_eq_false_iff_ne]
    exact fun e => hn.1 (e ▸ List.mem_map_of_mem (f := (·.1)) h)
   rw [this]
   exact lookupNd hn.2 h
theorem zip_lookup_rel {K : Frag} : ∀ {ns : List Str} {vs : List Value} {l : List V}, ns.Nodup → vs.length = ns.length → VRs K news al vs l → ∀ x y, (ns.zip l).lookup x = some y → ∃ v, (ns.zip vs).reverse.lookup x = some v ∧ VR K news al v y := by
 intro ns vs l hn hl h x y e
 have key : ∀ {ns : List Str} {vs : List Value} {l : List V}, vs.length = ns.length → VRs K news al vs l → ∀ x y, (ns.zip l).lookup x = some y → ∃ v, (x, v) ∈ ns.zip vs ∧ VR K news al v y := by
  intro ns
  induction ns with
  | nil => intro vs l _ _ x y e; simp at e
  | cons n r ih =>
   intro vs l hl h x y e
   cases h with
   | nil => simp at hl
   | cons h1 h2 =>
    simp only [List.zip_cons_cons, List.lookup_cons] at e
    cases hx : x == n with
    | true => rw [hx] at e; cases e; rw [eq_of_beq hx]; exact ⟨_, .head _, h1⟩
    | false =>
     rw [hx] at e
     obtain ⟨v, g1, g2⟩ := ih (by simpa using hl) h2 x y e
     exact ⟨v, .tail _ g1, g2⟩
 obtain ⟨v, h1, h2⟩ := key hl h x y e
 refine ⟨v, lookupNd ?_ (List.mem_reverse.mpr h1), h2⟩
 rw [List.map_reverse, (List.reverse_perm _).nodup_iff, List.map_fst_zip (by lia)]
 exact hn
theorem lamCall {kk : Nat} {params : Arguments} {body : Expr} {sc : Scope} {qual : Str} {cl : List (Str × Nat)} {ev : List (Str × Nat) → Loc → M V} {v : Value} {vs : List Value} {args : List V} {r : Except Addr V × Sto} {R : Result → Shared → Prop} (hG : G.Ok) (hc : c.Ok G) (hok : lamOk params sc = true)
  (hb : ∀ (c' : Act) (CL' : List (Str × Nat)) (ρ' : Loc), c'.Ok G → c'.comp = none → c'.cs = sc → c'.cn = qual → Sound G c' k q CL' ρ' relV (eval body c'.env) (ev CL' ρ'))
  (hfr : A.frames = some (c.fenv :: c.outer)) (hd : A.depth + 8 * k + 20 < recursionLimit) (hu : A.units + 64 * k + 140 < cLine) (hh : q = true → A.handled = none)
  (S : St G c CL ρ m s news al st) (hv : VR (G.K c.w.params) news al v (.hnd kk)) (hst : st[kk]? = some (.lam params body sc qual cl)) (hs : VRs (G.K c.w.params) news al vs args) (e : lamCallM ev params cl args st = some r)
  (hE : ∀ C st', r = (.error C, st') → ∀ v s' n2 a2, c.fly m C v s' n2 a2 st' → Ext news al n2 a2 → Same s s' → R (.error v) s')
  (hR : ∀ y st', r = (.ok y, st') → ∀ v s' news' al', St G c CL ρ m s' news' al' st' → Ext news al news' al' → VR (G.K c.w.params) news' al' v y → Same s s' → R (.ok (.ret v)) s') :
  codeAny (model G.prog c.w) A (.call v ⟨vs, []⟩) R s := by
 obtain ⟨⟨p1, p2, p3, p4, p5, p6, p7⟩, p8, p9, p10, p11, p12⟩ := lamOk_of hok
 refine iteS e fun hlen e1 => ?_
 obtain ⟨f, e0, _, hal⟩ := hv.inv
 rw [e0]
 obtain ⟨_, c', oc, fvs, t, name, clos, pm, ctv, g1, g2, g3, g4, g5⟩ := (S.H.obj _ _ _ hal hst).inv
 have hns : vs.length = (params.args.map (·.arg)).length := hs.length.trans (hlen.trans (List.length_map _).symm)
 obtain ⟨FG, BG, stG, _⟩ := groundX (R := R) (S.B hc) S.F S.N hfr rfl hc.hk
 have hlt : ∀ p ∈ news, p.1 < s.heap.objs.size := fun p hp => Heap.lt_size (S.N p hp).1
 refine kla_callFunE (fd := kla_fn name qual params body sc clos pm (.ref c') ctv) (by lia) (S.N _ g1).1 rfl p9 p10 rfl ⟨c', oc, fvs, t, rfl, S.N.get g2, g3, g4⟩ ?_
 rw [bind_simple (kla_fn name qual params body sc clos pm (.ref c') ctv) p1 p2 p3 p4 rfl hns p7]
 refine wpAny_pure (wpAny_newFunctionEnv p12 (fun x hx => p8 _ (List.of_mem_zip hx).1) (fun h₁ hns1 hsb => ⟨(((S.TG hc).nolimit).keeps S.F.keep).fresh _ hsb, ?_⟩) p11)
 show codeAny _ _ (.expr body (envX qual sc s.heap.objs.size f (.ref c') clos)) _ _
 have hk₁ : ∀ b o, s.heap.get? b = some o → h₁.get? b = some o := fun b o e => hsb.extBut b o (Nat.ne_of_lt (Heap.lt_size e)) (Heap.get?_push_of_some _ e)
 refine kla_codeExpr ?_
 refine hb (c.into G A (hideAll s.heap (news.map (·.1))) qual sc s.heap.objs.size f (.ref c') clos) cl _ (into_ok hc p11 BG) rfl rfl rfl _ _ e1 (A.deeper (envX qual sc s.heap.objs.size f (.ref c') clos)) _ _ news al _ _ ⟨Around.frames_deeper hfr, by show A.depth + 1 + 8 * k + 16 < recursionLimit; lia, by show A.units + 3 + 64 * k + 128 < cLine; lia, hh⟩
  ⟨⟨_, .refl, ⟨hns1, fun b o e => hk₁ b o (of_hideAll _ e), Nat.le_of_eq (hideAll_size _ _)⟩, fun p hp => ⟨hk₁ _ _ (S.N p hp).1, Nat.ne_of_lt (hlt p hp), hideAll_none _ (List.mem_map_of_mem hp)⟩⟩, S.H, fun x y e => zip_lookup_rel p7 hns hs x y e, g5, S.I⟩
  ((into_err hc p11 S FG BG Ext.refl ⟨rfl, rfl⟩ hE).expr fun _ _ z => z) fun y st' z v3 s3 n3 a3 S3 X3 R3 G3 => ?_
 exact hR y st' z _ _ n3 a3 (S.back hc FG S3.T S3.F S3.N X3 S3.H) X3 R3 (Same.trans ⟨rfl, rfl⟩ G3)
end
def seqAt (a : V) (s : Sto) : Option (List V) := match a with
 | .hnd k => lstAt s k
 | .lstK l => some l
 | _ => none
def partE (f : Expr → M V) : Option Expr → M V
 | none => M.pure .none
 | some e => f e
def sliceV (a lo hi st : V) (s : Sto) : Option (List V) := (seqAt a s).bind fun l => (partV lo).bind fun lo => (partV hi).bind fun hi => (partV st).bind fun st => if l.length ≤ sizeLine ∧ st ≠ some 0 then some (pickV l lo hi st) else none
def sliceM (a lo hi st : V) : M V := fun s => ((sliceV a lo hi st s).bind fun l => newO (.list l) s).or ((a.tup?.bind fun l => revV l lo hi st).map fun y => (.ok y, s))
noncomputable def pairsM (f : Expr → M V) : List (Option Expr) → List Expr → M (List (Str × V))
 | some k :: ks, v :: vs => M.bind (f k) fun a => M.bind (f v) fun b => M.bind (pairsM f ks vs) fun l => match a with
  | .str x => M.pure ((x, b) :: l)
  | _ => stop
 | [], [] => M.pure []
 | _, _ => stop
noncomputable def notTup : Expr → Bool
 | .Tuple _ _ _ => false
 | _ => true
set_option backward.match.sparseCases true in
section
variable {G : Pg} {c : Act} {k : Nat} {q : Bool} {CL : List (Str × Nat)} {ρ : Loc} {m : Str → Option Value} {s s' : Shared} {news news' : Led} {al al' : Al} {st st' : Sto} {A : Around} {E : Value → Shared → Prop} {pos : Pos}
theorem Sound.part {f : Expr → M V} {o : Option Expr} (h : ∀ e, o = some e → Sound G c k q CL ρ relV (eval e c.env) (f e)) : Sound G c k q CL ρ relV (evalPart o c.env) (partE f o) := by
 cases o with
 | none =>
  intro st r e A s m news al Q E hA S hE hQ
  cases e
  exact wpAny_pure (hQ _ _ rfl _ s news al S Ext.refl .none .refl)
 | some e => exact h e rfl
theorem St.seqAt (hc : c.Ok G) (S : St G c CL ρ m s news al st) {v : Value} {y : V} {l : List V} (h : VR (G.K c.w.params) news al v y) (e : seqAt y st = some l) : ∃ (b : Addr) (vs : List Value), v = .ref b ∧ s.heap.IsList b vs.toArray ∧ VRs (G.K c.w.params) news al vs l := by
 cases y with
 | hnd k =>
  obtain ⟨a, e0, _⟩ := h.inv
  obtain ⟨vs, n, _, hm, hli, r1⟩ := S.list (e0 ▸ h) (lstAt_of e)
  exact ⟨a, vs, e0, hli, r1⟩
 | lstK l' =>
  rw [← sInj e]
  obtain ⟨a, o, vs, n, e0, hK, hK1, hK2, r1⟩ := h.inv
  exact ⟨a, vs, e0, ⟨_, hc.X.keeps (S.sty hc) _ _ hK, hK1, _, hK2⟩, r1⟩
 | _ => exact noS e
theorem Sound.slice (hc : c.Ok G) {f : Expr → M V} {o : Expr} {lo hi stp : Option Expr} {p : Pos} {mo : M V} (h1 : Sound G c k q CL ρ relV (eval o c.env) mo) (hl : ∀ e, lo = some e → Sound G c k q CL ρ relV (eval e c.env) (f e)) (hh : ∀ e, hi = some e → Sound G c k q CL ρ relV (eval e c.env) (f e)) (hs : ∀ e, stp = some e → Sound G c k q CL ρ relV (eval e c.env) (f e)) :
  Sound G c k q CL ρ relV (eval (.Subscript o (.Slice lo hi stp p) pos) c.env) (M.bind mo fun a => M.bind (partE f lo) fun x => M.bind (partE f hi) fun y => M.bind (partE f stp) fun z => sliceM a x y z) := by
 intro st r e A s m news al Q E hA S hE hQ
 refine Subscript_ (h1.go e hA S hE fun a st1 e1 v1 s1 n1 a1 S1 X1 R1 G1 => ?_)
 have E1 := hE.step S X1 G1
 refine wpAny_Slice ((Sound.part hl).go e1 hA S1 E1 fun x st2 e2 v2 s2 n2 a2 S2 X2 R2 G2 => ?_)
 have E2 := E1.step S1 X2 G2
 refine (Sound.part hh).go e2 hA S2 E2 fun y st3 e3 v3 s3 n3 a3 S3 X3 R3 G3 => ?_
 refine (Sound.part hs).go e3 hA S3 (E2.step S2 X3 G3) fun z st4 e4 v4 s4 n4 a4 S4 X4 R4 G4 => ?_
 refine Mine.orE e4 (fun e4 => ?_) fun e4 => mapE e4 fun y' e5 e6 => bindE e5 fun l g1 e5 => ?_
 rotate_left
 ·obtain ⟨b, e0, r0⟩ := (((R1.ext S1.H X2).ext S2.H X3).ext S3.H X4).vtup g1
  rw [e0]
  exact revTail hc S4 r0 ((R2.ext S2.H X3).ext S3.H X4) (R3.ext S3.H X4) R4 e5 (match stp with | none => [.ref s4.heap.objs.size, .ref b] | some _ => [.ref b, .ref s4.heap.objs.size]) (by cases stp <;> rfl) fun v5 s5 n5 a5 S5 X5 r5 G5 => hQ _ _ e6.symm v5 s5 n5 a5 S5 (X1.trans S.H (X2.trans S1.H (X3.trans S2.H (X4.trans S3.H X5)))) r5 (G1.trans (G2.trans (G3.trans (G4.trans G5))))
 refine bindE e4 fun L e5 e4 => bindE e5 fun l g1 e5 => bindE e5 fun lo' g2 e5 => bindE e5 fun hi' g3 e5 => bindE e5 fun st' g4 e5 => iteS e5 fun hz e5 => ?_
 obtain ⟨b, vs, e0, hli, r1⟩ := S4.seqAt hc (((R1.ext S1.H X2).ext S2.H X3).ext S3.H X4) g1
 rw [e0]
 refine sliceTail S4 hli r1 hz.1 (part_of ((R2.ext S2.H X3).ext S3.H X4) g2) (part_of (R3.ext S3.H X4) g3) (part_of R4 g4) hz.2 (match stp with | none => [.ref s4.heap.objs.size, .ref b] | some _ => [.ref b, .ref s4.heap.objs.size]) (by cases stp <;> rfl) fun b2 s5 n5 S5 X5 hb hm5 G5 => ?_
 have hm5' : (b2, listOf (slicePick vs.toArray lo' hi' st').toList.toArray 0) ∈ n5 := by rw [Array.toArray_toList]; exact hm5
 have hnal : b2 ∉ flat a4 := fun h => hb (S4.H.own_dom h)
 have X6 : Ext n4 a4 n5 (a4 ++ [(b2, none)]) := ⟨⟨[(b2, none)], rfl, fun x hx => List.mem_singleton.mp hx ▸ hb⟩, X5.keep, X5.dom⟩
 have H6 : HR (G.K c.w.params) G.prog c.w n5 (a4 ++ [(b2, none)]) (st4 ++ [.list L]) := S5.H.snoc (p := (b2, none)) (List.nodup_cons.mpr ⟨nofun, List.nodup_nil⟩) (fun x hx => List.mem_singleton.mp hx ▸ hnal) (.list hm5' (sInj e5 ▸ (r1.slice lo' hi' st').kp (X6.kp S4.H)))
 exact hQ _ _ (sInj e4).symm _ s5 n5 _ (S4.extg X6 S5.gd H6) (X1.trans S.H (X2.trans S1.H (X3.trans S2.H (X4.trans S3.H X6)))) (.hnd (x := none) (by rw [← S4.H.len, List.getElem?_concat_length])) (G1.trans (G2.trans (G3.trans (G4.trans G5))))
theorem Sound.subL {f : Expr → M V} {es : List Expr} {i : Expr} {m2 : M V} {p : Pos} (hn : es.all noStar = true) (hp : plainIdx i = true) (h1 : ∀ e ∈ es, Sound G c k q CL ρ relV (eval e c.env) (f e)) (h2 : Sound G c k q CL ρ relV (eval i c.env) m2) :
  Sound G c k q CL ρ relV (eval (.Subscript (.List es p) i pos) c.env) (M.bind (evList f es) fun l st => if l.length ≤ sizeLine then M.bind m2 (fun b => still fun _ => b.int?.bind fun j => lget j l) st else none) := by
 intro st r e A s m news al Q E hA S hE hQ
 refine Subscript_ (PyProof.Rows.List_ ((Sound.args hn h1).go e hA S hE fun l st1 e1 vs s1 n1 a1 S1 X1 R1 G1 => iteS e1 fun hl e1 => ?_))
 refine newList_N S1.F S1.N (fun h' F N => ?_) (by rw [R1.length]; exact hl)
 have S2 := S1.new (tk := s1.toks) F N
 have X2 : Ext n1 a1 ((s1.heap.objs.size, listOf vs.toArray 0) :: n1) a1 := Ext.free
 have Xa := X1.trans S.H X2
 refine h2.go e1 hA S2 (hE.step S Xa (G1.trans ⟨rfl, rfl⟩)) fun b st2 e2 v2 s3 n3 a3 S3 X3 R3 G3 => mapE e2 fun z e3 e4 => bindE e3 fun j e5 e3 => ?_
 have hm := X3.keep _ (.head _) fun h => S1.fresh (S1.H.own_dom h)
 refine lget_of ((R1.ext S1.H X2).ext S2.H X3) e3 fun b1 b2 n u e6 e7 e8 => ?_
 obtain ⟨t, e9⟩ := R3.vint e5
 rw [e9]
 have hli := S3.N.isList hm
 exact tail_any hli.typeIs slot_list_getitem.lookup (listGet hli b1 b2 e6 e7 (hQ _ _ e4.symm _ _ n3 a3 (S3.at rfl) (Xa.trans S.H X3) e8 (G1.trans (.trans ⟨rfl, rfl⟩ (G3.trans ⟨rfl, rfl⟩))))) (sub_plain hp _ _)
theorem PR.keys {K : Frag} {κ : Type} {kvs : List (κ × Value)} {fs : List (κ × V)} (h : PR K news al kvs fs) : kvs.map (·.1) = fs.map (·.1) := by
 induction h with
 | nil => rfl
 | cons _ _ ih => exact congrArg (List.cons _) ih
theorem pairs_sound {f : Expr → M V} {pv : Pos} {ks : List (Option Expr)} : ∀ {vs : List Expr}, (∀ e, some e ∈ ks → Sound G c k q CL ρ relV (eval e c.env) (f e)) → (∀ e ∈ vs, Sound G c k q CL ρ relV (eval e c.env) (f e)) →
  Sound G c k q CL ρ (fun K news al (l : List (Value × Value)) (l' : List (Str × V)) => ∃ kvs : List (Str × Value), Carries (strKind G.prog c.w) l kvs ∧ PR K news al kvs l') (evalPairs (pairTrees ks vs c.env pv)) (pairsM f ks vs) := by
 induction ks with
 | nil =>
  intro vs hk hv
  cases vs with
  | nil => exact fun st r e A s m news al Q E hA S hE hQ => evalPairs_nil (hQ _ _ (sInj e).symm _ s news al S Ext.refl ⟨[], trivial, .nil⟩ .refl)
  | cons v0 vs => exact fun st r e => noS e
 | cons k0 ks ih =>
  intro vs hk hv
  cases k0 with
  | none => exact fun st r e => noS e
  | some k0 => cases vs with
   | nil => exact fun st r e => noS e
   | cons v0 vs =>
    intro st r e A s m news al Q E hA S hE hQ
    show wpAny _ _ (evalPairs ((eval k0 c.env, do let x ← eval v0 c.env; standAt pv; pure x) :: pairTrees ks vs c.env pv)) _ _ _
    refine evalPairs_cons ((hk k0 (.head _)).go (show M.bind (f k0) _ st = some r from e) hA S hE fun a st1 e1 va s1 n1 a1 S1 X1 R1 G1 => ?_)
    have E1 := hE.step S X1 G1
    refine wpAny_bind ((hv v0 (.head _)).go e1 hA S1 E1 fun b st2 e2 vb s2 n2 a2 S2 X2 R2 G2 => wpAny_bind (wpAny_standAt (wpAny_pure ?_)))
    refine (ih (fun e he => hk e (.tail _ he)) fun e he => hv e (.tail _ he)).go e2 hA S2 (E1.step S1 X2 G2) fun l st3 e3 vl s3 n3 a3 S3 X3 R3 G3 => ?_
    obtain ⟨kvs, g1, g2⟩ := R3
    have Ra := (R1.ext S1.H X2).ext S2.H X3
    cases a with
    | str x =>
     obtain ⟨t, ha⟩ := Ra.inv
     exact hQ _ _ (sInj e3).symm _ s3 n3 a3 S3 (X1.trans S.H (X2.trans S1.H X3)) (ha ▸ ⟨(x, vb) :: kvs, ⟨strKind_is _ _ _ _, rfl, g1⟩, .cons (R2.ext S2.H X3) g2⟩) (G1.trans (G2.trans G3))
    | _ => exact noS e3
theorem Sound.dict0 (hc : c.Ok G) : Sound G c k q CL ρ relV (eval (.Dict [] [] pos) c.env) (newO (.sdict [])) := by
 intro st r e A s m news al Q E hA S hE hQ
 induction e using E1
 refine wpAny_Dict_empty ?_
 obtain ⟨o, ho, hd⟩ := Heap.dictOf_iff.mp (Heap.DictOf.new (knd := strKind G.prog c.w) s.heap)
 have h0 := Heap.get?_push_size (o := ({ cls := .type "dict", data := .dict #[] } : Obj)) s.heap rfl
 rw [h0] at ho; induction ho using E1
 obtain ⟨S', X', r'⟩ := S.newOwn (tk := s.toks) (x := .sdict []) S.fresh (S.F.push emptyDict) (S.N.push S.F emptyDict) (.sdict (.head _) hd (S.sys hc) .nil)
 exact hQ _ _ rfl _ _ _ _ S' X' r' ⟨rfl, rfl⟩
theorem Sound.dict (hc : c.Ok G) {f : Expr → M V} {ks : List (Option Expr)} {vs : List Expr} (hall : ks.all (·.isSome) = true) (hl : ks.length = vs.length) (h0 : ks ≠ []) (hlen : ks.length ≤ 15) (hk : ∀ e, some e ∈ ks → Sound G c k q CL ρ relV (eval e c.env) (f e)) (hv : ∀ e ∈ vs, Sound G c k q CL ρ relV (eval e c.env) (f e)) :
  Sound G c k q CL ρ relV (eval (.Dict ks vs pos) c.env) (M.bind (pairsM f ks vs) fun l st => if (l.map (·.1)).Nodup then newO (.sdict l) st else none) := by
 intro st r e A s m news al Q E hA S hE hQ
 refine kdn_eval (knd := strKind G.prog c.w) S.F S.N (S.TG hc).nolimit hall hl h0 hlen fun d h' o F N hlt hsys hd => ?_
 have hdn : d ∉ news.map (·.1) := fun q => by
  obtain ⟨p, hp, e⟩ := List.mem_map.mp q
  exact absurd (hlt p hp) (by rw [e]; exact Nat.lt_irrefl _)
 have O : Off c d news := ⟨Ne.symm (N (d, o) (.head _)).2.1, S.old (N (d, o) (.head _)).2.2, hdn⟩
 have hnf : ¬ Free o := by
  obtain ⟨es, ep, hc', hdat, _⟩ := hd
  exact nf_data (hdat ▸ nofun) (hdat ▸ nofun)
 have S1 : St G c CL ρ m { s with heap := h' } ((d, o) :: news) al st := S.ext Ext.free F N (S.H.free hdn)
 refine (pairs_sound hk hv).go e hA S1 (hE.step S Ext.free ⟨rfl, rfl⟩) fun l st2 e2 vl s2 n2 a2 S2 X2 R2 G2 => ?_
 obtain ⟨kvs, g1, g2⟩ := R2
 refine iteS e2 fun _ e2 => ?_
 ·rename_i hnd
  induction e2 using E1
  have hal : d ∉ flat al := fun h => hdn (S.H.own_dom h)
  have hm2 : (d, o) ∈ n2 := X2.keep _ (.head _) hal
  have hkeys : kvs.map (·.1) = l.map (·.1) := g2.keys
  refine ⟨kvs, g1, Heap.dictOf_iff.mpr ⟨o, S2.N.get hm2, hd⟩, fun h3 hD hsb => ?_⟩
  rw [merged_nil_of_nodup kvs (by rw [hkeys]; exact hnd)] at hD
  obtain ⟨o', ho', hd'⟩ := Heap.dictOf_iff.mp hD
  obtain ⟨N3, H3, X3, K3, O3, g3⟩ := S.without (c := c) O hnf rfl (h' := s2.heap) S2.H S2.N X2
  have S3 : St G c CL ρ m s2 (dropLed d n2) a2 st2 := S.extg X3 ⟨_, S2.T, S2.F, N3⟩ H3
  have O3' : Off c d (dropLed d n2) := ⟨O.ne, O.old, O3⟩
  have S4 := S3.off O3' (tk := s2.toks) fun b x hb e => (hsb.2 b hb).trans e
  have N5 : News S4.gr c.L h3 ((d, o') :: dropLed d n2) := fun p hp => by
   rcases List.mem_cons.mp hp with rfl | hp
   ·exact ⟨ho', Ne.symm O.ne, O.oldg S4⟩
   ·exact S4.N p hp
  obtain ⟨S5, X5, r5⟩ := S4.newOwn (tk := s2.toks + vl.length) (x := .sdict l) O3 S4.F N5 (.sdict (.head _) hd' hsys ((g2.kp K3).kp ((Ext.owned O3).kp S4.H)))
  exact hQ _ _ rfl _ _ _ _ S5 (X3.trans S.H X5) r5 (Same.trans ⟨rfl, rfl⟩ (Same.trans G2 ⟨rfl, rfl⟩))
theorem SoundS.assignT (hc : c.Ok G) (hp : c.comp = none) (hq : q = true) {es : List Expr} {xs : List Str} {n : Nat} {tp : Pos} {e : Expr} {me : Loc → M V} (hn : namesOf es = some xs) (hnc : noComp e = true) (ht : notTup e = true) (h1 : ∀ ρ, Sound G c k q CL ρ relV (eval e c.env) (me ρ)) :
  SoundS G c k q CL (exec (.Assign [.Tuple es n tp] e pos) c.env) (fun ρ => M.bind (me ρ) fun y => M.bind (noErr (unpackM c.cs CL xs y ρ)) fun ρ' => M.pure (.next, ρ')) := by
 intro ρ st r e1 A s m news al Q E hA S hE hQ
 have hsw : swappedStores [.Tuple es n tp] e c.env = pure none := by
  unfold swappedStores
  cases e <;> first | rfl | exact noB ht
 refine Assign_Tuple ((h1 ρ).goS e1 hA S hE fun y st1 e2 v s1 n1 a1 S1 X1 R1 G1 => noErr_go e2 fun ρ' st2 e3 e4 => ?_) (swapsS_no hnc) hsw
 exact SoundA.tup hc hp hq hn ρ st1 y ρ' st2 e3 A s1 m n1 a1 v _ _ hA S1 R1 fun s2 m2 n2 a2 S2 X2 G2 => hQ _ _ _ (sInj e4).symm _ s2 m2 n2 a2 S2 (X1.trans S.H X2) .next (G1.trans G2)
theorem storesB_sound (hc : c.Ok G) (hp : c.comp = none) {xs : List Str} : ∀ {vs : List Value} {ys : List V} {ρ : Loc} {m : Str → Option Value} {s : Shared} {news : Led} {st : Sto} {ρ' : Loc} {Q : Unit → Shared → Prop},
  St G c CL ρ m s news al st → VRs (G.K c.w.params) news al vs ys → storesM c.cs CL xs ys ρ st = some (.ok ρ', st') →
  (∀ s' m' news', St G c CL ρ' m' s' news' al st' → Ext news al news' al → Same s s' → Q () s') → wpAny (model G.prog c.w) A (assignInOrder (xs.map fun n => bindName c.env n) vs) Q E s := by
 induction xs with
 | nil =>
  intro vs ys ρ m s news st ρ' Q S h e1 hQ
  cases ys with
  | nil =>
   obtain ⟨z1, z2⟩ := Prod.mk.inj (sInj e1)
   rw [show vs = [] from h.inv]
   exact wpAny_pure (hQ s m news (z2 ▸ Except.ok.inj z1 ▸ S) Ext.refl .refl)
  | cons _ _ => exact noS e1
 | cons x xs ih =>
  intro vs ys ρ m s news st ρ' Q S h e1 hQ
  cases ys with
  | nil => exact noS e1
  | cons y ys =>
   obtain ⟨v, ws, e4, h1, h2⟩ := h.inv
   rw [e4]
   refine store_go (g := fun ρ' => storesM c.cs CL xs ys ρ') e1 fun ρ1 st1 e3 e4 => ?_
   show wpAny _ _ (do holding _ (bindName c.env x _); assignInOrder (xs.map fun n => bindName c.env n) _) _ _ _
   refine wpAny_bind (wpAny_holding (bindName_ (storeM_sound hc hp S h1 e3 fun s2 m2 n2 S2 X2 G2 => ?_)))
   exact ih S2 (h2.ext S.H X2) e4 fun s3 m3 n3 S3 X3 G3 => hQ s3 m3 n3 S3 (X2.trans S.H X3) (G2.trans G3)
end
structure Ev where
 val : Bool → Scope → List (Str × Nat) → Loc → Expr → M V
 tst : Bool → Scope → List (Str × Nat) → Loc → Expr → M Bool
noncomputable def turns : Nat := 5000
inductive Cmd where
 | const (x : Const)
 | name (x : Str)
 | bin (l : Expr) (op : Operator) (x : Expr)
 | un (op : UnaryOp) (x : Expr)
 | cmp (l : Expr) (op : CmpOp) (x : Expr)
 | and_ (x : Expr) (xs : List Expr)
 | ite (c a b : Expr)
 | tup (es : List Expr)
 | list (es : List Expr)
 | attr (o : Expr) (x : Str)
 | slice (o : Expr) (lo hi st : Option Expr)
 | sub (o i : Expr)
 | subL (es : List Expr) (i : Expr)
 | meth (o : Expr) (x : Str) (es : List Expr)
 | call (f : Expr) (es : List Expr)
 | dict0
 | dict (k : Option Expr) (ks : List (Option Expr)) (vs : List Expr)
 | lam (params : Arguments) (body : Expr) (sc : Scope)
 | comp (elt : Expr) (x : Str) (iter : Expr) (ifs : List Expr) (csc : Scope)
 | dcomp (kx vx : Expr) (x1 x2 : Str) (iter : Expr) (csc : Scope)
 | no
inductive Form (q inC : Bool) : Expr → Cmd → Prop where
 | const {x n p} : Form q inC (.Constant x n p) (.const x)
 | name {x p} : Form q inC (.Name x p) (.name x)
 | bin {l op x p} : Form q inC (.BinOp l op x p) (.bin l op x)
 | un {op x p} : Form q inC (.UnaryOp op x p) (.un op x)
 | cmp {l op x p} (h : behindInMarks op x = false) : Form q inC (.Compare l [op] [x] p) (.cmp l op x)
 | and_ {x xs p} : Form q inC (.BoolOp .And (x :: xs) p) (.and_ x xs)
 | ite {c a b p} : Form q inC (.IfExp c a b p) (.ite c a b)
 | tup {es n p} (h : es.all noStar = true) : Form q inC (.Tuple es n p) (.tup es)
 | list {es p} (h : es.all noStar = true) : Form q inC (.List es p) (.list es)
 | attr {o x p} (h : okBase o = true) : Form q inC (.Attribute o x p) (.attr o x)
 | slice {o lo hi st p p'} : Form q inC (.Subscript o (.Slice lo hi st p) p') (.slice o lo hi st)
 | sub {o i p} (h : plainIdx i = true) : Form q inC (.Subscript o i p) (.sub o i)
 | subL {es p i p'} (h1 : es.all noStar = true) (h : plainIdx i = true) : Form q inC (.Subscript (.List es p) i p') (.subL es i)
 | meth {o x ap es pos} (h : okBase o = true) (h1 : (ap.endLine == pos.line) = true) (h2 : es.length < 30) (h3 : es.all noStar = true) : Form q inC (.Call (.Attribute o x ap) es [] pos) (.meth o x es)
 | call {f es pos} (h : okFunc f = true) (h3 : es.all noStar = true) : Form q inC (.Call f es [] pos) (.call f es)
 | dict0 {p} : Form q inC (.Dict [] [] p) .dict0
 | dict {k ks vs p} (h : (k :: ks).all (·.isSome) = true) (h1 : (k :: ks).length = vs.length) (h2 : (k :: ks).length ≤ 15) : Form q inC (.Dict (k :: ks) vs p) (.dict k ks vs)
 | lam {params body sc p} : Form q inC (.Lambda params body sc p) (.lam params body sc)
 | comp {elt x px iter ifs csc p} (h : inC = false) (h1 : q = true) (h2 : compOk csc x = true) (h3 : noSet iter = true) : Form q inC (.ListComp elt [⟨.Name x px, iter, ifs, 0⟩] csc p) (.comp elt x iter ifs csc)
 | dcomp {kx vx x1 x2 px1 px2 tn tp iter csc p} (h : inC = false) (h1 : q = true) (h2 : compOk csc x1 = true) (h3 : compOk csc x2 = true) (h4 : x1 ≠ x2) (h5 : noSet iter = true) : Form q inC (.DictComp kx vx [⟨.Tuple [.Name x1 px1, .Name x2 px2] tn tp, iter, [], 0⟩] csc p) (.dcomp kx vx x1 x2 iter csc)
 | no {e} : Form q inC e .no
noncomputable def orNo (b : Bool) (c : Cmd) : Cmd := match b with
 | true => c
 | false => .no
def planCmp (l : Expr) : List CmpOp → List Expr → Cmd
 | [op], [x] => orNo (!behindInMarks op x) (.cmp l op x)
 | _, _ => .no
noncomputable def planBool : BoolOp → List Expr → Cmd
 | .And, x :: xs => .and_ x xs
 | _, _ => .no
def planSubL (i : Expr) : Expr → Cmd
 | .List es _ => orNo (es.all noStar && plainIdx i) (.subL es i)
 | o => orNo (plainIdx i) (.sub o i)
def planSub (o : Expr) : Expr → Cmd
 | .Slice lo hi st _ => .slice o lo hi st
 | i => planSubL i o
def planCall (es : List Expr) (pos : Pos) : Expr → Cmd
 | .Attribute o x ap => orNo (okBase o && (ap.endLine == pos.line) && decide (es.length < 30) && es.all noStar) (.meth o x es)
 | f => orNo (okFunc f && es.all noStar) (.call f es)
def planDict : List (Option Expr) → List Expr → Cmd
 | [], [] => .dict0
 | k :: ks, vs => orNo ((k :: ks).all (·.isSome) && ((k :: ks).length == vs.length) && decide ((k :: ks).length ≤ 15)) (.dict k ks vs)
 | _, _ => .no
def planG (b : Bool) (elt : Expr) (csc : Scope) (g : Comprehension) : Cmd := match nameOf g.target with
 | some x => orNo (b && compOk csc x && noSet g.iter && (g.is_async == 0)) (.comp elt x g.iter g.ifs csc)
 | none => .no
def planComp (b : Bool) (elt : Expr) (csc : Scope) : List Comprehension → Cmd
 | [] => .no
 | g :: r => match r with
  | [] => planG b elt csc g
  | _ :: _ => .no
def nm2 (ts : List Expr) : Option (Str × Str) := (namesOf ts).bind arg2
theorem nm2_of {ts : List Expr} {p : Str × Str} (h : nm2 ts = some p) : ∃ q1 q2, ts = [.Name p.1 q1, .Name p.2 q2] := by
 refine bindE h fun l h1 h2 => ?_
 rw [arg2_of h2] at h1
 cases ts with
 | nil => exact nomatch (sInj h1)
 | cons a ts =>
  refine bindE h1 fun x h3 h1 => mapE h1 fun ys h4 h5 => ?_
  obtain ⟨q1, e1⟩ := nameOf_of h3
  obtain ⟨z1, z2⟩ := List.cons.inj h5
  rw [z2] at h4
  cases ts with
  | nil => exact nomatch (sInj h4)
  | cons b ts =>
   refine bindE h4 fun y h6 h4 => mapE h4 fun zs h7 h8 => ?_
   obtain ⟨q2, e2⟩ := nameOf_of h6
   obtain ⟨z3, z4⟩ := List.cons.inj h8
   rw [z4] at h7
   cases ts with
   | nil => exact ⟨q1, q2, by rw [e1, e2, z1, z3]⟩
   | cons c ts => exact bindE h7 fun _ _ h7 => mapE h7 fun _ _ h9 => nomatch h9
def planDT (b : Bool) (kx vx : Expr) (csc : Scope) (iter : Expr) : Expr → Cmd
 | .Tuple ts _ _ => match nm2 ts with
  | some p => orNo (b && compOk csc p.1 && compOk csc p.2 && decide (p.1 ≠ p.2) && noSet iter) (.dcomp kx vx p.1 p.2 iter csc)
  | none => .no
 | _ => .no
def planDG (b : Bool) (kx vx : Expr) (csc : Scope) (g : Comprehension) : Cmd := planDT (b && g.ifs.isEmpty && (g.is_async == 0)) kx vx csc g.iter g.target
def planDC (b : Bool) (kx vx : Expr) (csc : Scope) : List Comprehension → Cmd
 | [] => .no
 | g :: r => match r with
  | [] => planDG b kx vx csc g
  | _ :: _ => .no
def planE (q inC : Bool) : Expr → Cmd
 | .Constant x _ _ => .const x
 | .Name x _ => .name x
 | .BinOp l op x _ => .bin l op x
 | .UnaryOp op x _ => .un op x
 | .Compare l ops xs _ => planCmp l ops xs
 | .BoolOp k xs _ => planBool k xs
 | .IfExp c a b _ => .ite c a b
 | .Tuple es _ _ => orNo (es.all noStar) (.tup es)
 | .List es _ => orNo (es.all noStar) (.list es)
 | .Attribute o x _ => orNo (okBase o) (.attr o x)
 | .Subscript o i _ => planSub o i
 | .Call f es [] pos => planCall es pos f
 | .Dict ks vs _ => planDict ks vs
 | .Lambda params body lsc _ => .lam params body lsc
 | .ListComp elt cs csc _ => planComp (!inC && q) elt csc cs
 | .DictComp kx vx cs csc _ => planDC (!inC && q) kx vx csc cs
 | _ => .no
theorem Form.orNo {q inC b : Bool} {e : Expr} {c : Cmd} (h : b = true → Form q inC e c) : Form q inC e (orNo b c) := by
 cases b
 ·exact .no
 ·exact h rfl
theorem planE_ok (q inC : Bool) (e : Expr) : Form q inC e (planE q inC e) := by
 cases e with
 | Compare l ops xs p =>
  cases ops with
  | nil => exact .no
  | cons op ops => cases ops with
   | cons _ _ => exact .no
   | nil => cases xs with
    | nil => exact .no
    | cons x xs => cases xs with
     | cons _ _ => exact .no
     | nil => exact .orNo fun h => .cmp (Bool.not_eq_true' _ ▸ h)
 | BoolOp k xs p => cases k <;> cases xs <;> first | exact .and_ | exact .no
 | Tuple es n p => exact .orNo fun h => .tup h
 | List es p => exact .orNo fun h => .list h
 | Attribute o x p => exact .orNo fun h => .attr h
 | Subscript o i p =>
  have H : ∀ i, Form q inC (.Subscript o i p) (planSubL i o) := fun i => by
   cases o with
   | List es p => exact .orNo fun h => .subL (Bool.and_eq_true _ _ ▸ h).1 (Bool.and_eq_true _ _ ▸ h).2
   | _ => exact .orNo fun h => .sub h
  cases i with
  | Slice lo hi st p => exact .slice
  | _ => exact H _
 | Call f es ks pos =>
  cases ks with
  | nil =>
   have H : ∀ f, Form q inC (.Call f es [] pos) (orNo (okFunc f && es.all noStar) (.call f es)) := fun f => .orNo fun h => .call (Bool.and_eq_true _ _ ▸ h).1 (Bool.and_eq_true _ _ ▸ h).2
   cases f with
   | Attribute o x ap =>
    exact .orNo fun h => by
     rw [Bool.and_eq_true, Bool.and_eq_true, Bool.and_eq_true, decide_eq_true_iff] at h
     exact .meth h.1.1.1 h.1.1.2 h.1.2 h.2
   | _ => exact H _
  | cons _ _ => exact .no
 | Dict ks vs p =>
  cases ks with
  | nil => cases vs with
   | nil => exact .dict0
   | cons _ _ => exact .no
  | cons k ks =>
   exact .orNo fun h => by
    rw [Bool.and_eq_true, Bool.and_eq_true, decide_eq_true_iff] at h
    exact .dict h.1.1 (beq_iff_eq.mp h.1.2) h.2
 | ListComp elt cs csc p =>
  cases cs with
  | nil => exact .no
  | cons g cs => cases cs with
   | cons _ _ => exact .no
   | nil =>
    obtain ⟨t, iter, ifs, as⟩ := g
    show Form q inC _ (planG (!inC && q) elt csc ⟨t, iter, ifs, as⟩)
    unfold planG
    dsimp only
    cases ht : nameOf t with
    | none => exact .no
    | some x =>
     obtain ⟨px, h3⟩ := nameOf_of ht
     refine .orNo fun h => ?_
     rw [Bool.and_eq_true, Bool.and_eq_true, Bool.and_eq_true, Bool.and_eq_true, Bool.not_eq_true'] at h
     rw [h3, eq_of_beq h.2]
     exact .comp h.1.1.1.1 h.1.1.1.2 h.1.1.2 h.1.2
 | DictComp kx vx cs csc p =>
  cases cs with
  | nil => exact .no
  | cons g cs => cases cs with
   | cons _ _ => exact .no
   | nil =>
    obtain ⟨t, iter, ifs, as⟩ := g
    cases t with
    | Tuple ts tn tp =>
     show Form q inC _ (match nm2 ts with | some p => orNo ((!inC && q) && ifs.isEmpty && (as == 0) && compOk csc p.1 && compOk csc p.2 && decide (p.1 ≠ p.2) && noSet iter) (.dcomp kx vx p.1 p.2 iter csc) | none => .no)
     cases ht : nm2 ts with
     | none => exact .no
     | some p =>
      obtain ⟨q1, q2, h3⟩ := nm2_of ht
      refine .orNo fun h => ?_
      simp only [Bool.and_eq_true, Bool.not_eq_true', decide_eq_true_eq] at h
      obtain ⟨⟨⟨⟨⟨⟨h1, h2⟩, h4⟩, h5⟩, h6⟩, h7⟩, h8⟩ := h
      rw [h3, List.isEmpty_iff.mp h2, eq_of_beq h4]
      exact .dcomp h1.1 h1.2 h5 h6 h7 h8
    | _ => exact .no
 | _ => first | exact .const | exact .name | exact .bin | exact .un | exact .ite | exact .lam | exact .no
def valS (G : Pg) (cf : Bool → V → List V → M V) (fn : Fn) (q : Bool) (r : Ev) (inC : Bool) (sc : Scope) (CL : List (Str × Nat)) (ρ : Loc) : Cmd → M V :=
 let v := r.val inC sc CL ρ
 let t := r.tst inC sc CL ρ
 fun
 | .const x => ofOpt (constV x)
 | .name x => nameM G sc CL ρ x
 | .bin l op x => M.bind (v l) fun a => M.bind (v x) fun b => binM op a b
 | .un op x => M.bind (v x) fun a => still fun st => unV op a st
 | .cmp l op x => M.bind (v l) fun a => M.bind (v x) fun b => still fun st => (cmpX op a b st).map V.bool
 | .and_ x xs => andV v x xs
 | .ite c a b => M.bind (t c) fun x => iteM x (v a) (v b)
 | .tup es => M.bind (evList v es) fun l => still fun _ => if l.length ≤ sizeLine then some (.tup l) else none
 | .list es => M.bind (evList v es) fun l st => if l.length ≤ sizeLine then newO (.list l) st else none
 | .attr o x => M.bind (v o) fun a => still fun st => attrM G x a st
 | .slice o lo hi st => M.bind (v o) fun a => M.bind (partE v lo) fun x => M.bind (partE v hi) fun y => M.bind (partE v st) fun z => sliceM a x y z
 | .sub o i => M.bind (v o) fun a => M.bind (v i) fun b => still fun st => getItV a b st
 | .subL es i => M.bind (evList v es) fun l st => if l.length ≤ sizeLine then M.bind (v i) (fun b => still fun _ => b.int?.bind fun j => lget j l) st else none
 | .meth o x es => M.bind (v o) fun y => M.bind (still fun st => methM G x y st) fun p => callM G (cf q) p.1 p.2 (evList v es)
 | .call f es => M.bind (v f) fun g => callM G (cf q) g [] (evList v es)
 | .dict0 => newO (.sdict [])
 | .dict k ks vs => M.bind (pairsM v (k :: ks) vs) fun l st => if (l.map (·.1)).Nodup then newO (.sdict l) st else none
 | .lam params body lsc => lamM fn.tab CL params body lsc (fn.qual ++ ".<locals>." ++ "<lambda>")
 | .comp elt x iter ifs csc => match clos CL csc.names [] with
  | some CL' => M.bind (v iter) fun y => M.bind (still fun st => itOf y st) fun it => M.bind (compM x (fun ρ' => testsM (r.tst true csc CL' ρ') ifs) (fun ρ' => r.val true csc CL' ρ' elt) it turns 0 []) fun l => newO (.list l)
  | none => stop
 | .dcomp kx vx x1 x2 iter csc => match clos CL csc.names [] with
  | some CL' => M.bind (v iter) fun y => M.bind (still fun st => itOf y st) fun it => M.bind (dcompM x1 x2 (fun ρ' => r.val true csc CL' ρ' kx) (fun ρ' => r.val true csc CL' ρ' vx) it turns 0 []) fun l => newO (.sdict l)
  | none => stop
 | .no => stop
inductive Tmd where
 | not_ (x : Expr)
 | and_ (xs : List Expr)
 | or_ (xs : List Expr)
 | ite (c a b : Expr)
 | cmp (l : Expr) (op : CmpOp) (x : Expr)
 | ne0 (l : Expr)
 | plain (e : Expr)
 | no
inductive TForm : Expr → Tmd → Prop where
 | not_ {x p} : TForm (.UnaryOp .Not x p) (.not_ x)
 | and_ {xs p} : TForm (.BoolOp .And xs p) (.and_ xs)
 | or_ {xs p} : TForm (.BoolOp .Or xs p) (.or_ xs)
 | ite {c a b p} : TForm (.IfExp c a b p) (.ite c a b)
 | cmp {l op x p} (h : behindInMarks op x = false) : TForm (.Compare l [op] [x] p) (.cmp l op x)
 | ne0 {l p p'} (h : behindInMarks .NotEq (.List [] p') = false) : TForm (.Compare l [.NotEq] [.List [] p'] p) (.ne0 l)
 | name {x p} : TForm (.Name x p) (.plain (.Name x p))
 | call {f es k p} : TForm (.Call f es k p) (.plain (.Call f es k p))
 | attr {o x p} : TForm (.Attribute o x p) (.plain (.Attribute o x p))
 | sub {o i p} : TForm (.Subscript o i p) (.plain (.Subscript o i p))
 | const {x n p} : TForm (.Constant x n p) (.plain (.Constant x n p))
 | no {e} : TForm e .no
noncomputable def planTC1 (l : Expr) (op : CmpOp) (x : Expr) : Tmd := match op, x with
 | .NotEq, .List [] _ => .ne0 l
 | op, x => .cmp l op x
def planTCmp (l : Expr) : List CmpOp → List Expr → Tmd
 | [op], [x] => match behindInMarks op x with
  | false => planTC1 l op x
  | true => .no
 | _, _ => .no
def planT : Expr → Tmd
 | .UnaryOp op x _ => match op with
  | .Not => .not_ x
  | _ => .no
 | .BoolOp k xs _ => match k with
  | .And => .and_ xs
  | .Or => .or_ xs
 | .IfExp c a b _ => .ite c a b
 | .Compare l ops xs _ => planTCmp l ops xs
 | .Name x p => .plain (.Name x p)
 | .Call f es k p => .plain (.Call f es k p)
 | .Attribute o x p => .plain (.Attribute o x p)
 | .Subscript o i p => .plain (.Subscript o i p)
 | .Constant x n p => .plain (.Constant x n p)
 | _ => .no
theorem planT_ok (e : Expr) : TForm e (planT e) := by
 cases e with
 | UnaryOp op x p => cases op <;> first | exact .not_ | exact .no
 | BoolOp k xs p => cases k <;> first | exact .and_ | exact .or_
 | Compare l ops xs p =>
  cases ops with
  | nil => exact .no
  | cons op ops => cases ops with
   | cons _ _ => exact .no
   | nil => cases xs with
    | nil => exact .no
    | cons x xs => cases xs with
     | cons _ _ => exact .no
     | nil =>
      show TForm _ (match behindInMarks op x with
       | false => planTC1 l op x
       | true => .no)
      cases hb : behindInMarks op x with
      | true => exact .no
      | false =>
       show TForm _ (planTC1 l op x)
       cases op with
       | NotEq => cases x with
        | List es p' => cases es with
         | nil => exact .ne0 hb
         | cons _ _ => exact .cmp hb
        | _ => exact .cmp hb
       | _ => exact .cmp hb
 | _ => first | exact .name | exact .call | exact .attr | exact .sub | exact .const | exact .ite | exact .no
def tstS (r : Ev) (inC : Bool) (sc : Scope) (CL : List (Str × Nat)) (ρ : Loc) : Tmd → M Bool :=
 let v := r.val inC sc CL ρ
 let t := r.tst inC sc CL ρ
 fun
 | .not_ x => M.bind (t x) fun b => M.pure (!b)
 | .and_ xs => allT t xs
 | .or_ xs => anyT t xs
 | .ite c a b => M.bind (t c) fun x => iteM x (t a) (t b)
 | .cmp l op x => M.bind (v l) fun a => M.bind (v x) fun b => still fun st => cmpX op a b st
 | .ne0 l => M.bind (v l) fun a => still fun st => ne0V a st
 | .plain e => M.bind (v e) fun a => still fun st => truthV a st
 | .no => stop
noncomputable def evS (G : Pg) (cf : Bool → V → List V → M V) (fn : Fn) (q : Bool) : Nat → Ev
 | 0 => ⟨fun _ _ _ _ _ => stop, fun _ _ _ _ _ => stop⟩
 | d + 1 => ⟨fun inC sc CL ρ e => valS G cf fn q (evS G cf fn q d) inC sc CL ρ (planE q inC e), fun inC sc CL ρ e => tstS (evS G cf fn q d) inC sc CL ρ (planT e)⟩
structure CtxOk (G : Pg) (fn : Fn) (c : Act) (inC : Bool) (sc : Scope) : Prop where
 ok : c.Ok G
 tab : ∀ ti, fn.tab = some ti → ∃ cc P, c.ccd = .ref cc ∧ G.tabs[ti]? = some (cc, P)
 cn : c.cn = fn.qual
 names : ∀ CL ρ x, nameM G c.nsc CL ρ x = nameM G sc CL ρ x
 comp : inC = false → c.comp = none
def EvOk (G : Pg) (k : Nat) (fn : Fn) (q : Bool) (r : Ev) : Prop :=
 ∀ (c : Act) (inC : Bool) (sc : Scope) (CL : List (Str × Nat)) (ρ : Loc), CtxOk G fn c inC sc → ∀ e, Sound G c k q CL ρ relV (eval e c.env) (r.val inC sc CL ρ e) ∧ Sound G c k q CL ρ relB (isTrue e c.env (eval e c.env)) (r.tst inC sc CL ρ e)
noncomputable def relF (env : Env) (p : Str × NameKind) : Str × NameKind := if (p.2 == NameKind.free && env.scope.kind == .function && env.kindOf p.1 == some .cell) then (p.1, .cell) else (p.1, p.2)
theorem relF_fst (env : Env) (p : Str × NameKind) : (relF env p).1 = p.1 := by unfold relF; split <;> rfl
theorem relF_snd (env : Env) (p : Str × NameKind) : (relF env p).2 = p.2 ∨ (p.2 = .free ∧ (relF env p).2 = .cell) := by
 unfold relF
 split
 ·rename_i hb
  rw [Bool.and_eq_true, Bool.and_eq_true] at hb
  exact .inr ⟨beq_iff_eq.mp hb.1.1, rfl⟩
 ·exact .inl rfl
theorem relabel_name {G : Pg} {sc : Scope} {env : Env} {CL : List (Str × Nat)} {ρ : Loc} {x : Str} : nameM G (relabel sc env) CL ρ x = nameM G sc CL ρ x := by
 have key : ∀ (l : List (Str × NameKind)), ((l.map (relF env)).lookup x = l.lookup x) ∨ (l.lookup x = some .free ∧ (l.map (relF env)).lookup x = some .cell) := by
  intro l
  induction l with
  | nil => exact .inl rfl
  | cons p r ih =>
   rw [List.map_cons]
   obtain ⟨n, kd⟩ := p
   have h1 := relF_fst env (n, kd)
   have h2 := relF_snd env (n, kd)
   generalize relF env (n, kd) = p at h1 h2 ⊢
   obtain ⟨n', kd'⟩ := p
   simp only at h1 h2
   subst h1
   simp only [List.lookup_cons]
   cases hx : x == n' with
   | true =>
    rcases h2 with rfl | ⟨rfl, rfl⟩
    ·exact .inl rfl
    ·exact .inr ⟨rfl, rfl⟩
   | false => exact ih
 funext st
 unfold nameM
 have h : (relabel sc env).names = sc.names.map (relF env) := rfl
 rw [h]
 rcases key sc.names with e | ⟨e1, e2⟩
 ·rw [e]
 ·rw [e1, e2]; rfl
section
variable {G : Pg} {k : Nat} {fn : Fn} {q : Bool} {cf : Bool → V → List V → M V} {r : Ev}
theorem CtxOk.inComp {c : Act} {sc csc : Scope} {C : Addr} {cl : List (Str × Addr)} (X : CtxOk G fn c false sc) (hk : csc.kind = .function) : CtxOk G fn (c.inComp C csc cl) true csc :=
 ⟨inComp_ok X.ok hk, X.tab, X.cn, fun _ _ _ => relabel_name, fun e => by cases e⟩
theorem evS_ok (hG : G.Ok) (hcf : CallOk G k cf) : ∀ d, EvOk G k fn q (evS G cf fn q d) := by
 intro d
 induction d with
 | zero => exact fun c inC sc CL ρ X e => ⟨.stop_, .stop_⟩
 | succ d ih =>
  intro c inC sc CL ρ X e
  have hv := fun e => (ih c inC sc CL ρ X e).1
  have ht := fun e => (ih c inC sc CL ρ X e).2
  have hc := X.ok
  refine ⟨?_, ?_⟩
  ·show Sound G c k q CL ρ relV _ (valS G cf fn q (evS G cf fn q d) inC sc CL ρ (planE q inC e))
   have hF := planE_ok q inC e
   generalize planE q inC e = p at hF ⊢
   cases hF with
   | const => exact .const
   | name => show Sound G c k q CL ρ relV _ (nameM G sc CL ρ _); rw [← X.names]; exact .name hG hc
   | bin => exact .binop2 hc (hv _) (hv _)
   | un => exact .unop hc (hv _)
   | cmp h => exact .cmp hc h (hv _) (hv _)
   | and_ => exact .andE hc fun y _ => hv y
   | ite => exact .ifE (ht _) (hv _) (hv _)
   | tup h => exact .tup h fun e _ => hv e
   | list h => exact .lst h fun e _ => hv e
   | attr h => exact .attr hG hc h (hv _)
   | slice => exact .slice hc (hv _) (fun e _ => hv e) (fun e _ => hv e) fun e _ => hv e
   | sub h => exact .sub hc h (hv _) (hv _)
   | subL h1 h => exact .subL h1 h (fun e _ => hv e) (hv _)
   | meth h h1 h2 h3 => exact .meth hG hc hcf h h1 h2 h3 (hv _) fun e _ => hv e
   | call h h3 => exact .call hG hc hcf h h3 (hv _) fun e _ => hv e
   | dict0 => exact .dict0 hc
   | dict h h1 h2 => exact .dict hc h h1 (by simp) h2 (fun e _ => hv e) fun e _ => hv e
   | lam => exact .lambda hc X.tab X.cn
   | comp h h1 h2 h3 =>
    subst h
    unfold valS
    dsimp only
    split
    ·rename_i hCL
     have hkind := (compOk_of h2).1
     exact .listComp hc (X.comp rfl) h1 h2 h3 hCL (hv _) (fun C cl ρ' => tests_sound fun x _ => (ih _ true _ _ ρ' (X.inComp hkind) x).2) fun C cl ρ' => (ih _ true _ _ ρ' (X.inComp hkind) _).1
    ·exact .stop_
   | @dcomp kx vx x1 x2 px1 px2 tn tp iter csc p h h1 h2 h3 h4 h5 =>
    subst h
    have hkind := (compOk_of h2).1
    show Sound G c k q CL ρ relV _ (match clos CL csc.names [] with
     | some CL' => M.bind ((evS G cf fn q d).val false sc CL ρ iter) fun y => M.bind (still fun st => itOf y st) fun it => M.bind (dcompM x1 x2 (fun ρ' => (evS G cf fn q d).val true csc CL' ρ' kx) (fun ρ' => (evS G cf fn q d).val true csc CL' ρ' vx) it turns 0 []) fun l => newO (.sdict l)
     | none => stop)
    cases hCL : clos CL csc.names [] with
    | some CL' => exact .dictComp hc (X.comp rfl) h1 h2 h3 h4 h5 hCL (hv _) (fun C cl ρ' => (ih _ true _ _ ρ' (X.inComp hkind) _).1) fun C cl ρ' => (ih _ true _ _ ρ' (X.inComp hkind) _).1
    | none => exact .stop_
   | no => exact .stop_
  ·show Sound G c k q CL ρ relB _ (tstS (evS G cf fn q d) inC sc CL ρ (planT e))
   have hF := planT_ok e
   generalize planT e = p at hF ⊢
   cases hF with
   | not_ => exact .notT (ht _)
   | and_ => exact .andT fun x _ => ht x
   | or_ => exact .orT fun x _ => ht x
   | ite => exact .ifT (ht _) (ht _) (ht _)
   | cmp h => exact .cmpT hc h (hv _) (hv _)
   | ne0 h => exact .ne0T hc h (hv _)
   | name => exact .plainT hc rfl (hv _)
   | call => exact .plainT hc rfl (hv _)
   | attr => exact .plainT hc rfl (hv _)
   | sub => exact .plainT hc rfl (hv _)
   | const => exact .plainT hc rfl (hv _)
   | no => exact .stop_
end
inductive Smd where
 | expr (e : Expr)
 | ret (e : Expr)
 | ret0
 | pass
 | ite (c : Expr) (b o : List Stmt)
 | asC (x : Str) (elt : Expr) (z : Str) (iter : Expr) (ifs : List Expr) (csc : Scope)
 | asN (x : Str) (e : Expr)
 | asA (o : Expr) (x : Str) (e : Expr)
 | asS (o i e : Expr)
 | asT (xs : List Str) (e : Expr)
 | raise_ (f e : Expr)
 | tryE (e : Expr) (x : Str) (su : List Stmt)
 | tryN (z : Str) (e : Expr) (x : Str) (su : List Stmt)
 | while_ (c : Expr) (b : List Stmt)
 | forN (x : Str) (it : Expr) (b : List Stmt)
 | forT (xs : List Str) (it : Expr) (b : List Stmt)
 | no
def hdlOf : ExceptHandler → Option (Str × List Stmt)
 | .ExceptHandler (some t) none (b0 :: su) _ => (nameOf t).map fun x => (x, b0 :: su)
 | _ => none
theorem hdlOf_of {h : ExceptHandler} {x : Str} {su : List Stmt} {P : Prop} (e : hdlOf h = some (x, su)) (k : ∀ np hpos b0 su', su = b0 :: su' → h = .ExceptHandler (some (.Name x np)) none (b0 :: su') hpos → P) : P := by
 cases h with
 | ExceptHandler t n b p =>
  cases t with
  | none => exact noS e
  | some t => cases n with
   | some _ => exact noS e
   | none => cases b with
    | nil => exact noS e
    | cons b0 su' =>
     refine mapE e fun y h1 h2 => ?_
     obtain ⟨np, h3⟩ := nameOf_of h1
     obtain ⟨z1, z2⟩ := Prod.mk.inj h2
     exact k np p b0 su' z2.symm (by rw [h3, z1])
inductive SForm (fn : Fn) (q : Bool) : Stmt → Smd → Prop where
 | expr {e p} (h : noComp e = true) : SForm fn q (.Expr e p) (.expr e)
 | ret {e p} : SForm fn q (.Return (some e) p) (.ret e)
 | ret0 {p} : SForm fn q (.Return none p) .ret0
 | pass {p} : SForm fn q (.Pass p) .pass
 | ite {c b o p} : SForm fn q (.If c b o p) (.ite c b o)
 | asC {x px elt z pz iter ifs csc cpos p} (h : q = true) (h1 : compOk csc z = true) (h2 : noSet iter = true) (h3 : swapC csc fn.sc x px cpos = true) : SForm fn q (.Assign [.Name x px] (.ListComp elt [⟨.Name z pz, iter, ifs, 0⟩] csc cpos) p) (.asC x elt z iter ifs csc)
 | asN {x px e p} (h : noComp e = true) : SForm fn q (.Assign [.Name x px] e p) (.asN x e)
 | asA {o x px e p} : SForm fn q (.Assign [.Attribute o x px] e p) (.asA o x e)
 | asS {o i px e p} : SForm fn q (.Assign [.Subscript o i px] e p) (.asS o i e)
 | asT {ts n px e p xs} (h : q = true) (h1 : noComp e = true) (h2 : notTup e = true) (h3 : namesOf ts = some xs) : SForm fn q (.Assign [.Tuple ts n px] e p) (.asT xs e)
 | raise_ {x np e cpos p} (h : q = true) (h1 : noStar e = true) : SForm fn q (.Raise (some (.Call (.Name x np) [e] [] cpos)) none p) (.raise_ (.Name x np) e)
 | tryE {e ep h x su p} (h1 : noComp e = true) (h0 : hdlOf h = some (x, su)) : SForm fn q (.Try [.Expr e ep] [h] [] [] p) (.tryE e x su)
 | tryN {z zp e ep h x su p} (h1 : noComp e = true) (h0 : hdlOf h = some (x, su)) : SForm fn q (.Try [.Assign [.Name z zp] e ep] [h] [] [] p) (.tryN z e x su)
 | while_ {c b p} : SForm fn q (.While c b [] p) (.while_ c b)
 | forN {x px it b p} (h : q = true) (h1 : noSet it = true) : SForm fn q (.For (.Name x px) it b [] p) (.forN x it b)
 | forT {ts n px it b p xs} (h : q = true) (h1 : noSet it = true) (h3 : namesOf ts = some xs) : SForm fn q (.For (.Tuple ts n px) it b [] p) (.forT xs it b)
 | no {s} : SForm fn q s .no
noncomputable def orNoS (b : Bool) (c : Smd) : Smd := match b with
 | true => c
 | false => .no
theorem SForm.orNo {fn : Fn} {q b : Bool} {e : Stmt} {c : Smd} (h : b = true → SForm fn q e c) : SForm fn q e (orNoS b c) := by
 cases b
 ·exact .no
 ·exact h rfl
def planAG (fn : Fn) (q : Bool) (x : Str) (px : Pos) (elt : Expr) (csc : Scope) (cpos : Pos) (g : Comprehension) : Smd := match nameOf g.target with
 | some z => orNoS (q && compOk csc z && noSet g.iter && swapC csc fn.sc x px cpos && (g.is_async == 0)) (.asC x elt z g.iter g.ifs csc)
 | none => .no
def planAC (fn : Fn) (q : Bool) (x : Str) (px : Pos) (elt : Expr) (csc : Scope) (cpos : Pos) : List Comprehension → Smd
 | [] => .no
 | g :: r => match r with
  | [] => planAG fn q x px elt csc cpos g
  | _ :: _ => .no
def planAN (fn : Fn) (q : Bool) (x : Str) (px : Pos) (e : Expr) : Smd := match e with
 | .ListComp elt cs csc cpos => planAC fn q x px elt csc cpos cs
 | e => orNoS (noComp e) (.asN x e)
def planAT (q : Bool) (ts : List Expr) (e : Expr) : Smd := match namesOf ts with
 | some xs => orNoS (q && noComp e && notTup e) (.asT xs e)
 | none => .no
def planA (fn : Fn) (q : Bool) (e : Expr) : Expr → Smd
 | .Name x px => planAN fn q x px e
 | .Attribute o x _ => .asA o x e
 | .Subscript o i _ => .asS o i e
 | .Tuple ts _ _ => planAT q ts e
 | _ => .no
def planF (q : Bool) (it : Expr) (b : List Stmt) : Expr → Smd
 | .Name x _ => orNoS (q && noSet it) (.forN x it b)
 | .Tuple ts _ _ => match namesOf ts with
  | some xs => orNoS (q && noSet it) (.forT xs it b)
  | none => .no
 | _ => .no
def planR (q : Bool) (c : Option Expr) : Option Expr → Smd
 | some (.Call (.Name x np) [e] [] _) => orNoS (q && noStar e && c.isNone) (.raise_ (.Name x np) e)
 | _ => .no
def planTA (x : Str) (su : List Stmt) (e : Expr) : List Expr → Smd
 | [t] => match nameOf t with
  | some z => orNoS (noComp e) (.tryN z e x su)
  | none => .no
 | _ => .no
def planTB (x : Str) (su : List Stmt) : List Stmt → Smd
 | [.Expr e _] => orNoS (noComp e) (.tryE e x su)
 | [.Assign ts e _] => planTA x su e ts
 | _ => .no
def planTry (f o : List Stmt) (hs : List ExceptHandler) (b : List Stmt) : Smd := match f, o, hs with
 | [], [], [h] => match hdlOf h with
  | some (x, su) => planTB x su b
  | none => .no
 | _, _, _ => .no
def planS (fn : Fn) (q : Bool) : Stmt → Smd
 | .Expr e _ => orNoS (noComp e) (.expr e)
 | .Return o _ => match o with
  | some e => .ret e
  | none => .ret0
 | .Pass _ => .pass
 | .If c b o _ => .ite c b o
 | .Assign [t] e _ => planA fn q e t
 | .Raise o c _ => planR q c o
 | .Try b hs o f _ => planTry f o hs b
 | .While c b [] _ => .while_ c b
 | .For t it b [] _ => planF q it b t
 | _ => .no
theorem planAN_ok (fn : Fn) (q : Bool) (x : Str) (px : Pos) (e : Expr) (p : Pos) : SForm fn q (.Assign [.Name x px] e p) (planAN fn q x px e) := by
 cases e with
 | ListComp elt cs csc cpos =>
  cases cs with
  | nil => exact .no
  | cons g cs => cases cs with
   | cons _ _ => exact .no
   | nil =>
    obtain ⟨t, iter, ifs, as⟩ := g
    show SForm fn q _ (planAG fn q x px elt csc cpos ⟨t, iter, ifs, as⟩)
    unfold planAG
    dsimp only
    cases ht : nameOf t with
    | none => exact .no
    | some z =>
     obtain ⟨pz, h3⟩ := nameOf_of ht
     refine .orNo fun h => ?_
     rw [Bool.and_eq_true, Bool.and_eq_true, Bool.and_eq_true, Bool.and_eq_true] at h
     rw [h3, eq_of_beq h.2]
     exact .asC h.1.1.1.1 h.1.1.1.2 h.1.1.2 h.1.2
 | _ => exact .orNo fun h => .asN h
theorem planAT_ok (fn : Fn) (q : Bool) (ts : List Expr) (n : Nat) (px : Pos) (e : Expr) (p : Pos) : SForm fn q (.Assign [.Tuple ts n px] e p) (planAT q ts e) := by
 unfold planAT
 cases hx : namesOf ts with
 | none => exact .no
 | some xs =>
  exact .orNo fun h => by
   rw [Bool.and_eq_true, Bool.and_eq_true] at h
   exact .asT h.1.1 h.1.2 h.2 hx
theorem planTry_ok (fn : Fn) (q : Bool) (b : List Stmt) (hs : List ExceptHandler) (o f : List Stmt) (p : Pos) : SForm fn q (.Try b hs o f p) (planTry f o hs b) := by
 cases f with
 | cons _ _ => exact .no
 | nil => cases o with
  | cons _ _ => exact .no
  | nil => cases hs with
   | nil => exact .no
   | cons h hs => cases hs with
    | cons _ _ => exact .no
    | nil =>
     show SForm fn q _ (match hdlOf h with | some (x, su) => planTB x su b | none => .no)
     cases h0 : hdlOf h with
     | none => exact .no
     | some y =>
      obtain ⟨x, su⟩ := y
      cases b with
      | nil => exact .no
      | cons s b => cases b with
       | cons _ _ => cases s <;> exact .no
       | nil => cases s with
        | Expr e ep => exact .orNo fun h1 => .tryE h1 h0
        | Assign ts e ep =>
         cases ts with
         | nil => exact .no
         | cons t ts => cases ts with
          | cons _ _ => exact .no
          | nil =>
           show SForm fn q _ (match nameOf t with | some z => orNoS (noComp e) (.tryN z e x su) | none => .no)
           cases ht : nameOf t with
           | none => exact .no
           | some z =>
            obtain ⟨zp, h3⟩ := nameOf_of ht
            exact h3 ▸ .orNo fun h1 => .tryN h1 h0
        | _ => exact .no
theorem planS_ok (fn : Fn) (q : Bool) (s : Stmt) : SForm fn q s (planS fn q s) := by
 cases s with
 | Expr e p => exact .orNo fun h => .expr h
 | Return o p => cases o <;> first | exact .ret | exact .ret0
 | Assign ts e p =>
  cases ts with
  | nil => exact .no
  | cons t ts => cases ts with
   | cons _ _ => exact .no
   | nil => cases t with
    | Name x px => exact planAN_ok fn q x px e p
    | Tuple ts n px => exact planAT_ok fn q ts n px e p
    | _ => first | exact .asA | exact .asS | exact .no
 | Raise o cz p =>
  cases o with
  | none => exact .no
  | some e => cases e with
   | Call f es ks cp => cases f with
    | Name x np => cases es with
     | nil => exact .no
     | cons e es => cases es with
      | cons _ _ => exact .no
      | nil => cases ks with
       | cons _ _ => exact .no
       | nil =>
        refine .orNo fun h => ?_
        rw [Bool.and_eq_true, Bool.and_eq_true] at h
        cases cz with
        | none => exact .raise_ h.1.1 h.1.2
        | some _ => exact noB h.2
    | _ => exact .no
   | _ => exact .no
 | Try b hs o f p => exact planTry_ok fn q b hs o f p
 | While c b o p => cases o <;> first | exact .while_ | exact .no
 | For t it b o p =>
  cases o with
  | cons _ _ => exact .no
  | nil => cases t with
   | Name x px =>
    exact .orNo fun h => by
     rw [Bool.and_eq_true] at h
     exact .forN h.1 h.2
   | Tuple ts n px =>
    show SForm fn q _ (match namesOf ts with | some xs => orNoS (q && noSet it) (.forT xs it b) | none => .no)
    cases hx : namesOf ts with
    | none => exact .no
    | some xs =>
     exact .orNo fun h => by
      rw [Bool.and_eq_true] at h
      exact .forT h.1 h.2 hx
   | _ => exact .no
 | _ => first | exact .pass | exact .ite | exact .no
def smdS (G : Pg) (sc : Scope) (q : Bool) (E : Ev) (CL : List (Str × Nat)) (bd bf : List Stmt → Loc → M (Fl × Loc)) : Smd → Loc → M (Fl × Loc) :=
 let v := fun ρ e => E.val false sc CL ρ e
 let t := fun ρ e => E.tst false sc CL ρ e
 fun
 | .expr e => fun ρ => M.bind (v ρ e) fun _ => M.pure (.next, ρ)
 | .ret e => fun ρ => M.bind (v ρ e) fun y => M.pure (.ret y, ρ)
 | .ret0 => fun ρ => M.pure (.ret .none, ρ)
 | .pass => fun ρ => M.pure (.next, ρ)
 | .ite c b o => fun ρ => M.bind (t ρ c) fun x => iteM x (bd b ρ) (bd o ρ)
 | .asC x elt z iter ifs csc => match clos CL csc.names [] with
  | some CL' => fun ρ => M.bind (v ρ iter) fun y => M.bind (still fun st => itOf y st) fun it => M.bind (compM z (fun ρ' => testsM (E.tst true csc CL' ρ') ifs) (fun ρ' => E.val true csc CL' ρ' elt) it turns 0 []) fun l => M.bind (newO (.list l)) fun u => M.bind (storeM sc CL x u ρ) fun ρ' => M.pure (.next, ρ')
  | none => fun _ => stop
 | .asN x e => fun ρ => M.bind (v ρ e) fun y => M.bind (storeM sc CL x y ρ) fun ρ' => M.pure (.next, ρ')
 | .asA o x e => fun ρ => M.bind (v ρ e) fun u => M.bind (v ρ o) fun y => M.bind (setAttrM G x y u) fun _ => M.pure (.next, ρ)
 | .asS o i e => fun ρ => M.bind (v ρ e) fun u => M.bind (v ρ o) fun y => M.bind (v ρ i) fun j => fun st => (setItV y j u st).map fun st' => (.ok (.next, ρ), st')
 | .asT xs e => fun ρ => M.bind (v ρ e) fun y => M.bind (noErr (unpackM sc CL xs y ρ)) fun ρ' => M.pure (.next, ρ')
 | .raise_ f e => raiseM G (fun ρ => v ρ f) (fun ρ => v ρ e)
 | .tryE e x su => tryVM (fun ρ => v ρ e) (fun _ ρ => M.pure ρ) (hdlC G sc x) (bf su)
 | .tryN z e x su => tryVM (fun ρ => v ρ e) (fun y ρ => storeM sc CL z y ρ) (hdlC G sc x) (bf su)
 | .while_ c b => whileM (fun ρ => t ρ c) (bd b) turns
 | .forN x it b => fun ρ => M.bind (v ρ it) fun y => M.bind (still fun st => itOf y st) fun it => forM (fun y ρ => storeM sc CL x y ρ) (bd b) it turns 0 ρ
 | .forT xs it b => fun ρ => M.bind (v ρ it) fun y => M.bind (still fun st => itOf y st) fun it => forM (fun y ρ => unpackM sc CL xs y ρ) (bd b) it turns 0 ρ
 | .no => fun _ => stop
noncomputable def stS (G : Pg) (fn : Fn) (E : Bool → Ev) (CL : List (Str × Nat)) : Nat → Bool → Stmt → Loc → M (Fl × Loc)
 | 0 => fun _ _ _ => stop
 | d + 1 => fun q s => smdS G fn.sc q (E q) CL (seqM (stS G fn E CL d q)) (seqM (stS G fn E CL d false)) (planS fn q s)
section
variable {G : Pg} {k : Nat} {fn : Fn} {q : Bool} {E : Ev}
theorem SoundS.stop {c : Act} {CL : List (Str × Nat)} {t : Sem Flow} : SoundS G c k q CL t (fun _ => Mine.stop) := fun ρ st r e => by exact noS e
theorem stS_ok (hG : G.Ok) (hX : ExcsOk G) {E : Bool → Ev} (hE : ∀ q, EvOk G k fn q (E q)) {c : Act} {CL : List (Str × Nat)} (hc : c.Ok G) (hf : InFn G c fn) : ∀ d q s, SoundS G c k q CL (exec s c.env) (stS G fn E CL d q s) := by
 have hsc := hf.cs
 have X : CtxOk G fn c false c.cs := ⟨hc, hf.tab, hf.cn, fun CL ρ x => by
  unfold Act.nsc
  rw [hf.comp], fun _ => hf.comp⟩
 have hv : ∀ {q} e ρ, Sound G c k q CL ρ relV (eval e c.env) ((E q).val false c.cs CL ρ e) := fun e ρ => (hE _ c false c.cs CL ρ X e).1
 have ht : ∀ {q} e ρ, Sound G c k q CL ρ relB (isTrue e c.env (eval e c.env)) ((E q).tst false c.cs CL ρ e) := fun e ρ => (hE _ c false c.cs CL ρ X e).2
 intro d
 induction d with
 | zero => exact fun q s => .stop
 | succ d ih =>
  intro q s
  have hb : ∀ {q} b, SoundS G c k q CL (execs b c.env) (seqM (stS G fn E CL d q) b) := fun b => .seq fun x _ => ih _ x
  show SoundS G c k q CL (exec s c.env) (smdS G fn.sc q (E q) CL (seqM (stS G fn E CL d q)) (seqM (stS G fn E CL d false)) (planS fn q s))
  have hF := planS_ok fn q s
  rw [← hsc]
  generalize planS fn q s = p at hF ⊢
  cases hF with
  | expr h => exact .expr hc h fun ρ => hv _ ρ
  | ret => exact .ret fun ρ => hv _ ρ
  | ret0 => exact .ret0
  | pass => exact .pass
  | ite => exact .iff (fun ρ => ht _ ρ) (hb _) (hb _)
  | @asC x px elt z pz iter ifs csc cpos p h h1 h2 h3 =>
   have hkind := (compOk_of h1).1
   unfold smdS
   dsimp only
   cases hCL : clos CL csc.names [] with
   | some CL' => exact .assignC hc hf.comp h h1 h2 hCL (hsc ▸ h3) (fun ρ => hv _ ρ) (fun C cl ρ' => tests_sound fun x _ => (hE _ _ true _ _ ρ' (X.inComp hkind) x).2) fun C cl ρ' => (hE _ _ true _ _ ρ' (X.inComp hkind) _).1
   | none => exact .stop
  | asN h => exact .assignN hc hf.comp h fun ρ => hv _ ρ
  | asA => exact .assignA hG hc (fun ρ => hv _ ρ) fun ρ => hv _ ρ
  | asS => exact .assignS (fun ρ => hv _ ρ) (fun ρ => hv _ ρ) fun ρ => hv _ ρ
  | asT h h1 h2 h3 => exact .assignT hc hf.comp h h3 h1 h2 fun ρ => hv _ ρ
  | raise_ h h1 => exact .raise hX hc h h1 (fun ρ => hv _ ρ) fun ρ => hv _ ρ
  | tryE h1 h0 => exact hdlOf_of h0 fun np hpos b0 su' e1 e2 => e1 ▸ e2 ▸ .tryE hG hX hc hf.comp h1 (fun ρ => hv _ ρ) (hb _)
  | tryN h1 h0 => exact hdlOf_of h0 fun np hpos b0 su' e1 e2 => e1 ▸ e2 ▸ .tryN hG hX hc hf.comp h1 (fun ρ => hv _ ρ) (hb _)
  | while_ => exact .while (fun ρ => ht _ ρ) (hb _)
  | forN h h1 => exact .for hf.comp hc h (noSet_of h1) (fun ρ => hv _ ρ) (.name hc hf.comp) (hb _)
  | forT h h1 h3 => exact .for hf.comp hc h (noSet_of h1) (fun ρ => hv _ ρ) (.tup hc hf.comp h h3) (hb _)
  | no => exact .stop
end
structure Fs where
 fns : Addr → Option Fn
 inits : Addr → Option Addr
structure FsOk (G : Pg) (F : Fs) : Prop where
 fn : ∀ P a f, F.fns a = some f → FnOk G.tabs (G.K P) a f
 cls : ∀ P C f, F.inits C = some f → ClsFn (G.K P) C f
noncomputable def lamFn (qual : Str) (sc : Scope) : Fn := ⟨qual, none, [], [], [], sc⟩
noncomputable def deep : Nat := 20
def bodyM (G : Pg) (cf : Bool → V → List V → M V) (fn : Fn) (q : Bool) (CL : List (Str × Nat)) (ρ : Loc) : M (Fl × Loc) := seqM (stS G fn (fun q => evS G cf fn q deep) CL deep q) fn.body ρ
def lamBody (G : Pg) (cf : Bool → V → List V → M V) (qual : Str) (sc : Scope) (q : Bool) (body : Expr) (CL : List (Str × Nat)) (ρ : Loc) : M V := (evS G cf (lamFn qual sc) q deep).val false sc CL ρ body
noncomputable def callF (G : Pg) (F : Fs) : Nat → Bool → V → List V → M V
 | 0, _, _, _ => stop
 | n + 1, q, f, args => match f with
  | .glob a => match F.fns a with
   | some fn => fnM fn (bodyM G (callF G F n) fn q) args
   | none => match F.inits a with
    | some i => match F.fns i with
     | some fn => clsM a (fnM fn (bodyM G (callF G F n) fn q)) args
     | none => stop
    | none => stop
  | .hnd k => fun st => match st[k]? with
   | some (.lam params body sc qual cl) => match lamOk params sc with
    | true => lamCallM (lamBody G (callF G F n) qual sc q body) params cl args st
    | false => none
   | _ => none
  | f => callC q f args
section
variable {G : Pg} {F : Fs}
theorem body_ok (hG : G.Ok) (hX : ExcsOk G) {k : Nat} {cf : Bool → V → List V → M V} (hcf : CallOk G k cf) {fn : Fn} {q : Bool} {c' : Act} {CL' : List (Str × Nat)} (hc : c'.Ok G) (hf : InFn G c' fn) : SoundS G c' k q CL' (execs fn.body c'.env) (bodyM G cf fn q CL') :=
 .seq fun x _ => stS_ok hG hX (fun q => evS_ok hG hcf deep) hc hf deep q x
theorem clsM_ok {C : Addr} {init : List V → M V} {args : List V} {st : Sto} {r : Except Addr V × Sto} {P : Prop} (e : clsM C init args st = some r) (k : ∀ y st', r = (.ok y, st') → clsM C init args st = some (.ok y, st') → P) : P := by
 have e0 := e
 unfold clsM at e
 cases h : init (.hnd st.length :: args) (st ++ [.inst C []]) with
 | none => rw [h] at e; exact noS e
 | some p =>
  obtain ⟨r1, s1⟩ := p
  rw [h] at e
  cases r1 with
  | error D => exact noS e
  | ok y => cases y with
   | none => exact k _ _ (sInj e).symm (sInj e ▸ e0)
   | _ => exact noS e
theorem call_glob (hG : G.Ok) (hX : ExcsOk G) (hF : FsOk G F) {n : Nat} (ih : CallOk G n (callF G F n)) {c : Act} {q : Bool} {CL : List (Str × Nat)} {ρ : Loc} {a : Addr} {args : List V} {vs : List Value} {st : Sto} {r : Except Addr V × Sto} {A : Around} {s : Shared} {m : Str → Option Value} {news : Led} {al : Al} {Q : Value → Shared → Prop} {E : Value → Shared → Prop} (hc : c.Ok G)
  (hA : Ar c (n + 1) q A) (S : St G c CL ρ m s news al st) (hs : VRs (G.K c.w.params) news al vs args) (e : callF G F (n + 1) q (.glob a) args st = some r) (hE : ErrK c m E s news al r) (hQ : ∀ y st', r = (.ok y, st') → Cont G c CL ρ m s news al relV y st' Q) : wpAny (model G.prog c.w) A (call (.ref a) vs) Q E s := by
 have hd := hA.dep
 have hu := hA.un
 have e : (match F.fns a with
   | some fn => fnM fn (bodyM G (callF G F n) fn q) args
   | none => match F.inits a with
    | some i => match F.fns i with
     | some fn => clsM a (fnM fn (bodyM G (callF G F n) fn q)) args
     | none => stop
    | none => stop) st = some r := e
 cases hfn : F.fns a with
 | some fn =>
  rw [hfn] at e
  exact wpAny_call (fnCall (k := n) (q := q) hc (hF.fn _ _ _ hfn) (fun c' CL' hc' hf' => body_ok hG hX ih hc' hf') hA.fr (by lia) (by lia) hA.hd S hs e (fun C st' z v s' n2 a2 hf X Gs => hE C st' z v s' n2 a2 hf X Gs) fun y st' z v s' n' a' S' X' R' G' => hQ y st' z v s' n' a' S' X' R' G')
 | none =>
  rw [hfn] at e
  cases hi : F.inits a with
  | none => rw [hi] at e; exact noS e
  | some i =>
   rw [hi] at e
   dsimp only at e
   cases hfi : F.fns i with
   | none => rw [hfi] at e; exact noS e
   | some fn =>
    rw [hfi] at e
    exact clsM_ok e fun y st' z e => wpAny_call (clsCall (k := n) (q := q) hc (hF.cls _ _ _ hi) (hF.fn _ _ _ hfi) (fun c' CL' hc' hf' => body_ok hG hX ih hc' hf') hA.fr (by lia) (by lia) hA.hd S hs e fun v s' n' a' S' X' R' G' => hQ _ _ z v s' n' a' S' X' R' G')
set_option tactic.hygienic true in
theorem callF_ok (hG : G.Ok) (hX : ExcsOk G) (hF : FsOk G F) (n : Nat) : CallOk G n (callF G F n) := by
 induction n with
 | zero => exact fun c hc q CL ρ f args v vs st r A s m news al Q E hA S hv hs e => by exact noS e
 | succ n ih =>
  intro c hc q CL ρ f args v vs st r A s m news al Q E hA S hv hs e hE hQ
  have hd := hA.dep
  have hu := hA.un
  cases f with
  | glob a => exact (show v = _ from hv.inv) ▸ call_glob hG hX hF ih hc hA S hs e hE hQ
  | hnd kk =>
   have e : (match st[kk]? with
    | some (.lam params body sc qual cl) => match lamOk params sc with
     | true => lamCallM (lamBody G (callF G F n) qual sc q body) params cl args st
     | false => none
    | _ => none) = some r := e
   split at e
   ·rename_i params body sc qual cl hst
    cases hok : lamOk params sc with
    | false => rw [hok] at e; exact noS e
    | true =>
     rw [hok] at e
     refine wpAny_call (lamCall (k := n) (q := q) hG hc hok (fun c' CL' ρ' hc' hp' hcs' hcn' => ?_) hA.fr (by lia) (by lia) hA.hd S hv hst hs e (fun C st' z v s' n2 a2 hf X Gs => hE C st' z v s' n2 a2 hf X Gs) fun y st' z v s' n' a' S' X' R' G' => hQ y st' z v s' n' a' S' X' R' G')
     refine (evS_ok hG ih deep c' false sc CL' ρ' ⟨hc', fun ti e => noS e, hcn', fun CL ρ x => ?_, fun _ => hp'⟩ body).1
     unfold Act.nsc
     rw [hp', ← hcs']
   ·exact noS e
  | _ => exact callC_sound hc hA S hv hs e hQ
set_option backward.match.sparseCases true in
theorem topCall {p : Program} {loose : List Str} {w : World} {mean : ExcName → Option Value} {mg mb : Str → Option Value} {s : Shared} {f : Addr} {fn : Fn} {quals : List Str} {k : Nat} {q : Bool} {body : List (Str × Nat) → Loc → M (Fl × Loc)} {vs : List Value} {args : List V} {y : V} {st' : Sto} {R : Result → Shared → Prop}
  (hGp : G.p = topProg) (hGl : G.loose = loose ++ (recsOf p).map (·.name) ++ (litsOf p).map (·.1) ++ (clssOf p loose).map (·.name)) (hK : noTabs (G.K w.params) = true) (hnd : (G.tabs.map (·.2)).Nodup) (hql : quals.length = G.tabs.length)
  (hT : TabsAt G.tabs s.heap) (X : (G.K w.params).In s.heap) (T : Top p loose mean mg mb s.heap) (hG : G.Ok) (hf : FnOk G.tabs (G.K w.params) f fn) (hk : k ≤ 40)
  (hb : ∀ (c' : Act) (CL' : List (Str × Nat)), c'.Ok G → InFn G c' fn → SoundS G c' k q CL' (execs fn.body c'.env) (body CL'))
  (hs : ∀ news al, VRs (G.K w.params) news al vs args) (e : fnM fn body args (quals.map .tab) = some (.ok y, st'))
  (hR : ∀ v s' news' al' L m, Fr (ghostOf s.heap G.tabs) L s'.heap m → News (ghostOf s.heap G.tabs) L s'.heap news' → HR (G.K w.params) G.prog w news' al' st' → Ext (tabNews G.tabs) (G.tabs.map fun q => (q.2, none)) news' al' → VR (G.K w.params) news' al' v y → Same s s' → R (.ok (.ret v)) s') :
  codeAny (model G.prog w) callerA (.call (.ref f) ⟨vs, []⟩) R s := by
 refine iteS e fun hlen e => fnOut_some e (fun pe st2 hbody e => ?_) fun C st2 hbody e => noR e.symm
 obtain ⟨e1, e2⟩ := Prod.mk.inj e
 have hlv := (hs [] []).length
 have Xg := ghost_K hT X hK
 refine enter_fn hf X T.nolimit (by decide) (by lia) (by lia) fun cdv dvs h₁ tk cells htab hdv hns hk₁ NC Y => ?_
 have hbr : ∀ news al, BR (G.K w.params) news al (fn.names.zip (vs ++ dvs.drop (vs.length + fn.dfl.length - fn.names.length))) (fn.names.zip (args ++ fn.dfl.drop (args.length + fn.dfl.length - fn.names.length))) := fun news al => by
  rw [hlv]
  exact VRs.zip ((hs _ _).append ((hdv _ _).drop _)) _
 have F0 : Fr s.heap s.heap.objs.size h₁ (bindL (envOfC fn.qual fn.sc s.heap.objs.size f cdv).kindOf (fn.names.zip (vs ++ dvs.drop (vs.length + fn.dfl.length - fn.names.length))) fun _ => none) := ⟨hns, hk₁, Nat.le_refl _⟩
 have N0 := ghost_news hT F0 NC
 have H0 : HR (G.K w.params) G.prog w (tabNews G.tabs) (G.tabs.map fun q => (q.2, none)) (quals.map .tab) := by
  refine ⟨?_, by simp [hql], ?_, fun j p o hj ho => ?_⟩
  ·show ((G.tabs.map fun q => (q.2, tabObj #[])).map (·.1)).Nodup
   rw [List.map_map]; exact hnd
  ·have : flat (G.tabs.map fun q => (q.2, (none : Option Addr))) = G.tabs.map (·.2) := by
    generalize G.tabs = l
    unfold flat
    induction l with
    | nil => rfl
    | cons a r ih => simp only [List.map_cons, List.flatMap_cons, ih]; rfl
   rw [this]; exact hnd
  ·rw [List.getElem?_map] at hj ho
   obtain ⟨q, hq, rfl⟩ := Option.map_eq_some_iff.mp hj
   obtain ⟨u, hu, rfl⟩ := Option.map_eq_some_iff.mp ho
   exact .tab (ps := #[]) (List.mem_map.mpr ⟨q, List.mem_of_getElem? hq, rfl⟩) trivial fun _ _ h => noS h
 obtain ⟨gc1, gc2⟩ := cellsFrom_snd fn.sc.names (s.heap.objs.size + 1) [] nofun List.nodup_nil
 have hnew : ∀ p ∈ cellsFrom (s.heap.objs.size + 1) fn.sc.names [], p.2 ∉ (tabNews G.tabs).map (·.1) := fun p hp q => by
  obtain ⟨z, hz, e⟩ := List.mem_map.mp q
  have h1 := ghost_lt hT F0 z hz
  exact (gc2 p hp).elim (fun h => nomatch h) fun h => absurd (Nat.lt_of_lt_of_le (e ▸ h1) (Nat.le_of_succ_le h)) (Nat.lt_irrefl _)
 have hnames : (cellsFrom (s.heap.objs.size + 1) fn.sc.names []).map (·.1) = (cellsFrom 0 fn.sc.names []).map (·.1) := cellsFrom_names _ _ _ _ _ rfl
 obtain ⟨H1, X1, L1⟩ := cells_in (cs := cellsFrom (s.heap.objs.size + 1) fn.sc.names []) (cv := bindCV fn.sc (fn.names.zip (args ++ fn.dfl.drop (args.length + fn.dfl.length - fn.names.length))) []) Y H0 gc1 hnew
  (bindC_rel (sc := fn.sc) (fun x => rfl) (hbr _ _) fun x => ⟨fun y e => by simp at e, fun _ => rfl⟩)
 rw [hnames] at H1 L1
 let c' : Act := Act.std G { w := w, mean := mean, mg := mg, mb := mb, A₀ := callerA, base := ghostOf s.heap G.tabs, h₀ := ghostOf s.heap G.tabs, outer := [], cn := fn.qual, cs := fn.sc, L := s.heap.objs.size, a := f, ccd := cdv, cl := cellsFrom (s.heap.objs.size + 1) fn.sc.names [], comp := none, fly := fun _ _ _ _ _ _ _ => False, fnew := fun _ _ _ _ _ _ _ => False, fheld := fun _ _ _ _ _ _ _ => False }
 have hc' : c'.Ok G := ⟨ghost_below hT, hf.kind, fun _ _ _ h => noS h, Xg, by rw [hGp, hGl]; exact ghost_top hT T, fun q hq => hG.tab _ q hq _ Xg, std_fl, std_fn, std_fh⟩
 have hA' : Ar c' k q (callerA.deeper (envOfC fn.qual fn.sc s.heap.objs.size f cdv)) := by
  refine ⟨Around.frames_deeper rfl, ?_, ?_, fun _ => rfl⟩
  ·show 1 + claimMargin + 1 + 8 * k + 16 < recursionLimit
   unfold claimMargin recursionLimit; lia
  ·show 4 + 3 + 64 * k + 128 < cLine
   unfold cLine; lia
 have S1 : St G c' (clV ((cellsFrom 0 fn.sc.names []).map (·.1)) (quals.map O.tab).length) (bindLV fn.sc (fn.names.zip (args ++ fn.dfl.drop (args.length + fn.dfl.length - fn.names.length))) [])
   (bindL (envOfC fn.qual fn.sc s.heap.objs.size f cdv).kindOf (fn.names.zip (vs ++ dvs.drop (vs.length + fn.dfl.length - fn.names.length))) fun _ => none) { s with heap := h₁, toks := tk } (cells.reverse ++ tabNews G.tabs) ((G.tabs.map fun q => (q.2, (none : Option Addr))) ++ cells.map fun p => (p.1, none)) (quals.map O.tab ++ cellsV ((cellsFrom 0 fn.sc.names []).map (·.1)) (bindCV fn.sc (fn.names.zip (args ++ fn.dfl.drop (args.length + fn.dfl.length - fn.names.length))) [])) := by
  refine ⟨⟨_, .refl, ghost_fr hT F0, fun p hp => N0 p ((List.mem_append.mp hp).elim (fun hp => List.mem_append_left _ (List.mem_reverse.mp hp)) fun hp => List.mem_append_right _ hp)⟩, H1, ?_, L1, fun i q e => ?_⟩
  ·exact bindL_rel (sc := fn.sc) (fun x => rfl) (hbr _ _) fun x y e => by simp at e
  ·rw [List.getElem?_append_left (by rw [List.length_map]; exact (List.getElem?_eq_some_iff.mp e).1), List.getElem?_map, e]; rfl
 refine (hb c' _ hc' ⟨rfl, rfl, rfl, htab⟩).ok hbody hA' S1 fun f2 s2 m2 n2 a2 S2 X2 R2 G2 => ?_
 have T2 : KtsTurn [] (ghostOf s.heap G.tabs) S2.gr := S2.T
 refine hR _ _ n2 a2 _ m2 ⟨S2.F.ns, fun b o q => S2.F.keep _ _ (T2.other b o q nofun), T2.size ▸ S2.F.above⟩ (fun p hp => ⟨(S2.N p hp).1, (S2.N p hp).2.1, ?_⟩) (e2 ▸ S2.H) (X1.trans H0 X2) (Except.ok.inj e1 ▸ R2.retV) (Same.trans ⟨rfl, rfl⟩ G2)
 cases q : (ghostOf s.heap G.tabs).get? p.1 with
 | none => rfl
 | some o => exact noS ((S2.N p hp).2.2.symm.trans (T2.other _ _ q nofun))
end
noncomputable def mkFn (o : Obj) (tab : Option Nat) (dfl : List V) : Fn := match o.data with
 | .func fd => ⟨fd.qualname, tab, fd.params.args.map (·.arg), dfl, (match fd.body with | .stmts b => b | _ => []), fd.scope⟩
 | _ => ⟨.ofString "", none, [], [], [], { kind := .function, names := [], isGenerator := false, isCoroutine := false, more := [] }⟩
noncomputable def nmOk (sc : Scope) (x : Str) : Bool := match sc.names.lookup x with
 | some .local => true
 | some .cell => ((cellsFrom 0 sc.names []).map (·.1)).contains x
 | _ => false
noncomputable def refO : Value → Option Addr
 | .ref a => some a
 | _ => none
theorem refO_some {v : Value} {a : Addr} (h : refO v = some a) : v = .ref a := by
 cases v with
 | ref b => exact congrArg Value.ref (sInj h)
 | _ => exact noS h
theorem anyE {α : Type} {o : Option α} {p : α → Bool} {P : Prop} (h : o.any p = true) (k : ∀ a, o = some a → p a = true → P) : P := by
 cases o with
 | none => exact noB h
 | some a => exact k a rfl h
def tabOk (tabs : List (Addr × Addr)) (code : Value) : Option Nat → Bool
 | none => true
 | some ti => (refO code).any fun c => (tabs[ti]?).any fun q => c == q.1
noncomputable def isNone : Value → Bool
 | .none => true
 | _ => false
theorem isNone_eq {v : Value} (h : isNone v = true) : v = .none := by
 cases v with
 | none => rfl
 | _ => exact noB h
noncomputable def bodyB : FuncBody → Bool
 | .stmts _ => true
 | _ => false
def fnB (K : Frag) (tabs : List (Addr × Addr)) (tab : Option Nat) (fd : FuncData) : Bool := bodyB fd.body && (fd.globals == mainGlobals && (fd.closure.isEmpty && (fd.builtins == builtinsNs && (codeIn K fd.code fd.qualname && (tabOk tabs fd.code tab && ((fd.params.args.map (·.arg)).all (nmOk fd.scope) && (decide (((cellsFrom 0 fd.scope.names []).map (·.1)).Nodup) && (!fd.scope.isCoroutine && (!fd.scope.isGenerator && (decide (fd.scope.kind = .function) &&
 (fd.params.posonlyargs.isEmpty && (fd.params.kwonlyargs.isEmpty && (fd.params.vararg.isNone && (fd.params.kwarg.isNone && decide ((fd.params.args.map (·.arg)).Nodup)))))))))))))))
structure FB (K : Frag) (tabs : List (Addr × Addr)) (tab : Option Nat) (fd : FuncData) : Prop where
 body : bodyB fd.body = true
 gl : fd.globals = mainGlobals
 cl : fd.closure = []
 bu : fd.builtins = builtinsNs
 code : codeIn K fd.code fd.qualname = true
 tab : tabOk tabs fd.code tab = true
 kinds : (fd.params.args.map (·.arg)).all (nmOk fd.scope) = true
 nd : ((cellsFrom 0 fd.scope.names []).map (·.1)).Nodup
 co : fd.scope.isCoroutine = false
 gen : fd.scope.isGenerator = false
 kind : fd.scope.kind = .function
 pos : fd.params.posonlyargs.isEmpty = true
 kwo : fd.params.kwonlyargs.isEmpty = true
 va : fd.params.vararg = none
 kw : fd.params.kwarg = none
 na : (fd.params.args.map (·.arg)).Nodup
theorem andB {a b : Bool} {P : Prop} (h : (a && b) = true) (k : a = true → b = true → P) : P := k (Bool.and_eq_true_iff.mp h).1 (Bool.and_eq_true_iff.mp h).2
theorem notB {a : Bool} (h : (!a) = true) : a = false := Bool.not_eq_true' a ▸ h
theorem FB.of {K : Frag} {tabs : List (Addr × Addr)} {tab : Option Nat} {fd : FuncData} (h : fnB K tabs tab fd = true) : FB K tabs tab fd :=
 andB h fun h1 h => andB h fun h2 h => andB h fun h3 h => andB h fun h4 h => andB h fun h5 h => andB h fun h6 h => andB h fun h7 h => andB h fun h8 h => andB h fun h9 h => andB h fun h10 h => andB h fun h11 h => andB h fun h12 h => andB h fun h13 h => andB h fun h14 h => andB h fun h15 h16 =>
  ⟨h1, beq_iff_eq.mp h2, List.isEmpty_iff.mp h3, beq_iff_eq.mp h4, h5, h6, h7, of_decide_eq_true h8, notB h9, notB h10, of_decide_eq_true h11, h12, h13, Option.isNone_iff_eq_none.mp h14, Option.isNone_iff_eq_none.mp h15, of_decide_eq_true h16⟩
noncomputable def fdO (o : Obj) : Option FuncData := match o.data with
 | .func fd => some fd
 | _ => none
theorem fdO_some {o : Obj} {fd : FuncData} (h : fdO o = some fd) : o.data = .func fd := by
 unfold fdO at h
 cases e : o.data with
 | func fd' => rw [e] at h; exact congrArg Data.func (sInj h)
 | _ => rw [e] at h; exact noS h
def fnBase (K : Frag) (tabs : List (Addr × Addr)) (o : Obj) (tab : Option Nat) : Bool := (fdO o).any (fnB K tabs tab)
theorem fnBase_some {K : Frag} {tabs : List (Addr × Addr)} {o : Obj} {tab : Option Nat} {P : Prop} (h : fnBase K tabs o tab = true) (k : ∀ fd, o.data = .func fd → FB K tabs tab fd → P) : P := anyE h fun fd e h => k fd (fdO_some e) (.of h)
def fnPlain (o : Obj) : Bool := (fdO o).any fun fd => isNone fd.defaults
theorem cellsFrom_isSome {l : List (Str × NameKind)} {n : Nat} {x : Str} (h : ((cellsFrom 0 l []).map (·.1)).contains x = true) : ((cellsFrom n l []).lookup x).isSome = true := by
 rw [cellsFrom_names l 0 n [] [] rfl] at h
 generalize cellsFrom n l [] = c at h
 induction c with
 | nil => simp at h
 | cons p r ih =>
  obtain ⟨y, a⟩ := p
  rw [List.lookup_cons]
  simp only [List.map_cons, List.contains_cons, Bool.or_eq_true] at h
  cases hx : x == y with
  | true => rfl
  | false =>
   rcases h with h | h
   ·rw [hx] at h; cases h
   ·exact ih h
theorem kinds_of {sc : Scope} {names : List Str} (h : names.all (nmOk sc) = true) : kindsOk sc names := by
 intro n x hx
 have := List.all_eq_true.mp h x hx
 unfold nmOk at this
 split at this
 ·rename_i e; exact .inl e
 ·rename_i e; exact .inr ⟨e, cellsFrom_isSome this⟩
 ·cases this
theorem fd_eta {fd : FuncData} {b : List Stmt} (h1 : fd.body = .stmts b) (h2 : fd.globals = mainGlobals) (h3 : fd.closure = []) (h4 : fd.builtins = builtinsNs) : fd = fnX fd.name fd.qualname fd.params b fd.scope [] fd.defaults fd.kwdefaults fd.doc fd.pyModule fd.annotations fd.code fd.closureTuple := by
 cases fd
 dsimp only at h1 h2 h3 h4
 rw [h1, h2, h3, h4]
theorem tabOk_some {tabs : List (Addr × Addr)} {code : Value} {ti : Nat} (h : tabOk tabs code (some ti) = true) : ∃ cc P, code = .ref cc ∧ tabs[ti]? = some (cc, P) :=
 anyE h fun c e h => anyE h fun q e2 h => ⟨c, q.2, refO_some e, by rw [e2, beq_iff_eq.mp h]⟩
theorem fnOk_of {K : Frag} {tabs : List (Addr × Addr)} {f : Addr} {o : Obj} {tab : Option Nat} {dfl : List V} (h : K.lookup f = some o) (hb : fnBase K tabs o tab = true)
  (hd : ∀ fd, o.data = .func fd → FB K tabs tab fd → ∃ dvs : List Value, (∀ news al, VRs K news al dvs dfl) ∧ ∀ (s : Shared), K.In s.heap → ∀ vs : List Value, (fd.params.args.map (·.arg)).length ≤ vs.length + dfl.length → vs.length ≤ (fd.params.args.map (·.arg)).length →
   BindsTo s fd ⟨vs, []⟩ ((fd.params.args.map (·.arg)).zip (vs ++ dvs.drop (vs.length + dfl.length - (fd.params.args.map (·.arg)).length)))) : FnOk tabs K f (mkFn o tab dfl) :=
 fnBase_some hb fun fd e B => by
  cases eb : fd.body with
  | stmts b =>
   have he := fd_eta eb B.gl B.cl B.bu
   obtain ⟨dvs, d1, d2⟩ := hd fd e B
   have hm : mkFn o tab dfl = ⟨fd.qualname, tab, fd.params.args.map (·.arg), dfl, b, fd.scope⟩ := by unfold mkFn; rw [e]; dsimp only; rw [eb]
   rw [hm]
   have hK : K.lookup f = some ⟨o.cls, o.dict, .func (fnX fd.name fd.qualname fd.params b fd.scope [] fd.defaults fd.kwdefaults fd.doc fd.pyModule fd.annotations fd.code fd.closureTuple), o.slots⟩ := by rw [h, ← he, ← e]
   exact ⟨⟨o.cls, o.dict, o.slots, fd.name, fd.params, fd.defaults, fd.kwdefaults, fd.doc, fd.pyModule, fd.annotations, fd.code, fd.closureTuple, hK, B.code, fun ti hti => tabOk_some (hti ▸ B.tab), dvs, d1, by rw [← he]; exact d2⟩, kinds_of B.kinds, B.nd, B.co, B.gen, B.kind⟩
  | _ => have := B.body; rw [eb] at this; exact noB this
theorem fnOk_plain {K : Frag} {tabs : List (Addr × Addr)} {f : Addr} {o : Obj} {tab : Option Nat} (h : K.lookup f = some o) (hb : fnBase K tabs o tab = true) (hp : fnPlain o = true) : FnOk tabs K f (mkFn o tab []) :=
 fnOk_of h hb fun fd e B => ⟨[], fun _ _ => .nil, fun s X vs h1 h2 => by
  have hd : fd.defaults = .none := anyE hp fun fd' e' h' => by
   rw [Data.func.inj ((fdO_some e').symm.trans e)] at h'
   exact isNone_eq h'
  refine BindsTo.of_eq ?_
  rw [bind_simple fd (vs := vs) (List.isEmpty_iff.mp B.pos) (List.isEmpty_iff.mp B.kwo) B.va B.kw hd (Nat.le_antisymm h2 h1) B.na, List.drop_nil, List.append_nil]⟩
noncomputable def vI : Value → Option Int
 | .int i _ => some i
 | _ => none
noncomputable def vS : Value → Option Str
 | .str x _ => some x
 | _ => none
noncomputable def seqD : Data → Option (Array Value × Nat)
 | .seq vs n => some (vs, n)
 | _ => none
def seqT (o : Obj) : Option (Array Value × Nat) := if o.cls == .type "tuple" && o.dict.isNone && o.slots.isEmpty then seqD o.data else none
def tupT (K : Frag) (v : Value) : Option (Array Value × Nat) := (refO v).bind fun a => (K.lookup a).bind seqT
mutual
noncomputable def vChk (K : Frag) : V → Value → Bool
 | .none, v => v == .none
 | .bool a, v => v == .bool a
 | .int i, v => vI v == some i
 | .str x, v => vS v == some x
 | .glob a, v => v == .ref a
 | .bi x, v => v == .builtin x
 | .ty x, v => v == .type x
 | .tup l, v => match tupT K v with
  | some p => vsChk K l p.1.toList
  | none => false
 | _, _ => false
noncomputable def vsChk (K : Frag) : List V → List Value → Bool
 | [], vs => vs.isEmpty
 | y :: r, vs => match vs with
  | v :: vs => vChk K y v && vsChk K r vs
  | [] => false
end
theorem seqT_of {o : Obj} {p : Array Value × Nat} (h : seqT o = some p) : o = { cls := .type "tuple", data := .seq p.1.toList.toArray p.2 } := by
 obtain ⟨c, d, dt, sl⟩ := o
 refine iteS h fun hc h => ?_
 rw [Bool.and_eq_true, Bool.and_eq_true] at hc
 have h1 : c = .type "tuple" := eq_of_beq hc.1.1
 have h2 : d = none := Option.isNone_iff_eq_none.mp hc.1.2
 have h3 : sl = #[] := Array.isEmpty_iff.mp hc.2
 have h4 : dt = .seq p.1.toList.toArray p.2 := by cases dt <;> first | exact noS h | (rw [← sInj h, Array.toArray_toList])
 rw [h1, h2, h3, h4]
theorem vChk_ok {K : Frag} (y : V) : ∀ (v : Value), vChk K y v = true → ∀ news al, VR K news al v y :=
 V.rec (motive_1 := fun y => ∀ v, vChk K y v = true → ∀ news al, VR K news al v y) (motive_2 := fun l => ∀ vs, vsChk K l vs = true → ∀ news al, VRs K news al vs l)
  (fun v h _ _ => eq_of_beq h ▸ .none) (fun b v h _ _ => eq_of_beq h ▸ .bool)
  (fun i v h _ _ => by
   have h : vI v = some i := eq_of_beq h
   cases v <;> first | exact noS h | (rw [← sInj h]; exact .int))
  (fun i v h _ _ => by
   have h : vS v = some i := eq_of_beq h
   cases v <;> first | exact noS h | (rw [← sInj h]; exact .str))
  (fun l ih v h news al => by
   unfold vChk at h
   cases hp : tupT K v with
   | none => rw [hp] at h; exact noB h
   | some p =>
    rw [hp] at h
    refine bindE hp fun a h1 h2 => bindE h2 fun o h3 h4 => ?_
    have hv : v = .ref a := by cases v <;> first | exact noS h1 | exact congrArg Value.ref (sInj h1)
    rw [seqT_of h4] at h3
    exact hv ▸ .tupK h3 (ih _ h news al))
  (fun _ _ h => noB h) (fun a v h _ _ => eq_of_beq h ▸ .glob) (fun x v h _ _ => eq_of_beq h ▸ .bi) (fun x v h _ _ => eq_of_beq h ▸ .ty) (fun _ _ _ _ h => noB h) (fun _ _ _ h => noB h)
  (fun vs h _ _ => List.isEmpty_iff.mp h ▸ .nil)
  (fun y l h1 h2 vs h news al => by
   cases vs with
   | nil => exact noB h
   | cons v vs =>
    unfold vsChk at h
    rw [Bool.and_eq_true] at h
    exact .cons (h1 v h.1 news al) (h2 vs h.2 news al)) y
def glChk (K : Frag) (p : Str × V) : Bool := match nsIn K mainGlobals p.1 with
 | some (some v) => vChk K p.2 v
 | some none => (match bootBuiltins p.1 with
  | some v => vChk K p.2 v && p.1 != "__name__"
  | none => false)
 | none => false
theorem lookup_mem {κ α : Type} [BEq κ] [LawfulBEq κ] {l : List (κ × α)} {x : κ} {y : α} (h : l.lookup x = some y) : (x, y) ∈ l := by
 induction l with
 | nil => exact noS h
 | cons p r ih =>
  obtain ⟨k, v⟩ := p
  rw [List.lookup_cons] at h
  split at h
  ·rename_i e; induction h using E1; rw [beq_iff_eq.mp e]; exact List.mem_cons_self
  ·exact List.mem_cons_of_mem _ (ih h)
set_option tactic.hygienic true in
theorem gl_ok {K : Frag} {gl : List (Str × V)} (h : gl.all (glChk K) = true) {x : Str} {y : V} (e : gl.lookup x = some y) :
  (∃ v, nsIn K mainGlobals x = some (some v) ∧ ∀ news al, VR K news al v y) ∨ (∃ v, nsIn K mainGlobals x = some none ∧ bootBuiltins x = some v ∧ x ≠ "__name__" ∧ ∀ news al, VR K news al v y) := by
 have := List.all_eq_true.mp h _ (lookup_mem e)
 unfold glChk at this
 dsimp only at this
 split at this
 ·rename_i v e1; exact .inl ⟨v, e1, vChk_ok _ _ this⟩
 ·rename_i e1
  split at this
  ·rename_i v e2
   rw [Bool.and_eq_true] at this
   exact .inr ⟨v, e1, e2, by simpa using this.2, vChk_ok _ _ this.1⟩
  ·cases this
 ·cases this
noncomputable def methChk (K : Frag) (p : (Addr × Str) × Addr) : Bool := plainGet K p.1.1 p.1.2 && findIn K (.ref p.1.1) p.1.2 == some (some (.ref p.2)) && isFn K (.ref p.2) && keepIn K (.ref p.2)
theorem meth_ok {K : Frag} {ml : List ((Addr × Str) × Addr)} (h : ml.all (methChk K) = true) {C : Addr} {x : Str} {f : Addr} (e : ml.lookup (C, x) = some f) :
  plainGet K C x = true ∧ findIn K (.ref C) x = some (some (.ref f)) ∧ isFn K (.ref f) = true ∧ keepIn K (.ref f) = true := by
 have := List.all_eq_true.mp h _ (lookup_mem e)
 unfold methChk at this
 simp only [Bool.and_eq_true] at this
 exact ⟨this.1.1.1, beq_iff_eq.mp this.1.1.2, this.1.2, this.2⟩
noncomputable def clsFnChk (K : Frag) (p : Addr × Addr) : Bool := makesIn K p.1 && findIn K (.ref p.1) "__init__" == some (some (.ref p.2)) && typeIn K (.ref p.2) == some (.type "function")
theorem clsFn_ok {K : Frag} {p : Addr × Addr} (h : clsFnChk K p = true) : ClsFn K p.1 p.2 := by
 unfold clsFnChk at h
 simp only [Bool.and_eq_true] at h
 exact ⟨h.1.1, beq_iff_eq.mp h.1.2, beq_iff_eq.mp h.2⟩
mutual
noncomputable def V.mp (e : Nat → Nat) : V → V
 | .tup l => .tup (V.mps e l)
 | .hnd k => .hnd (e k)
 | .lstK l => .lstK (V.mps e l)
 | .none => .none
 | .bool b => .bool b
 | .int i => .int i
 | .str x => .str x
 | .glob a => .glob a
 | .bi x => .bi x
 | .ty x => .ty x
 | .rng a b c => .rng a b c
noncomputable def V.mps (e : Nat → Nat) : List V → List V
 | [] => []
 | y :: r => y.mp e :: V.mps e r
end
def mpP {κ : Type} (e : Nat → Nat) (l : List (κ × V)) : List (κ × V) := l.map fun p => (p.1, p.2.mp e)
noncomputable def mpC (e : Nat → Nat) (l : List (Str × Nat)) : List (Str × Nat) := l.map fun p => (p.1, e p.2)
def O.mp (e : Nat → Nat) : O → O
 | .list l => .list (V.mps e l)
 | .sdict l => .sdict (mpP e l)
 | .inst C fs => .inst C (mpP e fs)
 | .cell v => .cell (v.map (V.mp e))
 | .lam p b sc q cl => .lam p b sc q (mpC e cl)
 | .tab q => .tab q
section
variable {N : Nat} {e : Nat → Nat}
theorem mps_map : ∀ l : List V, V.mps e l = l.map (V.mp e)
 | [] => rfl
 | y :: r => by rw [V.mps, mps_map r]; rfl
theorem mps_length (l : List V) : (V.mps e l).length = l.length := by rw [mps_map, List.length_map]
theorem mps_append (l r : List V) : V.mps e (l ++ r) = V.mps e l ++ V.mps e r := by simp [mps_map]
theorem mps_get {l : List V} {i : Nat} {y : V} (h : l[i]? = some y) : (V.mps e l)[i]? = some (y.mp e) := by simp [mps_map, h]
theorem mpP_lookup {κ : Type} [BEq κ] (x : κ) : ∀ l : List (κ × V), (mpP e l).lookup x = (l.lookup x).map (V.mp e)
 | [] => rfl
 | (k, y) :: r => by
  show List.lookup x ((k, y.mp e) :: mpP e r) = _
  rw [List.lookup_cons, List.lookup_cons]
  split
  ·rfl
  ·exact mpP_lookup x r
theorem mpC_lookup (x : Str) : ∀ l : List (Str × Nat), (mpC e l).lookup x = (l.lookup x).map e
 | [] => rfl
 | (k, y) :: r => by
  show List.lookup x ((k, e y) :: mpC e r) = _
  rw [List.lookup_cons, List.lookup_cons]
  split
  ·rfl
  ·exact mpC_lookup x r
noncomputable def far : Nat := 1000000
structure Sim (N : Nat) (e : Nat → Nat) (a b : Sto) : Prop where
 get : ∀ k o, a[k]? = some o → b[e k]? = some (o.mp e)
 nxt : ∀ k, a.length ≤ k → k < N → e k = b.length + (k - a.length)
 inj : ∀ i j, i < N → j < N → e i = e j → i = j
 out : ∀ h, e (far + h) = h
 len : a.length ≤ N
 cap : N ≤ far
 fix : ∀ k q, a[k]? = some (.tab q) → e k = k
def Out (e : Nat → Nat) (a b b' : Sto) : Prop := ∀ j o, b[j]? = some o → (∀ k, k < a.length → e k ≠ j) → b'[j]? = some o
structure Nx (N : Nat) (e : Nat → Nat) (a b a' b' : Sto) : Prop where
 S : Sim N e a' b'
 O : Out e a b b'
 le : a.length ≤ a'.length
 gr : b'.length + a.length = b.length + a'.length
theorem Out.refl {a b : Sto} : Out e a b b := fun _ _ h _ => h
theorem lt_of_get {α : Type} {l : List α} {k : Nat} {o : α} (h : l[k]? = some o) : k < l.length := (List.getElem?_eq_some_iff.mp h).1
theorem Nx.refl {a b : Sto} (S : Sim N e a b) : Nx N e a b a b := ⟨S, .refl, Nat.le_refl _, rfl⟩
theorem Nx.trans {a b a1 b1 a2 b2 : Sto} (S : Sim N e a b) (x : Nx N e a b a1 b1) (y : Nx N e a1 b1 a2 b2) : Nx N e a b a2 b2 := by
 refine ⟨y.S, fun j o h n => y.O j o (x.O j o h n) fun k hk hj => ?_, Nat.le_trans x.le y.le, by have := x.gr; have := y.gr; lia⟩
 by_cases hka : k < a.length
 ·exact n k hka hj
 ·have h1 := S.nxt k (by lia) (Nat.lt_of_lt_of_le hk x.S.len)
  have := lt_of_get h
  lia
theorem Sim.lt {a b : Sto} (S : Sim N e a b) {k : Nat} (hk : k < a.length) : e k < b.length := by
 obtain ⟨o', h'⟩ : ∃ o', a[k]? = some o' := ⟨_, List.getElem?_eq_getElem hk⟩
 exact lt_of_get (S.get k o' h')
theorem Sim.at {a b : Sto} (S : Sim N e a b) (h : a.length < N) : e a.length = b.length := by
 have := S.nxt a.length (Nat.le_refl _) h; lia
theorem Sim.push {a b : Sto} (S : Sim N e a b) (o : O) (hl : (a ++ [o]).length ≤ N) (ho : ∀ q, o ≠ .tab q) : Nx N e a b (a ++ [o]) (b ++ [o.mp e]) := by
 have hl' : a.length < N := by simp at hl; lia
 have h0 := S.at hl'
 refine ⟨⟨fun k o' h => ?_, fun k hk hf => ?_, S.inj, S.out, hl, S.cap, fun k q h => ?_⟩, fun j o' h _ => ?_, by simp, by simp; lia⟩
 ·rcases Nat.lt_trichotomy k a.length with hk | hk | hk
  ·rw [List.getElem?_append_left hk] at h
   have := S.get k o' h
   rw [List.getElem?_append_left (lt_of_get this)]; exact this
  ·subst hk
   rw [h0]
   simp at h ⊢
   rw [h]
  ·rw [List.getElem?_eq_none (by simp; lia)] at h; exact noS h
 ·simp only [List.length_append, List.length_singleton] at hk ⊢
  have := S.nxt k (by lia) hf
  lia
 ·rcases Nat.lt_trichotomy k a.length with hk | hk | hk
  ·rw [List.getElem?_append_left hk] at h
   exact S.fix k q h
  ·subst hk
   simp at h
   exact (ho q h).elim
  ·rw [List.getElem?_eq_none (by simp; lia)] at h; exact noS h
 ·rw [List.getElem?_append_left (lt_of_get h)]; exact h
theorem Sim.put {a b : Sto} (S : Sim N e a b) {k : Nat} (o : O) (hk : k < a.length) (ho : ∀ q, o ≠ .tab q) : Nx N e a b (a.set k o) (b.set (e k) (o.mp e)) := by
 have hb := S.lt hk
 refine ⟨⟨fun j o' h => ?_, fun j h1 h2 => by simpa using S.nxt j (by simpa using h1) h2, S.inj, S.out, by simpa using S.len, S.cap, fun j q h => ?_⟩, fun j o' h n => ?_, by simp, by simp⟩
 ·by_cases hjk : k = j
  ·subst hjk
   rw [List.getElem?_set_self hk] at h
   induction h using E1
   rw [List.getElem?_set_self hb]
  ·rw [List.getElem?_set_ne hjk] at h
   have hj := lt_of_get h
   rw [List.getElem?_set_ne (fun x => hjk (S.inj _ _ (Nat.lt_of_lt_of_le hk S.len) (Nat.lt_of_lt_of_le hj S.len) x))]
   exact S.get j o' h
 ·by_cases hjk : k = j
  ·subst hjk
   rw [List.getElem?_set_self hk] at h
   induction h using E1r
   exact (ho q rfl).elim
  ·rw [List.getElem?_set_ne hjk] at h
   exact S.fix j q h
 ·rw [List.getElem?_set_ne (n k hk)]; exact h
def Tr {α β : Type} (N : Nat) (e : Nat → Nat) (mp : α → β) (m : M α) (m' : M β) : Prop :=
 ∀ a b r a', Sim N e a b → m a = some (r, a') → a'.length ≤ N → ∃ b', m' b = some (r.map mp, b') ∧ Nx N e a b a' b'
theorem Tr.pure {α β : Type} {mp : α → β} {y : α} : Tr N e mp (M.pure y) (M.pure (mp y)) := fun a b r a' S h _ => by
 induction h using E2; exact ⟨b, rfl, .refl S⟩
theorem Tr.stop {α β : Type} {mp : α → β} {m' : M β} : Tr N e mp Mine.stop m' := fun a b r a' S h => by exact noS h
theorem Tr.still {α β : Type} {mp : α → β} {f : Sto → Option α} {f' : Sto → Option β} (h : ∀ a b y, Sim N e a b → f a = some y → f' b = some (mp y)) : Tr N e mp (still f) (still f') := by
 intro a b r a' S x _
 obtain ⟨y, e1, e2⟩ := Option.map_eq_some_iff.mp x
 induction e2 using E4
 exact ⟨b, by unfold Mine.still; rw [h a b y S e1]; rfl, .refl S⟩
theorem Tr.ofOpt {α β : Type} {mp : α → β} {f : Option α} {f' : Option β} (h : ∀ y, f = some y → f' = some (mp y)) : Tr N e mp (ofOpt f) (ofOpt f') := by
 intro a b r a' S x hl
 cases f with
 | none => cases x
 | some y => rw [h y rfl]; exact Tr.pure a b r a' S x hl
end
end Mine
namespace Mine
section
variable {N : Nat} {e : Nat → Nat} {a b : Sto}
theorem int_mp (y : V) : (y.mp e).int? = y.int? := by cases y <;> rfl
theorem str_mp (y : V) : (y.mp e).str? = y.str? := by cases y <;> rfl
theorem tup_mp (y : V) : (y.mp e).tup? = y.tup?.map (V.mps e) := by cases y <;> rfl
theorem hnd_mp (y : V) : (y.mp e).hnd? = y.hnd?.map e := by cases y <;> rfl
theorem binV_tr {op : Operator} {x y z : V} (h : binV op x y = some z) : binV op (x.mp e) (y.mp e) = some (z.mp e) := by
 cases x with
 | int i =>
  obtain ⟨j, h1, h2⟩ := Option.bind_eq_some_iff.mp h
  obtain ⟨r, h3, h4⟩ := Option.map_eq_some_iff.mp h2
  show (y.mp e).int?.bind _ = _
  rw [int_mp, h1, ← h4]
  show (binI op i j).map _ = _
  rw [h3]; rfl
 | str x =>
  obtain ⟨j, h1, h2⟩ := Option.bind_eq_some_iff.mp h
  show (y.mp e).str?.bind _ = _
  rw [str_mp, h1]
  exact iteS h2 fun hl h2 => (if_pos hl).trans (sInj h2 ▸ rfl)
 | tup l =>
  obtain ⟨l', h1, h2⟩ := Option.bind_eq_some_iff.mp h
  show (y.mp e).tup?.bind _ = _
  rw [tup_mp, h1]
  refine iteS h2 fun hl h2 => ?_
  show (if isAdd op = true ∧ (V.mps e l).length + (V.mps e l').length ≤ sizeLine then some (V.tup (V.mps e l ++ V.mps e l')) else none) = _
  rw [mps_length, mps_length, if_pos hl, ← sInj h2, V.mp, mps_append]
 | _ => exact noS h
theorem mps_empty (l : List V) : (V.mps e l).isEmpty = l.isEmpty := by rw [mps_map, List.isEmpty_map]
theorem truthV_tr (S : Sim N e a b) {y : V} {t : Bool} (h : truthV y a = some t) : truthV (y.mp e) b = some t := by
 cases y with
 | tup l => exact iteS h fun hl h => by show (if (V.mps e l).length ≤ sizeLine then some (!(V.mps e l).isEmpty) else none) = _; rw [mps_length, if_pos hl, mps_empty]; exact h
 | hnd k =>
  refine bindE h fun o hk h => ?_
  show (b[e k]?).bind truO = _
  rw [S.get _ _ hk]
  cases o with
  | list l => exact iteS h fun hl h => by show (if (V.mps e l).length ≤ sizeLine then some (!(V.mps e l).isEmpty) else none) = _; rw [mps_length, if_pos hl, mps_empty]; exact h
  | _ => exact noS h
 | _ => first | exact h | exact noS h
mutual
theorem dat0_mp : ∀ y : V, dat0 (y.mp e) = dat0 y
 | .tup l => by rw [V.mp, dat0, dat0, dats0_mp l]
 | .hnd _ => rfl
 | .lstK _ => rfl
 | .none => rfl
 | .bool _ => rfl
 | .int _ => rfl
 | .str _ => rfl
 | .glob _ => rfl
 | .bi _ => rfl
 | .ty _ => rfl
 | .rng _ _ _ => rfl
theorem dats0_mp : ∀ l : List V, dats0 (V.mps e l) = dats0 l
 | [] => rfl
 | y :: r => by rw [V.mps, dats0, dats0, dat0_mp y, dats0_mp r]
end
theorem lstAt_tr (S : Sim N e a b) {k : Nat} {l : List V} (h : lstAt a k = some l) : lstAt b (e k) = some (V.mps e l) := by unfold lstAt; rw [S.get _ _ (lstAt_of h)]; rfl
theorem dicAt_tr (S : Sim N e a b) {k : Nat} {l : List (Str × V)} (h : dicAt a k = some l) : dicAt b (e k) = some (mpP e l) := by unfold dicAt; rw [S.get _ _ (dicAt_of h)]; rfl
theorem eq0_mp (y z : V) : eq0 (y.mp e) (z.mp e) = eq0 y z := by unfold eq0; rw [dat0_mp, dat0_mp]
theorem datV_tr (S : Sim N e a b) {y : V} {d : PyData} (h : datV y a = some d) : datV (y.mp e) b = some d := by
 refine bindE h fun k h1 h => bindE h fun l h2 h => ?_
 unfold datV
 rw [hnd_mp, h1]
 show (lstAt b (e k)).bind _ = _
 rw [lstAt_tr S h2]
 show (dats0 (V.mps e l)).map _ = _
 rw [dats0_mp]; exact h
theorem strL_mp : ∀ (l : List V), strL (V.mps e l) = strL l
 | [] => rfl
 | y :: r => by
  rw [V.mps]
  cases y with
  | str x => rw [V.mp, strL, strL, strL_mp r]
  | _ => rfl
theorem cmpV_mp (op : CmpOp) (x y : V) : cmpV op (x.mp e) (y.mp e) = cmpV op x y := by
 unfold cmpV cmpI cmpS cmpIn cmpD
 rw [int_mp, int_mp, str_mp, str_mp, tup_mp, eq0_mp]
 cases y.tup? with
 | none => rfl
 | some l => dsimp only [Option.map_some, Option.bind_some]; rw [strL_mp]
end
section
variable {N : Nat} {e : Nat → Nat} {a b : Sto}
theorem seqIndex_nat {j : Int} {n i : Nat} (h : seqIndex? j n = some i) : seqIndex? j n = some i := h
theorem mps_get? (l : List V) (i : Nat) : (V.mps e l)[i]? = (l[i]?).map (V.mp e) := by rw [mps_map, List.getElem?_map]
theorem unV_tr (S : Sim N e a b) {op : UnaryOp} {x y : V} (h : unV op x a = some y) : unV op (x.mp e) b = some (y.mp e) := by
 cases op with
 | USub =>
  exact mapE h fun i h1 h2 => by
   show ((x.mp e).int?).map _ = _
   rw [int_mp, h1, ← h2]; rfl
 | Not =>
  exact mapE h fun t h1 h2 => by
   show (truthV (x.mp e) b).map _ = _
   rw [truthV_tr S h1, ← h2]; rfl
 | _ => exact noS h
theorem lget_tr {j : Int} {l : List V} {y : V} (h : lget j l = some y) : lget j (V.mps e l) = some (y.mp e) := by
 unfold lget
 rw [mps_length]
 refine iteS h fun hj h => bindE h fun k h1 h2 => ?_
 rw [if_pos hj, h1]
 show (V.mps e l)[k]? = _
 rw [mps_get?, h2]; rfl
theorem getO_tr {i y : V} {o : O} (h : getO i o = some y) : getO (i.mp e) (o.mp e) = some (y.mp e) := by
 cases o with
 | list l => exact bindE h fun j h1 h => by show (i.mp e).int?.bind _ = _; rw [int_mp, h1]; exact lget_tr h
 | sdict fs => exact bindE h fun j h1 h => by show (i.mp e).str?.bind _ = _; rw [str_mp, h1]; show (mpP e fs).lookup j = _; rw [mpP_lookup, h]; rfl
 | _ => exact noS h
theorem getItV_tr (S : Sim N e a b) {x i y : V} (h : getItV x i a = some y) : getItV (x.mp e) (i.mp e) b = some (y.mp e) := by
 cases x with
 | tup l => exact bindE h fun j h1 h => by show (i.mp e).int?.bind _ = _; rw [int_mp, h1]; exact lget_tr h
 | str x =>
  exact bindE h fun j h1 h => by
   show (i.mp e).int?.bind _ = _
   rw [int_mp, h1]
   obtain ⟨z, h1, h2⟩ := Option.map_eq_some_iff.mp (iteS h fun _ h => h)
   exact iteS h fun hj h => (if_pos hj).trans (by rw [h1, ← h2]; rfl)
 | hnd k => exact bindE h fun o h1 h => by show (b[e k]?).bind _ = _; rw [S.get _ _ h1]; exact getO_tr h
 | _ => exact noS h
theorem mpP_length {κ : Type} (l : List (κ × V)) : (mpP e l).length = l.length := by unfold mpP; rw [List.length_map]
theorem mpP_any {κ : Type} (f : κ → Bool) (l : List (κ × V)) : (mpP e l).any (fun p => f p.1) = l.any (fun p => f p.1) := by
 unfold mpP; rw [List.any_map]; rfl
theorem putD_mp {κ : Type} [DecidableEq κ] (k : κ) (y : V) (fs : List (κ × V)) : mpP e (putD k y fs) = putD k (y.mp e) (mpP e fs) := by
 unfold putD
 have : (mpP e fs).any (fun p => decide (p.1 = k)) = fs.any (fun p => decide (p.1 = k)) := mpP_any (fun q => decide (q = k)) fs
 rw [this]
 split
 ·unfold mpP
  rw [List.map_map, List.map_map]
  refine List.map_congr_left fun p _ => ?_
  simp only [Function.comp]
  split <;> rfl
 ·unfold mpP; rw [List.map_append]; rfl
theorem putF_mp (x : Str) (y : V) : ∀ fs : List (Str × V), mpP e (putF x y fs) = putF x (y.mp e) (mpP e fs)
 | [] => rfl
 | (x', y') :: r => by
  unfold putF
  show _ = putF x (y.mp e) ((x', y'.mp e) :: mpP e r)
  conv => rhs; unfold putF
  split
  ·rfl
  ·show (x', y'.mp e) :: mpP e (putF x y r) = _
   rw [putF_mp x y r]
theorem mps_set (l : List V) (i : Nat) (u : V) : V.mps e (l.set i u) = (V.mps e l).set i (u.mp e) := by rw [mps_map, mps_map, List.map_set]
theorem setO_tr {i u : V} {o o' : O} (h : setO i u o = some o') : setO (i.mp e) (u.mp e) (o.mp e) = some (o'.mp e) := by
 cases o with
 | list l =>
  exact bindE h fun j h1 h => iteS h fun hc h => by
   show (i.mp e).int?.bind _ = _
   rw [int_mp, h1, ← sInj h]
   show (if 0 ≤ j ∧ j < (V.mps e l).length ∧ (V.mps e l).length ≤ sizeLine then _ else none) = _
   rw [mps_length, if_pos hc, ← mps_set]; rfl
 | sdict fs =>
  exact iteS h fun hc h => by
   show (if (mpP e fs).length ≤ sizeLine then _ else none) = _
   rw [mpP_length, if_pos hc]
   cases i with
   | str x => rw [← sInj h]; exact congrArg (fun l => some (O.sdict l)) (putD_mp _ _ _).symm
   | _ => exact noS h
 | _ => exact noS h
theorem setO_tab {i u : V} {o o' : O} (h : setO i u o = some o') (q : Str) : o' ≠ .tab q := by
 cases o with
 | list l => exact bindE h fun j h1 h => iteS h fun hc h => sInj h ▸ nofun
 | sdict fs =>
  exact iteS h fun hc h => by
   cases i with
   | str x => exact sInj h ▸ nofun
   | _ => exact noS h
 | _ => exact noS h
theorem setItV_tr (S : Sim N e a b) {y i u : V} {a' : Sto} (h : setItV y i u a = some a') : ∃ b', setItV (y.mp e) (i.mp e) (u.mp e) b = some b' ∧ Nx N e a b a' b' := by
 refine bindE h fun k h1 h => bindE h fun o hk h => ?_
 obtain ⟨o', h2, h3⟩ := Option.map_eq_some_iff.mp h
 refine ⟨b.set (e k) (o'.mp e), ?_, h3 ▸ S.put _ (lt_of_get hk) (setO_tab h2)⟩
 unfold setItV
 rw [hnd_mp, h1]
 show (b[e k]?).bind _ = _
 rw [S.get _ _ hk]
 show (setO _ _ (o.mp e)).map _ = _
 rw [setO_tr h2]; rfl
theorem lenV_tr (S : Sim N e a b) {y : V} {n : Int} (h : lenV y a = some n) : lenV (y.mp e) b = some n := by
 cases y with
 | tup l => exact iteS h fun hl h => by show (if (V.mps e l).length ≤ sizeLine then some ((V.mps e l).length : Int) else none) = _; rw [mps_length, if_pos hl]; exact h
 | hnd k =>
  exact bindE h fun o hk h => by
   show (b[e k]?).bind lenO = _
   rw [S.get _ _ hk]
   cases o with
   | list l => exact iteS h fun hl h => by show (if (V.mps e l).length ≤ sizeLine then some ((V.mps e l).length : Int) else none) = _; rw [mps_length, if_pos hl]; exact h
   | _ => exact noS h
 | _ => first | exact h | exact noS h
theorem pickV_mp (l : List V) (lo hi st : Option Int) : pickV (V.mps e l) lo hi st = V.mps e (pickV l lo hi st) := by
 unfold pickV
 rw [mps_length]
 generalize sliceRange _ _ _ = is
 rw [mps_map (List.filterMap _ _), List.map_filterMap]
 congr 1
 funext i
 rw [mps_get?]
theorem partV_mp {y : V} {o : Option Int} (h : partV y = some o) : partV (y.mp e) = some o := by
 unfold partV at h
 split at h
 ·exact h
 ·exact h
 ·exact noS h
theorem getDV_tr (S : Sim N e a b) {y i d z : V} (h : getDV y i d a = some z) : getDV (y.mp e) (i.mp e) (d.mp e) b = some (z.mp e) := by
 refine bindE h fun k h1 h => bindE h fun o h2 h => ?_
 rw [V.hnd_of h1]
 show (b[e k]?).bind _ = _
 rw [S.get _ _ h2]
 cases o with
 | sdict fs =>
  exact mapE h fun x h3 h => by
   show ((i.mp e).str?).map _ = _
   rw [str_mp, h3, ← h]
   show some (((mpP e fs).lookup x).getD (d.mp e)) = _
   rw [mpP_lookup]
   cases fs.lookup x <;> rfl
 | _ => exact noS h
theorem notBi_mp (y : V) : notBi (y.mp e) = notBi y := by cases y <;> rfl
theorem fldO_tr {G : Pg} {x : Str} {o : O} {z : V} (h : fldO G x o = some z) : fldO G x (o.mp e) = some (z.mp e) := by
 refine fldO_some h fun C fs h1 h2 h3 h4 => ?_
 rw [h1]
 show (if (G.flds C).contains x then ((mpP e fs).lookup x).bind _ else none) = _
 rw [if_pos (List.contains_iff_mem.mpr h2), mpP_lookup, h3]
 show (if notBi (z.mp e) then some (z.mp e) else none) = _
 rw [notBi_mp, if_pos h4]
theorem attrM_tr {G : Pg} {x : Str} (S : Sim N e a b) {y z : V} (h : attrM G x y a = some z) : attrM G x (y.mp e) b = some (z.mp e) := by
 refine bindE h fun k h1 h => bindE h fun o h2 h => ?_
 unfold attrM
 rw [hnd_mp, h1]
 show (b[e k]?).bind _ = _
 rw [S.get _ _ h2]
 exact fldO_tr h
theorem methO_tr {G : Pg} {x : Str} {y : V} {o : O} {z : V × List V} (h : methO G x y o = some z) : methO G x (y.mp e) (o.mp e) = some (z.1.mp e, V.mps e z.2) := by
 cases o with
 | list l => exact iteT h (fun _ h => sInj h ▸ rfl) fun _ h => iteT h (fun _ h => sInj h ▸ rfl) fun _ h => iteT h (fun _ h => sInj h ▸ rfl) fun _ h => noS h
 | sdict l => exact iteT h (fun _ h => sInj h ▸ rfl) fun _ h => noS h
 | inst C fs =>
  have h : methI G x y C fs = some z := h
  show methI G x (y.mp e) C (mpP e fs) = _
  unfold methI at h ⊢
  rw [mpP_lookup]
  cases hz : fs.lookup x with
  | some w =>
   rw [hz] at h
   show (if (G.flds C).contains x && notBi (w.mp e) then some (w.mp e, []) else none) = _
   rw [notBi_mp]
   exact iteT h (fun _ h => sInj h ▸ rfl) fun _ h => noS h
  | none =>
   rw [hz] at h
   exact mapE h fun f h1 h => by
    show (G.meth C x).map _ = _
    rw [h1, ← h]; rfl
 | _ => exact noS h
theorem methM_tr {G : Pg} {x : Str} (S : Sim N e a b) {y : V} {z : V × List V} (h : methM G x y a = some z) : methM G x (y.mp e) b = some (z.1.mp e, V.mps e z.2) := by
 refine bindE h fun k h1 h => bindE h fun o h2 h => ?_
 unfold methM
 rw [hnd_mp, h1]
 show (b[e k]?).bind _ = _
 rw [S.get _ _ h2]
 exact methO_tr h
theorem putFld_tr {G : Pg} {x : Str} {u : V} {o o' : O} (h : putFld G x u o = some o') : putFld G x (u.mp e) (o.mp e) = some (o'.mp e) ∧ ∀ q, o' ≠ .tab q := by
 cases o with
 | inst C fs =>
  refine iteS h fun hc h => ⟨?_, sInj h ▸ nofun⟩
  show (if (G.flds C).contains x && decide ((mpP e fs).length ≤ 900) then some (O.inst C (putF x (u.mp e) (mpP e fs))) else none) = _
  rw [mpP_length, if_pos hc, ← putF_mp, ← sInj h]; rfl
 | _ => exact noS h
theorem setAttrM_tr {G : Pg} {x : Str} {y u : V} : Tr N e id (setAttrM G x y u) (setAttrM G x (y.mp e) (u.mp e)) := by
 intro a b r a' S h hl
 refine bindE h fun k h1 h => bindE h fun o hk h => mapE h fun o' h2 h3 => ?_
 obtain ⟨z1, z2⟩ := Prod.mk.inj h3
 obtain ⟨h4, h5⟩ := putFld_tr (e := e) h2
 refine ⟨b.set (e k) (o'.mp e), ?_, z2 ▸ S.put _ (lt_of_get hk) h5⟩
 unfold setAttrM
 rw [hnd_mp, h1]
 show (b[e k]?).bind _ = _
 rw [S.get _ _ hk]
 show (putFld G x (u.mp e) (o.mp e)).map _ = _
 rw [h4, ← z1]; rfl
theorem callable_tr {G : Pg} {f : V} (S : Sim N e a b) (h : callable G f a = true) : callable G (f.mp e) b = true := by
 cases f with
 | hnd k =>
  obtain ⟨o, hk, h1⟩ := mapD h
  show ((b[e k]?).map callO).getD false = _
  rw [S.get _ _ hk]
  cases o <;> first | rfl | exact noB h1
 | _ => first | exact h | exact noB h
theorem arg1_mp {l : List V} {x : V} (h : arg1 l = some x) : arg1 (V.mps e l) = some (x.mp e) := by rw [arg1_of h]; rfl
theorem arg2_mp {l : List V} {x : V × V} (h : arg2 l = some x) : arg2 (V.mps e l) = some (x.1.mp e, x.2.mp e) := by rw [arg2_of h]; rfl
theorem arg3_mp {l : List V} {x : V × V × V} (h : arg3 l = some x) : arg3 (V.mps e l) = some (x.1.mp e, x.2.1.mp e, x.2.2.mp e) := by rw [arg3_of h]; rfl
theorem int1_mp (l : List V) : int1 (V.mps e l) = int1 l := by
 cases l with
 | nil => rfl
 | cons a l => cases l with
  | nil => exact int_mp a
  | cons b l => rfl
theorem int2_mp (l : List V) : int2 (V.mps e l) = int2 l := by
 cases l with
 | nil => rfl
 | cons a l => cases l with
  | nil => rfl
  | cons b l => cases l with
   | nil => show ((a.mp e).int?.bind fun x => (b.mp e).int?.bind fun y => some (x, y)) = _; rw [int_mp, int_mp]; rfl
   | cons c l => rfl
theorem int3_mp (l : List V) : int3 (V.mps e l) = int3 l := by
 cases l with
 | nil => rfl
 | cons a l => cases l with
  | nil => rfl
  | cons b l => cases l with
   | nil => rfl
   | cons c l => cases l with
    | nil => show ((a.mp e).int?.bind fun x => (b.mp e).int?.bind fun y => (c.mp e).int?.bind fun z => some (x, y, z)) = _; rw [int_mp, int_mp, int_mp]; rfl
    | cons d l => rfl
theorem mapI {α : Type} {o : Option α} {f : α → V} {y : V} (hf : ∀ x, (f x).mp e = f x) (h : o.map f = some y) : o.map f = some (y.mp e) := mapE h fun d h1 h2 => by rw [h1, ← h2, hf]; rfl
theorem tupP_tr (S : Sim N e a b) {x y : V} (h : tupP x a = some y) : tupP (x.mp e) b = some (y.mp e) := by
 unfold tupP
 refine orE h (fun h => mapE h fun l h1 h2 => ?_) fun h => bindE h fun k h1 h => bindE h fun l h2 h => iteS h fun hl h => ?_
 ·rw [V.tup_of h1, ← h2]; rfl
 ·rw [V.hnd_of h1]
  show ((lstAt b (e k)).bind fun l => if l.length ≤ 16384 then some (V.tup l) else none) = _
  rw [lstAt_tr S h2]
  show (if (V.mps e l).length ≤ 16384 then _ else none) = _
  rw [mps_length, if_pos hl, ← sInj h]; rfl
theorem biP_tr {q : Bool} {id : String} {args : List V} (S : Sim N e a b) {y : V} (h : biP q id args a = some y) : biP q id (V.mps e args) b = some (y.mp e) := by
 unfold biP
 rw [int1_mp, int2_mp]
 refine iteT h (fun _ h => bindE h fun x h1 h => mapE h fun n h2 h => ?_) fun _ h => iteT h (fun _ h => mapI (fun _ => rfl) h) fun _ h => iteT h (fun _ h => iteT h (fun _ h => mapI (fun _ => rfl) h) fun _ h => noS h) fun _ h => iteT h (fun _ h => iteT h (fun _ h => mapI (fun _ => rfl) h) fun _ h => noS h) fun _ h => noS h
 rw [arg1_mp h1]
 show (lenV (x.mp e) b).map V.int = _
 rw [lenV_tr S h2, ← h]; rfl
theorem tyP_tr {id : String} {args : List V} (S : Sim N e a b) {y : V} (h : tyP id args a = some y) : tyP id (V.mps e args) b = some (y.mp e) := by
 unfold tyP rngP
 rw [int1_mp, int2_mp, int3_mp]
 refine iteT h (fun _ h => mapI (fun _ => rfl) h) fun _ h => iteT h (fun _ h => ?_) fun _ h => iteT h (fun _ h => bindE h fun x h1 h => ?_) fun _ h => iteT h (fun _ h => ?_) fun _ h => noS h
 ·rw [show y.mp e = y from orE h (fun h => mapE h fun _ _ h => h ▸ rfl) fun h => orE h (fun h => mapE h fun _ _ h => h ▸ rfl) fun h => bindE h fun _ _ h => iteE h (fun _ h => noS h) fun _ h => sInj h ▸ rfl]
  exact h
 ·rw [arg1_mp h1]
  exact tupP_tr S h
 ·rw [show y.mp e = y from bindE h fun _ _ h => iteS h fun _ h => sInj h ▸ rfl]
  exact h
theorem callB_tr {q : Bool} {f : V} {args : List V} (S : Sim N e a b) {y : V} {a' : Sto} (h : callB q f args a = some (y, a')) : a' = a ∧ callB q (f.mp e) (V.mps e args) b = some (y.mp e, b) := by
 cases f with
 | bi id => exact mapE h fun z h1 h2 => ⟨(Prod.mk.inj h2).2.symm, by show (biP q id (V.mps e args) b).map _ = _; rw [biP_tr S h1, ← (Prod.mk.inj h2).1]; rfl⟩
 | ty id => exact mapE h fun z h1 h2 => ⟨(Prod.mk.inj h2).2.symm, by show (tyP id (V.mps e args) b).map _ = _; rw [tyP_tr S h1, ← (Prod.mk.inj h2).1]; rfl⟩
 | _ => exact noS h
theorem newO_tr {o : O} (ho : ∀ q, o ≠ .tab q) : Tr N e (V.mp e) (newO o) (newO (o.mp e)) := by
 intro a b r a' S h hl
 induction h using E2
 exact ⟨_, by unfold newO; rw [show Except.map (V.mp e) (Except.ok (.hnd a.length) : Except Addr V) = .ok (.hnd (e a.length)) from rfl, S.at (by simp at hl; lia)], S.push o hl ho⟩
theorem getLast_mps (l : List V) : (V.mps e l).getLast? = l.getLast?.map (V.mp e) := by rw [mps_map, List.getLast?_map]
theorem dropLast_mps (l : List V) : (V.mps e l).dropLast = V.mps e l.dropLast := by rw [mps_map, mps_map, List.map_dropLast]
theorem getC_tr {q : Bool} {args : List V} : Tr N e (V.mp e) (callC q (.bi "dict.get") args) (callC q (.bi "dict.get") (V.mps e args)) := by
 intro a b r a' S h hl
 have key : ∀ (args : List V) (st : Sto), callD q (.bi "dict.get") args st = (arg3 args).bind fun p => (getDV p.1 p.2.1 p.2.2 st).map fun z => (z, st) := fun args st => by simp [callD]
 refine mapE h fun p h1 h2 => ?_
 rw [key] at h1
 refine bindE h1 fun u h3 h1 => mapE h1 fun z h4 h5 => ?_
 obtain ⟨z1, z2⟩ := Prod.mk.inj h2
 rw [← h5] at z1 z2
 refine ⟨b, ?_, z2 ▸ .refl S⟩
 show (callD q (.bi "dict.get") (V.mps e args) b).map _ = _
 rw [key, arg3_mp h3]
 show ((getDV (u.1.mp e) (u.2.1.mp e) (u.2.2.mp e) b).map _).map _ = _
 rw [getDV_tr S h4, ← z1]; rfl
theorem binL_hnd {op : Operator} {x y z : V} {b : Sto} (h : binV op x y = some z) : binL op (x.mp e) (y.mp e) b = none := by
 cases x <;> first | rfl | exact noS h
theorem binM_tr {op : Operator} {x y : V} : Tr N e (V.mp e) (binM op x y) (binM op (x.mp e) (y.mp e)) := by
 intro a b r a' S h hl
 unfold binM at h
 cases h1 : binL op x y a with
 | some l =>
  rw [h1] at h
  refine bindE h1 fun i g1 h1 => bindE h1 fun j g2 h1 => bindE h1 fun l g3 h1 => bindE h1 fun l' g4 h1 => iteS h1 fun hn h1 => ?_
  have : binL op (x.mp e) (y.mp e) b = some (V.mps e l ++ V.mps e l') := by
   unfold binL
   rw [hnd_mp, hnd_mp, g1, g2]
   dsimp only [Option.map_some, Option.bind_some]
   rw [lstAt_tr S g3, lstAt_tr S g4]
   dsimp only [Option.bind_some]
   rw [mps_length, mps_length, if_pos hn]
  unfold binM
  rw [this, ← mps_append, sInj h1]
  exact newO_tr (by intro q z; cases z) a b r a' S h hl
 | none =>
  rw [h1] at h
  obtain ⟨z, h2, h3⟩ := ofOpt_some h
  unfold binM
  rw [binL_hnd h2]
  exact Tr.ofOpt (fun y h => binV_tr h) a b r a' S h hl
theorem seqAt_tr (S : Sim N e a b) {x : V} {l : List V} (h : seqAt x a = some l) : seqAt (x.mp e) b = some (V.mps e l) := by
 cases x with
 | hnd k => exact lstAt_tr S h
 | lstK l => rw [← sInj h]; rfl
 | _ => exact noS h
theorem mps_reverse (l : List V) : V.mps e l.reverse = (V.mps e l).reverse := by rw [mps_map, mps_map, List.map_reverse]
theorem seqAt_tup {x : V} {l : List V} {b : Sto} (h : x.tup? = some l) : seqAt x b = none := by cases x <;> first | rfl | exact noS h
theorem sliceM_tr {x lo hi st : V} : Tr N e (V.mp e) (sliceM x lo hi st) (sliceM (x.mp e) (lo.mp e) (hi.mp e) (st.mp e)) := by
 intro a b r a' S h hl
 refine orE h (fun h => bindE h fun L h1 h => bindE h1 fun l g1 h1 => bindE h1 fun lo' g2 h1 => bindE h1 fun hi' g3 h1 => bindE h1 fun st' g4 h1 => iteS h1 fun hz h1 => ?_) fun h => mapE h fun y h1 h => bindE h1 fun l g1 h1 => bindE h1 fun lo' g2 h1 => bindE h1 fun hi' g3 h1 => bindE h1 fun st' g4 h1 => iteS h1 fun hz h1 => ?_
 ·have : sliceV (x.mp e) (lo.mp e) (hi.mp e) (st.mp e) b = some (V.mps e L) := by
   unfold sliceV
   rw [seqAt_tr S g1, partV_mp g2, partV_mp g3, partV_mp g4]
   dsimp only [Option.bind_some]
   rw [mps_length, if_pos hz, pickV_mp, sInj h1]
  obtain ⟨b', h2, N1⟩ := newO_tr (N := N) (e := e) (o := .list L) (by intro q z; cases z) a b r a' S h hl
  refine ⟨b', ?_, N1⟩
  unfold sliceM
  rw [this]
  show (newO (.list (V.mps e L)) b).or _ = _
  rw [show newO (.list (V.mps e L)) b = _ from h2]; rfl
 ·have g5 : (x.mp e).tup? = some (V.mps e l) := by rw [tup_mp, g1]; rfl
  obtain ⟨z1, z2⟩ := Prod.mk.inj h
  refine ⟨b, ?_, z2 ▸ .refl S⟩
  unfold sliceM sliceV
  rw [seqAt_tup g5, g5]
  show ((revV (V.mps e l) (lo.mp e) (hi.mp e) (st.mp e)).map _) = _
  unfold revV
  rw [partV_mp g2, partV_mp g3, partV_mp g4]
  dsimp only [Option.bind_some]
  rw [mps_length, if_pos hz, ← z1, ← sInj h1, ← mps_reverse]; rfl
end
mutual
noncomputable def flatV : V → Bool
 | .tup l => flatVs l
 | .hnd _ => false
 | .lstK l => flatVs l
 | .none | .bool _ | .int _ | .str _ | .glob _ | .bi _ | .ty _ | .rng _ _ _ => true
noncomputable def flatVs : List V → Bool
 | [] => true
 | y :: r => flatV y && flatVs r
end
section
variable {N : Nat} {e : Nat → Nat} {a b : Sto}
mutual
theorem flat_mp : ∀ {y : V}, flatV y = true → y.mp e = y
 | .tup l, h => by rw [V.mp, flat_mps (by rw [flatV] at h; exact h)]
 | .lstK l, h => by rw [V.mp, flat_mps (by rw [flatV] at h; exact h)]
 | .hnd _, h => by rw [flatV] at h; cases h
 | .none, _ => rfl
 | .bool _, _ => rfl
 | .int _, _ => rfl
 | .str _, _ => rfl
 | .glob _, _ => rfl
 | .bi _, _ => rfl
 | .ty _, _ => rfl
 | .rng _ _ _, _ => rfl
theorem flat_mps : ∀ {l : List V}, flatVs l = true → V.mps e l = l
 | [], _ => rfl
 | y :: r, h => by
  rw [flatVs, Bool.and_eq_true] at h
  rw [V.mps, flat_mp h.1, flat_mps h.2]
end
def GFlat (G : Pg) : Prop := ∀ x y, G.gl x = some y → flatV y = true
theorem constV_mp {x : Const} {y : V} (h : constV x = some y) : constV x = some (y.mp e) := by
 cases x <;> first | exact noS h | exact sInj h ▸ rfl
theorem celV_tr (S : Sim N e a b) {CL : List (Str × Nat)} {x : Str} {y : V} (h : celV CL x a = some y) : celV (mpC e CL) x b = some (y.mp e) :=
 bindE h fun k h1 h => bindE h fun o h2 h => by
  unfold celV
  rw [mpC_lookup, h1]
  show (b[e k]?).bind _ = _
  rw [S.get _ _ h2]
  cases o with
  | cell v => rw [show v = some y from h]; rfl
  | _ => exact noS h
theorem nameM_tr {G : Pg} (hG : GFlat G) {sc : Scope} {CL : List (Str × Nat)} {ρ : Loc} {x : Str} : Tr N e (V.mp e) (nameM G sc CL ρ x) (nameM G sc (mpC e CL) (mpP e ρ) x) := by
 intro a b r a' S h hl
 refine mapE h fun y h h2 => iteE h (fun _ h => noS h) fun hx h => bindE h fun kd hk h => ?_
 have : nameK G (mpC e CL) (mpP e ρ) x b kd = some (y.mp e) := by
  cases kd with
  | «local» => show (mpP e ρ).lookup x = _; rw [mpP_lookup, show ρ.lookup x = _ from h]; rfl
  | cell => exact celV_tr S h
  | free => exact celV_tr S h
  | globalImplicit => rw [flat_mp (hG _ _ h)]; exact h
  | _ => exact noS h
 obtain ⟨z1, z2⟩ := Prod.mk.inj h2
 refine ⟨b, ?_, z2 ▸ .refl S⟩
 unfold nameM
 rw [if_neg hx, hk, ← z1]
 show (nameK G (mpC e CL) (mpP e ρ) x b kd).map _ = _
 rw [this]; rfl
theorem storeM_tr {sc : Scope} {CL : List (Str × Nat)} {ρ : Loc} {x : Str} {y : V} : Tr N e (mpP e) (storeM sc CL x y ρ) (storeM sc (mpC e CL) x (y.mp e) (mpP e ρ)) := by
 intro a b r a' S h hl
 refine storeM_some h (fun hk h => ?_) fun k o hk hc ho hcell h => ?_
 ·obtain ⟨z1, z2⟩ := Prod.mk.inj h
  unfold storeM
  rw [hk, ← putF_mp, ← z1, ← z2]
  exact ⟨b, rfl, .refl S⟩
 ·obtain ⟨z1, z2⟩ := Prod.mk.inj h
  rw [← z1, ← z2]
  refine ⟨_, ?_, S.put (.cell (some y)) (lt_of_get ho) nofun⟩
  unfold storeM
  rw [hk]
  show ((mpC e CL).lookup x).bind _ = _
  rw [mpC_lookup, hc]
  show (b[e k]?).bind _ = _
  rw [S.get _ _ ho]
  cases o <;> first | rfl | exact noB hcell
def Up {α : Type} (m : M α) : Prop := ∀ a r a', m a = some (r, a') → a.length ≤ a'.length
theorem Tr.bind {α β γ δ : Type} {mp : α → β} {mq : γ → δ} {m : M α} {m' : M β} {f : α → M γ} {f' : β → M δ} (h1 : Tr N e mp m m') (h2 : ∀ y, Tr N e mq (f y) (f' (mp y))) (hu : ∀ y, Up (f y)) : Tr N e mq (M.bind m f) (M.bind m' f') := by
 intro a b r a' S h hl
 refine M.elim h (fun y a1 e1 h => ?_) fun C a1 e1 h => ?_
 ·obtain ⟨b1, e2, N1⟩ := h1 _ _ _ _ S e1 (Nat.le_trans (hu _ _ _ _ h) hl)
  obtain ⟨b2, e3, N2⟩ := h2 y _ _ _ _ N1.S h hl
  refine ⟨b2, ?_, N1.trans S N2⟩
  unfold M.bind
  rw [e2]; exact e3
 ·obtain ⟨z1, z2⟩ := Prod.mk.inj h
  rw [← z2] at hl ⊢
  obtain ⟨b1, e2, N1⟩ := h1 _ _ _ _ S e1 hl
  refine ⟨b1, ?_, N1⟩
  unfold M.bind
  rw [e2, ← z1]; rfl
theorem storeM_up {sc : Scope} {CL : List (Str × Nat)} {ρ : Loc} {x : Str} {y : V} : Up (storeM sc CL x y ρ) := fun a r a' h =>
 storeM_some h (fun _ h => (Prod.mk.inj h).2 ▸ Nat.le_refl _) fun _ _ _ _ _ _ h => (Prod.mk.inj h).2 ▸ Nat.le_of_eq List.length_set.symm
theorem storesM_up {sc : Scope} {CL : List (Str × Nat)} : ∀ (xs : List Str) (ys : List V) (ρ : Loc), Up (storesM sc CL xs ys ρ)
 | [], [], ρ => fun a r a' h => (Prod.mk.inj (sInj h)).2 ▸ Nat.le_refl _
 | x :: xs, y :: ys, ρ => fun a r a' h => M.elim (f := fun ρ' => storesM sc CL xs ys ρ') h (fun ρ' a1 e1 h => Nat.le_trans (storeM_up _ _ _ e1) (storesM_up xs ys _ _ _ _ h)) fun C a1 e1 h => (Prod.mk.inj h).2 ▸ storeM_up _ _ _ e1
 | [], _ :: _, ρ => fun a r a' h => noS h
 | _ :: _, [], ρ => fun a r a' h => noS h
theorem storesM_tr {sc : Scope} {CL : List (Str × Nat)} : ∀ (xs : List Str) (ys : List V) (ρ : Loc), Tr N e (mpP e) (storesM sc CL xs ys ρ) (storesM sc (mpC e CL) xs (V.mps e ys) (mpP e ρ))
 | [], [], ρ => .pure
 | x :: xs, y :: ys, ρ => .bind storeM_tr (fun ρ' => storesM_tr xs ys ρ') fun ρ' => storesM_up xs ys ρ'
 | [], _ :: _, ρ => .stop
 | _ :: _, [], ρ => .stop
theorem unpackM_tr {sc : Scope} {CL : List (Str × Nat)} {xs : List Str} {y : V} {ρ : Loc} : Tr N e (mpP e) (unpackM sc CL xs y ρ) (unpackM sc (mpC e CL) xs (y.mp e) (mpP e ρ)) := by
 intro a b r a' S h hl
 refine bindE h fun l h1 h => iteS h fun hn h => ?_
 obtain ⟨b', h2, N1⟩ := storesM_tr xs l ρ a b r a' S h hl
 refine ⟨b', ?_, N1⟩
 unfold unpackM
 rw [tup_mp, h1]
 show (if (V.mps e l).length = xs.length then _ else none) = _
 rw [mps_length, if_pos hn]; exact h2
def It.mp (e : Nat → Nat) : It → It
 | .lst k => .lst (e k)
 | .tup l => .tup (V.mps e l)
 | .rng a n c => .rng a n c
 | .dk k => .dk (e k)
theorem itOf_tr (S : Sim N e a b) {y : V} {it : It} (h : itOf y a = some it) : itOf (y.mp e) b = some (it.mp e) := by
 cases y with
 | hnd k =>
  exact bindE h fun o hk h => by
   show (b[e k]?).bind _ = _
   rw [S.get _ _ hk]
   cases o with
   | list l => exact sInj h ▸ rfl
   | sdict l => exact iteS h fun hc h => by rw [List.isEmpty_iff.mp hc, ← sInj h]; rfl
   | _ => exact noS h
 | tup l => exact sInj h ▸ rfl
 | rng x y z => exact iteS h fun hc h => (if_pos hc).trans (sInj h ▸ rfl)
 | _ => exact noS h
theorem itM_tr (S : Sim N e a b) {it : It} {i : Nat} {o : Option V} (h : itM it i a = some o) : itM (it.mp e) i b = some (o.map (V.mp e)) := by
 cases it with
 | lst k =>
  exact mapE h fun l h1 h => by
   show (lstAt b (e k)).map _ = _
   rw [lstAt_tr S h1, ← h]
   exact congrArg some (mps_get? ..)
 | tup l =>
  rw [← sInj h]
  exact congrArg some (mps_get? ..)
 | rng x y z =>
  rw [← sInj h]
  show some (if (i : Int) < y then some (V.int (x + i * z)) else none) = _
  split <;> rfl
 | dk k => rw [← sInj h]; rfl
theorem clos_mp {cells : List (Str × Nat)} (l : List (Str × NameKind)) : ∀ (acc out : List (Str × Nat)), clos cells l acc = some out → clos (mpC e cells) l (mpC e acc) = some (mpC e out) := by
 induction l with
 | nil => exact fun acc out h => sInj h ▸ rfl
 | cons p r ih =>
  intro acc out h
  unfold clos
  refine iteT h (fun _ h => bindE h fun a h1 h => ?_) fun _ h => ih _ _ h
  rw [mpC_lookup, h1]
  exact ih _ _ h
theorem lamM_tr {ti : Option Nat} {CL : List (Str × Nat)} {params : Arguments} {body : Expr} {sc : Scope} {qual : Str} : Tr N e (V.mp e) (lamM ti CL params body sc qual) (lamM ti (mpC e CL) params body sc qual) := by
 intro a b r a' S h hl
 refine bindE h fun cl h1 h => bindE h1 fun t ht h1 => bindE h1 fun o ho h1 => bindE h1 fun qq hq h1 => iteS h1 fun hc hcl => ?_
 have : lamC ti (mpC e CL) params sc qual b = some (mpC e cl) := by
  cases o with
  | tab q' =>
   have g := S.get _ _ ho
   rw [S.fix _ _ ho] at g
   unfold lamC
   rw [ht]
   show (b[t]?).bind _ = _
   rw [g]
   show (if q' = qual ∧ lamOk params sc = true then clos (mpC e CL) sc.names [] else none) = _
   rw [if_pos (sInj hq ▸ hc)]
   exact clos_mp (e := e) _ _ _ hcl
  | _ => exact noS hq
 unfold lamM
 rw [this]
 exact newO_tr (by intro q z; cases z) a b r a' S h hl
theorem isX_mp {x y : V} {t : Bool} (h : isX x y = some t) : isX (x.mp e) (y.mp e) = some t := by
 cases y with
 | none => cases x <;> first | exact h | exact noS h
 | _ => exact noS h
theorem eqL_tr (S : Sim N e a b) {x y : V} {t : Bool} (h : eqL x y a = some t) : eqL (x.mp e) (y.mp e) b = some t := by
 refine bindE h fun d h1 h => bindE h fun d' h2 h => ?_
 unfold eqL
 rw [datV_tr S h1, datV_tr S h2]; exact h
end
end Mine
namespace Mine
structure Orc where
 need : Nat
 q : Bool
 f : Addr
 vs : List V
 a : Sto
 r : Except Addr V
 a' : Sto
structure Cal where
 o : Orc
 jl : List Nat
 r : Except Addr V
 a : Sto
inductive Dec where
 | b (v : Bool)
 | v (y : V)
structure XS where
 st : Sto
 ds : List (Nat × Dec)
 dc : List Cal
 cs : Prop
def XM (α : Type) : Type := XS → Option (Except Addr α × XS)
noncomputable def XM.pure {α : Type} (y : α) : XM α := fun x => some (.ok y, x)
noncomputable def XM.bind {α β : Type} (m : XM α) (f : α → XM β) : XM β := fun x => match m x with
 | some (.ok y, x') => f y x'
 | some (.error C, x') => some (.error C, x')
 | none => none
noncomputable def noErrX {α : Type} (m : XM α) : XM α := fun x => match m x with
 | some (.ok y, x') => some (.ok y, x')
 | _ => none
noncomputable def stopX {α : Type} : XM α := fun _ => none
noncomputable def liftX {α : Type} (m : M α) : XM α
 | ⟨st, ds, dc, cs⟩ => match m st with
  | some (.ok y, s) => match Nat.ble st.length s.length with
   | true => some (.ok y, ⟨s, ds, dc, cs⟩)
   | false => none
  | _ => none
noncomputable def askB (b : Bool) : XM Bool
 | ⟨st, ds, dc, cs⟩ => match ds with
  | [] => some (.ok b, ⟨st, ds, dc, cs⟩)
  | (k, d) :: ds' => match k with
   | 0 => match d with
    | .b v => some (.ok v, ⟨st, ds', dc, b = v ∧ cs⟩)
    | .v _ => none
   | k + 1 => some (.ok b, ⟨st, (k, d) :: ds', dc, cs⟩)
def okX (o : Option V) : XM V := match o with
 | some y => XM.pure y
 | none => stopX
def askV (f : Sto → Option V) : XM V
 | ⟨st, ds, dc, cs⟩ => match ds with
  | [] => okX (f st) ⟨st, ds, dc, cs⟩
  | (k, d) :: ds' => match k with
   | 0 => match d with
    | .v y => some (.ok y, ⟨st, ds', dc, f st = some y ∧ cs⟩)
    | .b _ => none
   | k + 1 => okX (f st) ⟨st, (k, d) :: ds', dc, cs⟩
def mustX (b : Bool) (y : V) : XM V := XM.bind (askB b) fun v => match v with
 | true => XM.pure y
 | false => stopX
def binX (op : Operator) (a b : V) : XM V := match a, b with
 | .int i, .int j => match op with
  | .Mult => mustX (mulOk i j) (.int (i * j))
  | .FloorDiv => mustX (!decide (j = 0 ∨ Builtin.divisionGoesByPylong i j = true)) (.int (i.fdiv j))
  | .Mod => mustX (!decide (j = 0)) (.int (i.fmod j))
  | .Pow => mustX (powOk i j) (.int (i ^ j.toNat))
  | op => liftX (binM op (.int i) (.int j))
 | a, b => liftX (binM op a b)
def iteX {α : Type} (b : Bool) (x y : XM α) : XM α := XM.bind (askB b) fun v => match v with
 | true => x
 | false => y
noncomputable def allX (f : Expr → XM Bool) : List Expr → XM Bool
 | [] => XM.pure true
 | x :: r => XM.bind (f x) fun b => iteX b (allX f r) (XM.pure false)
noncomputable def anyX (f : Expr → XM Bool) : List Expr → XM Bool
 | [] => XM.pure false
 | x :: r => XM.bind (f x) fun b => iteX b (XM.pure true) (anyX f r)
noncomputable def andX (f : Expr → XM V) : Expr → List Expr → XM V
 | x, [] => f x
 | x, y :: r => XM.bind (f x) fun a => XM.bind (liftX (still fun st => truthV a st)) fun b => iteX b (andX f y r) (XM.pure a)
noncomputable def evListX (f : Expr → XM V) : List Expr → XM (List V)
 | [] => XM.pure []
 | e :: r => XM.bind (f e) fun a => XM.bind (evListX f r) fun l => XM.pure (a :: l)
def callMX (G : Pg) (cf : V → List V → XM V) (f : V) (first : List V) (as : XM (List V)) : XM V :=
 XM.bind as fun l x => match callable G f x.st with
  | true => cf f (first ++ l) x
  | false => none
def partX (f : Expr → XM V) : Option Expr → XM V
 | none => XM.pure .none
 | some e => f e
noncomputable def pairsX (f : Expr → XM V) : List (Option Expr) → List Expr → XM (List (Str × V))
 | some k :: ks, v :: vs => XM.bind (f k) fun a => XM.bind (f v) fun b => XM.bind (pairsX f ks vs) fun l => match a with
  | .str x => XM.pure ((x, b) :: l)
  | _ => stopX
 | [], [] => XM.pure []
 | _, _ => stopX
noncomputable def testsX (f : Expr → XM Bool) : List Expr → XM Bool
 | [] => XM.pure true
 | x :: r => XM.bind (f x) fun b => iteX b (testsX f r) (XM.pure false)
noncomputable def compX (x : Str) (mt : Loc → XM Bool) (me : Loc → XM V) (it : It) : Nat → Nat → List V → XM (List V)
 | 0, _, _ => stopX
 | n + 1, i, acc => XM.bind (liftX (still fun st => itM it i st)) fun o => match o with
  | none => XM.pure acc
  | some y => XM.bind (noErrX (mt [(x, y)])) fun b => iteX b (XM.bind (noErrX (me [(x, y)])) fun z => match Nat.blt acc.length sizeLine with
    | true => compX x mt me it n (i + 1) (acc ++ [z])
    | false => stopX) (compX x mt me it n (i + 1) acc)
noncomputable def dcompX (x1 x2 : Str) (mk mv : Loc → XM V) (it : It) : Nat → Nat → List (Str × V) → XM (List (Str × V))
 | 0, _, _ => stopX
 | n + 1, i, acc => XM.bind (liftX (still fun st => itM it i st)) fun o => match o with
  | none => XM.pure acc
  | some y => match pairOf y with
   | none => stopX
   | some p => XM.bind (noErrX (mk [(x1, p.1), (x2, p.2)])) fun a => XM.bind (noErrX (mv [(x1, p.1), (x2, p.2)])) fun b => match a.str? with
    | none => stopX
    | some s => match Nat.ble acc.length sizeLine with
     | true => dcompX x1 x2 mk mv it n (i + 1) (putD s b acc)
     | false => stopX
noncomputable def seqX (f : Stmt → Loc → XM (Fl × Loc)) : List Stmt → Loc → XM (Fl × Loc)
 | [], ρ => XM.pure (.next, ρ)
 | x :: r, ρ => XM.bind (f x ρ) fun p => match p.1 with
  | .next => seqX f r p.2
  | fl => XM.pure (fl, p.2)
noncomputable def whileX (mt : Loc → XM Bool) (mb : Loc → XM (Fl × Loc)) : Nat → Loc → XM (Fl × Loc)
 | 0, _ => stopX
 | n + 1, ρ => XM.bind (noErrX (mt ρ)) fun b => iteX b (XM.bind (noErrX (mb ρ)) fun p => match p.1 with
   | .next | .cont => whileX mt mb n p.2
   | .brk => XM.pure (.next, p.2)
   | .ret y => XM.pure (.ret y, p.2)) (XM.pure (.next, ρ))
noncomputable def forX (asg : V → Loc → XM Loc) (mb : Loc → XM (Fl × Loc)) (it : It) : Nat → Nat → Loc → XM (Fl × Loc)
 | 0, _, _ => stopX
 | n + 1, i, ρ => XM.bind (liftX (still fun st => itM it i st)) fun o => match o with
  | none => XM.pure (.next, ρ)
  | some y => XM.bind (noErrX (asg y ρ)) fun ρ1 => XM.bind (mb ρ1) fun p => match p.1 with
   | .next | .cont => forX asg mb it n (i + 1) p.2
   | .brk => XM.pure (.next, p.2)
   | .ret y => XM.pure (.ret y, p.2)
def tryX (mv : Loc → XM V) (fin : V → Loc → XM Loc) (xc : Option Addr) (mh : Loc → XM (Fl × Loc)) (ρ : Loc) : XM (Fl × Loc) := fun x => match mv ρ x with
 | some (.ok y, x1) => XM.bind (noErrX (fin y ρ)) (fun ρ' => XM.pure (.next, ρ')) x1
 | some (.error C, x1) => match xc with
  | some D => match Nat.beq D C with
   | true => noErrX (mh ρ) x1
   | false => none
  | none => none
 | none => none
def raiseX (G : Pg) (mf me : Loc → XM V) (ρ : Loc) : XM (Fl × Loc) := XM.bind (mf ρ) fun f => XM.bind (me ρ) fun _ x => match excOf G f with
 | some C => some (.error C, x)
 | none => none
structure EvX where
 val : Bool → Scope → List (Str × Nat) → Loc → Expr → XM V
 tst : Bool → Scope → List (Str × Nat) → Loc → Expr → XM Bool
def valX (G : Pg) (cf : Bool → V → List V → XM V) (fn : Fn) (q : Bool) (r : EvX) (inC : Bool) (sc : Scope) (CL : List (Str × Nat)) (ρ : Loc) : Cmd → XM V :=
 let v := r.val inC sc CL ρ
 let t := r.tst inC sc CL ρ
 fun
 | .const x => liftX (ofOpt (constV x))
 | .name x => liftX (nameM G sc CL ρ x)
 | .bin l op x => XM.bind (v l) fun a => XM.bind (v x) fun b => binX op a b
 | .un op x => XM.bind (v x) fun a => liftX (still fun st => unV op a st)
 | .cmp l op x => XM.bind (v l) fun a => XM.bind (v x) fun b => askV fun st => (cmpX op a b st).map V.bool
 | .and_ x xs => andX v x xs
 | .ite c a b => XM.bind (t c) fun x => iteX x (v a) (v b)
 | .tup es => XM.bind (evListX v es) fun l => liftX (still fun _ => if l.length ≤ sizeLine then some (.tup l) else none)
 | .list es => XM.bind (evListX v es) fun l => liftX (fun st => if l.length ≤ sizeLine then newO (.list l) st else none)
 | .attr o x => XM.bind (v o) fun a => liftX (still fun st => attrM G x a st)
 | .slice o lo hi st => XM.bind (v o) fun a => XM.bind (partX v lo) fun x => XM.bind (partX v hi) fun y => XM.bind (partX v st) fun z => liftX (sliceM a x y z)
 | .sub o i => XM.bind (v o) fun a => XM.bind (v i) fun b => askV fun st => getItV a b st
 | .subL es i => XM.bind (evListX v es) fun l => match Nat.ble l.length sizeLine with
  | true => XM.bind (v i) fun b => askV fun _ => b.int?.bind fun j => lget j l
  | false => stopX
 | .meth o x es => XM.bind (v o) fun y => XM.bind (liftX (still fun st => methM G x y st)) fun p => callMX G (cf q) p.1 p.2 (evListX v es)
 | .call f es => XM.bind (v f) fun g => callMX G (cf q) g [] (evListX v es)
 | .dict0 => liftX (newO (.sdict []))
 | .dict k ks vs => XM.bind (pairsX v (k :: ks) vs) fun l => liftX (fun st => if (l.map (·.1)).Nodup then newO (.sdict l) st else none)
 | .lam params body lsc => liftX (lamM fn.tab CL params body lsc (fn.qual ++ ".<locals>." ++ "<lambda>"))
 | .comp elt x iter ifs csc => match clos CL csc.names [] with
  | some CL' => XM.bind (v iter) fun y => XM.bind (liftX (still fun st => itOf y st)) fun it => XM.bind (compX x (fun ρ' => testsX (r.tst true csc CL' ρ') ifs) (fun ρ' => r.val true csc CL' ρ' elt) it turns 0 []) fun l => liftX (newO (.list l))
  | none => stopX
 | .dcomp kx vx x1 x2 iter csc => match clos CL csc.names [] with
  | some CL' => XM.bind (v iter) fun y => XM.bind (liftX (still fun st => itOf y st)) fun it => XM.bind (dcompX x1 x2 (fun ρ' => r.val true csc CL' ρ' kx) (fun ρ' => r.val true csc CL' ρ' vx) it turns 0 []) fun l => liftX (newO (.sdict l))
  | none => stopX
 | .no => stopX
def tstX (r : EvX) (inC : Bool) (sc : Scope) (CL : List (Str × Nat)) (ρ : Loc) : Tmd → XM Bool :=
 let v := r.val inC sc CL ρ
 let t := r.tst inC sc CL ρ
 fun
 | .not_ x => XM.bind (t x) fun b => XM.pure (!b)
 | .and_ xs => allX t xs
 | .or_ xs => anyX t xs
 | .ite c a b => XM.bind (t c) fun x => iteX x (t a) (t b)
 | .cmp l op x => XM.bind (v l) fun a => XM.bind (v x) fun b => XM.bind (askV fun st => (cmpX op a b st).map V.bool) fun y => match y with
  | .bool t => XM.pure t
  | _ => stopX
 | .ne0 l => XM.bind (v l) fun a => XM.bind (askV fun st => (ne0V a st).map V.bool) fun y => match y with
  | .bool t => XM.pure t
  | _ => stopX
 | .plain e => XM.bind (v e) fun a => liftX (still fun st => truthV a st)
 | .no => stopX
noncomputable def evX (G : Pg) (cf : Bool → V → List V → XM V) (fn : Fn) (q : Bool) : Nat → EvX
 | 0 => ⟨fun _ _ _ _ _ => stopX, fun _ _ _ _ _ => stopX⟩
 | d + 1 => ⟨fun inC sc CL ρ e => valX G cf fn q (evX G cf fn q d) inC sc CL ρ (planE q inC e), fun inC sc CL ρ e => tstX (evX G cf fn q d) inC sc CL ρ (planT e)⟩
def smdX (G : Pg) (fn : Fn) (E : EvX) (CL : List (Str × Nat)) (bd bf : List Stmt → Loc → XM (Fl × Loc)) : Smd → Loc → XM (Fl × Loc) :=
 let v := fun ρ e => E.val false fn.sc CL ρ e
 let t := fun ρ e => E.tst false fn.sc CL ρ e
 fun
 | .expr e => fun ρ => XM.bind (v ρ e) fun _ => XM.pure (.next, ρ)
 | .ret e => fun ρ => XM.bind (v ρ e) fun y => XM.pure (.ret y, ρ)
 | .ret0 => fun ρ => XM.pure (.ret .none, ρ)
 | .pass => fun ρ => XM.pure (.next, ρ)
 | .ite c b o => fun ρ => XM.bind (t ρ c) fun x => iteX x (bd b ρ) (bd o ρ)
 | .asC x elt z iter ifs csc => match clos CL csc.names [] with
  | some CL' => fun ρ => XM.bind (v ρ iter) fun y => XM.bind (liftX (still fun st => itOf y st)) fun it => XM.bind (compX z (fun ρ' => testsX (E.tst true csc CL' ρ') ifs) (fun ρ' => E.val true csc CL' ρ' elt) it turns 0 []) fun l => XM.bind (liftX (newO (.list l))) fun u => XM.bind (liftX (storeM fn.sc CL x u ρ)) fun ρ' => XM.pure (.next, ρ')
  | none => fun _ => stopX
 | .asN x e => fun ρ => XM.bind (v ρ e) fun y => XM.bind (liftX (storeM fn.sc CL x y ρ)) fun ρ' => XM.pure (.next, ρ')
 | .asA o x e => fun ρ => XM.bind (v ρ e) fun u => XM.bind (v ρ o) fun y => XM.bind (liftX (setAttrM G x y u)) fun _ => XM.pure (.next, ρ)
 | .asS o i e => fun ρ => XM.bind (v ρ e) fun u => XM.bind (v ρ o) fun y => XM.bind (v ρ i) fun j => liftX (fun st => (setItV y j u st).map fun st' => (.ok (.next, ρ), st'))
 | .asT xs e => fun ρ => XM.bind (v ρ e) fun y => XM.bind (noErrX (liftX (unpackM fn.sc CL xs y ρ))) fun ρ' => XM.pure (.next, ρ')
 | .raise_ f e => raiseX G (fun ρ => v ρ f) (fun ρ => v ρ e)
 | .tryE e x su => tryX (fun ρ => v ρ e) (fun _ ρ => XM.pure ρ) (hdlC G fn.sc x) (bf su)
 | .tryN z e x su => tryX (fun ρ => v ρ e) (fun y ρ => liftX (storeM fn.sc CL z y ρ)) (hdlC G fn.sc x) (bf su)
 | .while_ c b => whileX (fun ρ => t ρ c) (bd b) turns
 | .forN x it b => fun ρ => XM.bind (v ρ it) fun y => XM.bind (liftX (still fun st => itOf y st)) fun it => forX (fun y ρ => liftX (storeM fn.sc CL x y ρ)) (bd b) it turns 0 ρ
 | .forT xs it b => fun ρ => XM.bind (v ρ it) fun y => XM.bind (liftX (still fun st => itOf y st)) fun it => forX (fun y ρ => liftX (unpackM fn.sc CL xs y ρ)) (bd b) it turns 0 ρ
 | .no => fun _ => stopX
noncomputable def stX (G : Pg) (fn : Fn) (E : Bool → EvX) (CL : List (Str × Nat)) : Nat → Bool → Stmt → Loc → XM (Fl × Loc)
 | 0 => fun _ _ _ => stopX
 | d + 1 => fun q s => smdX G fn (E q) CL (seqX (stX G fn E CL d q)) (seqX (stX G fn E CL d false)) (planS fn q s)
noncomputable def addX (os : Sto) : XM Nat
 | ⟨st, ds, dc, cs⟩ => some (.ok st.length, ⟨st ++ os, ds, dc, cs⟩)
def fnX' (fn : Fn) (body : List (Str × Nat) → Loc → XM (Fl × Loc)) (args : List V) : XM V :=
 match Nat.ble fn.names.length (args.length + fn.dfl.length) && Nat.ble args.length fn.names.length with
 | true =>
  let binds := fn.names.zip (args ++ fn.dfl.drop (args.length + fn.dfl.length - fn.names.length))
  let cs := (cellsFrom 0 fn.sc.names []).map (·.1)
  XM.bind (addX (cellsV cs (bindCV fn.sc binds []))) fun k => XM.bind (body (clV cs k) (bindLV fn.sc binds [])) fun p => XM.pure (retV p.1)
 | false => stopX
def clsX (C : Addr) (init : List V → XM V) (args : List V) : XM V :=
 XM.bind (addX [.inst C []]) fun k => XM.bind (noErrX (init (.hnd k :: args))) fun y => match y with
  | .none => XM.pure (.hnd k)
  | _ => stopX
def lamCallX (ev : List (Str × Nat) → Loc → XM V) (params : Arguments) (cl : List (Str × Nat)) (args : List V) : XM V :=
 match Nat.beq args.length params.args.length with
 | true => ev cl ((params.args.map (·.arg)).zip args)
 | false => stopX
def jof (jl : List Nat) (n k : Nat) : Nat := match Nat.blt k jl.length with
 | true => jl.getD k 0
 | false => match Nat.blt k far with
  | true => n + (k - jl.length)
  | false => k
noncomputable def okJ (n : Nat) : List Nat → Bool
 | [] => true
 | k :: r => Nat.blt k n && r.all (fun j => !Nat.beq j k) && okJ n r
noncomputable def putAll (j : Nat → Nat) : List Nat → Sto → Sto → Sto
 | k :: r, o :: os, a => putAll j r os (a.set k (o.mp j))
 | [], os, a => a ++ os.map (O.mp j)
 | _ :: _, [], a => a
noncomputable def isTab : O → Bool
 | .tab _ => true
 | _ => false
noncomputable def tabsFix (k : Nat) : List Nat → Sto → Bool
 | jk :: r, o :: os => (!isTab o || Nat.beq jk k) && tabsFix (k + 1) r os
 | [], os => os.all (fun o => !isTab o)
 | _ :: _, [] => true
noncomputable def putRaw : List Nat → Sto → Sto → Sto
 | k :: r, o :: os, a => putRaw r os (a.set k o)
 | [], os, a => a ++ os
 | _ :: _, [], a => a
def CalC (jl : List Nat) (n : Nat) (o : Orc) (vs : List V) (a : Sto) (r : Except Addr V) (a' : Sto) : Prop := V.mps (jof jl n) o.vs = vs ∧ o.a.map (O.mp (jof jl n)) = a ∧ o.r.map (V.mp (jof jl n)) = r ∧ o.a'.map (O.mp (jof jl n)) = a' ∧ (Nat.ble o.a'.length far && tabsFix 0 jl o.a') = true
def callOrc (c : Nat) (q : Bool) (f : Addr) (vs : List V) (k : Cal) (st : Sto) : Option (Sto × Prop) :=
 match Nat.beq f k.o.f && (q == k.o.q) && Nat.ble k.o.need c && Nat.beq k.jl.length k.o.a.length && Nat.ble k.jl.length k.a.length && okJ st.length k.jl && tabsFix 0 k.jl k.o.a with
 | true => some (putRaw k.jl k.a st, CalC k.jl st.length k.o vs (k.jl.map fun i => (st[i]?).getD default) k.r k.a)
 | false => none
noncomputable def pushX (k : Nat) (l : List V) : XM V
 | ⟨st, ds, dc, cs⟩ => some (.ok .none, ⟨st.set k (.list l), ds, dc, cs⟩)
def appX1 (m k : Nat) (l' : List V) : XM V := fun x => match x.st[k]? with
 | some (.list l) => iteX (Nat.ble (l.length + m) sizeLine) (pushX k (l ++ l')) stopX x
 | _ => none
def appX (args : List V) : XM V := match args with
 | [.hnd k, y] => appX1 0 k [y]
 | _ => stopX
def extX (args : List V) : XM V := match args with
 | [.hnd k, y] => match y.tup? with
  | some l => appX1 l.length k l
  | none => stopX
 | _ => stopX
def popF (k : Nat) (st : Sto) : Option V := (lstAt st k).bind fun l => if l.length ≤ sizeLine then l.getLast?.map fun y => .tup [.lstK l.dropLast, y] else none
noncomputable def pop2 : List V → Option (List V × V)
 | [u, y] => match u with
  | .lstK l => some (l, y)
  | _ => none
 | _ => none
def popY (k : Nat) (v : V) : XM V := match v.tup?.bind pop2 with
 | some p => fun ⟨st, ds, dc, cs⟩ => some (.ok p.2, ⟨st.set k (.list p.1), ds, dc, cs⟩)
 | none => stopX
def popX : List V → XM V
 | [.hnd k] => XM.bind (askV (popF k)) (popY k)
 | _ => stopX
def bodyX (G : Pg) (cf : Bool → V → List V → XM V) (fn : Fn) (q : Bool) (CL : List (Str × Nat)) (ρ : Loc) : XM (Fl × Loc) := seqX (stX G fn (fun q => evX G cf fn q deep) CL deep q) fn.body ρ
def lamBodyX (G : Pg) (cf : Bool → V → List V → XM V) (qual : Str) (sc : Scope) (q : Bool) (body : Expr) (CL : List (Str × Nat)) (ρ : Loc) : XM V := (evX G cf (lamFn qual sc) q deep).val false sc CL ρ body
def globX (G : Pg) (F : Fs) (cf : Bool → V → List V → XM V) (q : Bool) (a : Addr) (args : List V) : XM V := match F.fns a with
 | some fn => fnX' fn (bodyX G cf fn q) args
 | none => match F.inits a with
  | some i => match F.fns i with
   | some fn => clsX a (fnX' fn (bodyX G cf fn q)) args
   | none => stopX
  | none => stopX
def orcX (c : Nat) (q : Bool) (a : Addr) (args : List V) (m : XM V) : XM V
 | ⟨st, ds, dc, cs⟩ => match dc with
  | [] => m ⟨st, ds, dc, cs⟩
  | k :: dc' => match Nat.beq a k.o.f with
   | true => match callOrc c q a args k st with
    | some (st', p) => some (k.r, ⟨st', ds, dc', p ∧ cs⟩)
    | none => none
   | false => m ⟨st, ds, dc, cs⟩
def biV (q : Bool) (f : V) (args : List V) (st : Sto) : Option V := match f with
 | .bi id => biP q id args st
 | .ty id => tyP id args st
 | _ => none
theorem callB_biV {q : Bool} {f : V} {args : List V} {st : Sto} : (callB q f args st).map (·.1) = biV q f args st := by
 unfold callB biV
 cases f <;> first | rfl | (dsimp only; rw [Option.map_map]; exact Option.map_id')
def biX (q : Bool) (f : V) (args : List V) : XM V := askV fun st => biV q f args st
noncomputable def callX (G : Pg) (F : Fs) : Nat → Bool → V → List V → XM V
 | 0, _, _, _ => stopX
 | n + 1, q, f, args => match f with
  | .glob a => orcX (n + 1) q a args (globX G F (callX G F n) q a args)
  | .hnd k => fun x => match x.st[k]? with
   | some (.lam params body sc qual cl) => match lamOk params sc with
    | true => lamCallX (lamBodyX G (callX G F n) qual sc q body) params cl args x
    | false => none
   | _ => none
  | .bi id => match id == "list.append" with
   | true => appX args
   | false => match id == "list.pop" with
    | true => popX args
    | false => match id == "list.extend" with
     | true => extX args
     | false => match id == "dict.get" with
      | true => liftX (callC q (.bi id) args)
      | false => biX q (.bi id) args
  | .ty id => biX q (.ty id) args
  | _ => stopX
def MS {α β : Type} (mp : (Nat → Nat) → α → β) (m : (Nat → Nat) → M β) (a : Sto) (r : Except Addr α) (a' : Sto) : Prop :=
 ∀ e b, Sim a'.length e a b → ∃ b', m e b = some (r.map (mp e), b') ∧ Nx a'.length e a b a' b'
def CS (cf : Bool → V → List V → M V) (q : Bool) (f : V) (vs : List V) (a : Sto) (r : Except Addr V) (a' : Sto) : Prop :=
 MS V.mp (fun e => cf q (f.mp e) (V.mps e vs)) a r a'
def OrcOk (G : Pg) (F : Fs) (o : Orc) : Prop := ∀ n, CS (callF G F (n + o.need)) o.q (.glob o.f) o.vs o.a o.r o.a'
def Good (x : XS) : Prop := x.cs
def OK (G : Pg) (F : Fs) (x : XS) : Prop := ∀ p ∈ x.dc, OrcOk G F p.o
structure TrX (G : Pg) (F : Fs) (N : Nat) (e : Nat → Nat) {α β : Type} (mp : α → β) (m : XM α) (m' : M β) : Prop where
 g : ∀ x y x', m x = some (y, x') → (Good x' → Good x) ∧ (OK G F x → OK G F x') ∧ x.st.length ≤ x'.st.length
 t : ∀ x y x' b, m x = some (y, x') → Good x' → OK G F x → x'.st.length ≤ N → Sim N e x.st b → ∃ b', m' b = some (y.map mp, b') ∧ Nx N e x.st b x'.st b'
def Fl.mp (e : Nat → Nat) : Fl → Fl
 | .ret y => .ret (y.mp e)
 | .next => .next
 | .brk => .brk
 | .cont => .cont
def mpF (e : Nat → Nat) (p : Fl × Loc) : Fl × Loc := (p.1.mp e, mpP e p.2)
def mpM (e : Nat → Nat) (p : V × List V) : V × List V := (p.1.mp e, V.mps e p.2)
section
variable {G : Pg} {F : Fs} {N : Nat} {e : Nat → Nat} {α β γ δ : Type} {mp : α → β} {mq : γ → δ}
theorem TrX.pure {y : α} : TrX G F N e mp (XM.pure y) (M.pure (mp y)) :=
 ⟨fun x y x' h => by induction h using E2; exact ⟨id, id, Nat.le_refl _⟩, fun x y x' b h g o _ S => by induction h using E2; exact ⟨b, rfl, .refl S⟩⟩
theorem TrX.stop {m' : M β} : TrX G F N e mp stopX m' := ⟨fun x y x' h => (by exact noS h), fun x y x' b h => (by exact noS h)⟩
theorem bindX_some {m : XM α} {f : α → XM γ} {x : XS} {r : Except Addr γ} {x' : XS} {P : Prop} (h : XM.bind m f x = some (r, x')) (k : ∀ y x1, m x = some (.ok y, x1) → f y x1 = some (r, x') → P) (k2 : ∀ C, m x = some (.error C, x') → r = .error C → P) : P := by
 unfold XM.bind at h
 cases e : m x with
 | none => rw [e] at h; exact noS h
 | some p =>
  obtain ⟨r1, x1⟩ := p
  rw [e] at h
  cases r1 with
  | ok y => exact k y x1 e h
  | error C => exact k2 C (e.trans (congrArg some (congrArg (Prod.mk (Except.error C)) (Prod.mk.inj (sInj h)).2))) (Prod.mk.inj (sInj h)).1.symm
theorem gTrans {x x1 x' : XS} (a1 : (Good x1 → Good x) ∧ (OK G F x → OK G F x1) ∧ x.st.length ≤ x1.st.length) (a2 : (Good x' → Good x1) ∧ (OK G F x1 → OK G F x') ∧ x1.st.length ≤ x'.st.length) :
  (Good x' → Good x) ∧ (OK G F x → OK G F x') ∧ x.st.length ≤ x'.st.length := ⟨fun z => a1.1 (a2.1 z), fun z => a2.2.1 (a1.2.1 z), Nat.le_trans a1.2.2 a2.2.2⟩
theorem TrX.bind {m : XM α} {m' : M β} {f : α → XM γ} {f' : β → M δ} (h1 : TrX G F N e mp m m') (h2 : ∀ y, TrX G F N e mq (f y) (f' (mp y))) : TrX G F N e mq (XM.bind m f) (M.bind m' f') := by
 refine ⟨fun x y x' h => ?_, fun x y x' b h g o hl S => ?_⟩
 ·exact bindX_some h (fun y1 x1 e1 h => gTrans (h1.g _ _ _ e1) ((h2 _).g _ _ _ h)) fun C e1 _ => h1.g _ _ _ e1
 ·refine bindX_some h (fun y1 x1 e1 h => ?_) fun C e1 hr => ?_
  ·have a2 := (h2 _).g _ _ _ h
   obtain ⟨b1, e2, N1⟩ := h1.t _ _ _ _ e1 (a2.1 g) o (Nat.le_trans a2.2.2 hl) S
   obtain ⟨b2, e3, N2⟩ := (h2 _).t _ _ _ _ h g ((h1.g _ _ _ e1).2.1 o) hl N1.S
   refine ⟨b2, ?_, N1.trans S N2⟩
   unfold M.bind
   rw [e2]; exact e3
  ·obtain ⟨b1, e2, N1⟩ := h1.t _ _ _ _ e1 g o hl S
   refine ⟨b1, ?_, N1⟩
   unfold M.bind
   rw [e2, hr]; rfl
theorem liftX_some {m : M α} {x : XS} {z : Except Addr α} {x' : XS} (h : liftX m x = some (z, x')) : m x.st = some (z, x'.st) ∧ x'.dc = x.dc ∧ x'.cs = x.cs ∧ x.st.length ≤ x'.st.length := by
 obtain ⟨st, ds, dc, cs⟩ := x
 unfold liftX at h
 dsimp only at h
 cases e1 : m st with
 | none => rw [e1] at h; exact noS h
 | some p =>
  obtain ⟨r1, s1⟩ := p
  rw [e1] at h
  cases r1 with
  | error C => exact noS h
  | ok y1 =>
   dsimp only at h
   cases e2 : Nat.ble st.length s1.length with
   | false => rw [e2] at h; exact noS h
   | true => rw [e2] at h; induction h using E2; exact ⟨rfl, rfl, rfl, Nat.le_of_ble_eq_true e2⟩
theorem TrX.lift {m : M α} {m' : M β} (T : Tr N e mp m m') : TrX G F N e mp (liftX m) m' := by
 refine ⟨fun x y x' h => ?_, fun x y x' b h g o hl S => ?_⟩
 ·obtain ⟨_, h2, h3, h4⟩ := liftX_some h
  exact ⟨fun g => by unfold Good at *; rw [← h3]; exact g, fun o p hp => o p (by rw [← h2]; exact hp), h4⟩
 ·exact T _ _ _ _ S (liftX_some h).1 hl
theorem noErrX_some {m : XM α} {x : XS} {r : Except Addr α} {x' : XS} {P : Prop} (h : noErrX m x = some (r, x')) (k : ∀ y, r = .ok y → m x = some (.ok y, x') → P) : P := by
 unfold noErrX at h
 cases e : m x with
 | none => rw [e] at h; exact noS h
 | some p =>
  obtain ⟨r1, x1⟩ := p
  rw [e] at h
  cases r1 with
  | ok y => induction h using E2; exact k y rfl e
  | error C => exact noS h
theorem TrX.noErr {m : XM α} {m' : M β} (T : TrX G F N e mp m m') : TrX G F N e mp (noErrX m) (Mine.noErr m') :=
 ⟨fun x y x' h => noErrX_some h fun y _ h => T.g _ _ _ h, fun x y x' b h g o hl S => noErrX_some h fun y hr h => by
  obtain ⟨b', e1, N1⟩ := T.t x _ x' b h g o hl S
  exact ⟨b', by unfold Mine.noErr; rw [e1, hr]; rfl, N1⟩⟩
theorem askB_ok {b : Bool} {x : XS} {r : Except Addr Bool} {x' : XS} {P : Prop} (h : askB b x = some (r, x')) (k : ∀ v, r = .ok v → x'.st = x.st → x'.dc = x.dc → (Good x' → Good x ∧ b = v) → P) : P := by
 obtain ⟨st, ds, dc, cs⟩ := x
 unfold askB at h
 cases ds with
 | nil => induction h using E2; exact k _ rfl rfl rfl fun g => ⟨g, rfl⟩
 | cons p ds =>
  obtain ⟨i, d⟩ := p
  cases i with
  | succ i => induction h using E2; exact k _ rfl rfl rfl fun g => ⟨g, rfl⟩
  | zero =>
   cases d with
   | b v => induction h using E2; exact k _ rfl rfl rfl fun g => ⟨g.2, g.1⟩
   | v y => exact noS h
theorem okX_some {o : Option V} {x : XS} {r : Except Addr V} {x' : XS} {P : Prop} (h : okX o x = some (r, x')) (k : ∀ v, r = .ok v → o = some v → x' = x → P) : P := by
 cases o with
 | none => exact noS h
 | some v => induction h using E2; exact k v rfl rfl rfl
theorem askV_ok {f : Sto → Option V} {x : XS} {r : Except Addr V} {x' : XS} {P : Prop} (h : askV f x = some (r, x')) (k : ∀ v, r = .ok v → x'.st = x.st → x'.dc = x.dc → (Good x' → Good x ∧ f x.st = some v) → P) : P := by
 obtain ⟨st, ds, dc, cs⟩ := x
 unfold askV at h
 cases ds with
 | nil => exact okX_some h fun v e1 e2 e3 => by subst e3; exact k v e1 rfl rfl fun g => ⟨g, e2⟩
 | cons p ds =>
  obtain ⟨i, d⟩ := p
  cases i with
  | succ i => exact okX_some h fun v e1 e2 e3 => by subst e3; exact k v e1 rfl rfl fun g => ⟨g, e2⟩
  | zero =>
   cases d with
   | b v => exact noS h
   | v y => induction h using E2; exact k _ rfl rfl rfl fun g => ⟨g.2, g.1⟩
theorem gKeep {x x' : XS} (hs : x'.st = x.st) (hd : x'.dc = x.dc) (hg : Good x' → Good x) : (Good x' → Good x) ∧ (OK G F x → OK G F x') ∧ x.st.length ≤ x'.st.length :=
 ⟨hg, fun o p hp => o p (by rw [← hd]; exact hp), by rw [hs]; exact Nat.le_refl _⟩
theorem TrX.askV {f : Sto → Option V} {f' : Sto → Option V} (h : ∀ a b y, Sim N e a b → f a = some y → f' b = some (y.mp e)) : TrX G F N e (V.mp e) (Mine.askV f) (Mine.still f') :=
 ⟨fun x y x' h1 => askV_ok h1 fun v _ hs hd hg => gKeep hs hd fun z => (hg z).1, fun x y x' b h1 g o hl S => askV_ok h1 fun v hr hs hd hg => by
  rw [hs, hr]
  exact ⟨b, by unfold Mine.still; rw [h _ _ _ S (hg g).2]; rfl, .refl S⟩⟩
theorem TrX.ask {b : Bool} {f : Bool → XM α} {m' : M β} (h : TrX G F N e mp (f b) m') (h0 : ∀ v x y x', f v x = some (y, x') → (Good x' → Good x) ∧ (OK G F x → OK G F x') ∧ x.st.length ≤ x'.st.length) : TrX G F N e mp (XM.bind (askB b) f) m' := by
 refine ⟨fun x y x' h1 => ?_, fun x y x' b' h1 g o hl S => ?_⟩
 ·exact bindX_some h1 (fun v x1 e1 h1 => askB_ok e1 fun v' _ hs hd hg => gTrans (gKeep hs hd fun z => (hg z).1) (h0 _ _ _ _ h1)) fun C e1 _ => askB_ok e1 fun v' hr _ _ _ => by cases hr
 ·refine bindX_some h1 (fun v x1 e1 h1 => askB_ok e1 fun v' hr hs hd hg => ?_) fun C e1 _ => askB_ok e1 fun v' hr _ _ _ => by cases hr
  obtain ⟨g1, hb⟩ := hg ((h0 _ _ _ _ h1).1 g)
  cases hr
  subst hb
  rw [← hs] at S ⊢
  exact h.t _ _ _ _ h1 g (fun p hp => o p (by rw [← hd]; exact hp)) hl S
theorem TrX.ite {b : Bool} {m1 m2 : XM α} {m1' m2' : M β} (h1 : TrX G F N e mp m1 m1') (h2 : TrX G F N e mp m2 m2') : TrX G F N e mp (iteX b m1 m2) (iteM b m1' m2') :=
 .ask (by cases b; exact h2; exact h1) fun v => by cases v; exact h2.g; exact h1.g
theorem truth_tr {y : V} : TrX G F N e id (liftX (still fun st => truthV y st)) (still fun st => truthV (y.mp e) st) := .lift (.still fun a b t S h => truthV_tr S h)
theorem TrX.must {b : Bool} {y : V} {m' : M V} (h : b = true → m' = M.pure (y.mp e)) : TrX G F N e (V.mp e) (mustX b y) m' := by
 refine .ask ?_ fun v => by cases v <;> (intro x y x' h; cases h; try exact ⟨id, id, Nat.le_refl _⟩)
 cases b
 ·exact .stop
 ·rw [h rfl]; exact .pure
theorem binX_tr {op : Operator} {x y : V} : TrX G F N e (V.mp e) (binX op x y) (binM op (x.mp e) (y.mp e)) := by
 unfold binX
 split
 ·split
  ·exact .must fun h => by funext st; show ofOpt ((if _ then _ else none : Option Int).map V.int) st = _; rw [if_pos h]; rfl
  ·exact .must fun h => by
    have h := of_decide_eq_false (by simpa only [Bool.not_eq_true'] using h)
    funext st; show ofOpt ((if _ then none else _ : Option Int).map V.int) st = _; rw [if_neg h]; rfl
  ·exact .must fun h => by
    have h := of_decide_eq_false (by simpa only [Bool.not_eq_true'] using h)
    funext st; show ofOpt ((if _ then none else _ : Option Int).map V.int) st = _; rw [if_neg h]; rfl
  ·exact .must fun h => by funext st; show ofOpt ((if _ then _ else none : Option Int).map V.int) st = _; rw [if_pos h]; rfl
  ·exact .lift binM_tr
 ·exact .lift binM_tr
theorem still_bool {f : Sto → Option Bool} : still f = M.bind (still fun st => (f st).map V.bool) fun y => match y with
  | .bool t => M.pure t
  | _ => Mine.stop := by
 funext st
 unfold still M.bind
 dsimp only
 cases h : f st <;> rfl
theorem TrX.allT {f : Expr → XM Bool} {f' : Expr → M Bool} (h : ∀ x, TrX G F N e id (f x) (f' x)) : ∀ l, TrX G F N e id (allX f l) (Mine.allT f' l)
 | [] => .pure
 | x :: r => .bind (h x) fun b => .ite (TrX.allT h r) .pure
theorem TrX.anyT {f : Expr → XM Bool} {f' : Expr → M Bool} (h : ∀ x, TrX G F N e id (f x) (f' x)) : ∀ l, TrX G F N e id (anyX f l) (Mine.anyT f' l)
 | [] => .pure
 | x :: r => .bind (h x) fun b => .ite .pure (TrX.anyT h r)
theorem TrX.tests {f : Expr → XM Bool} {f' : Expr → M Bool} (h : ∀ x, TrX G F N e id (f x) (f' x)) : ∀ l, TrX G F N e id (testsX f l) (testsM f' l)
 | [] => .pure
 | x :: r => .bind (h x) fun b => .ite (TrX.tests h r) .pure
theorem TrX.andV {f : Expr → XM V} {f' : Expr → M V} (h : ∀ x, TrX G F N e (V.mp e) (f x) (f' x)) : ∀ l x, TrX G F N e (V.mp e) (andX f x l) (Mine.andV f' x l)
 | [], x => h x
 | y :: r, x => .bind (h x) fun a => .bind truth_tr fun b => .ite (TrX.andV h r y) .pure
theorem TrX.evList {f : Expr → XM V} {f' : Expr → M V} (h : ∀ x, TrX G F N e (V.mp e) (f x) (f' x)) : ∀ l, TrX G F N e (V.mps e) (evListX f l) (Mine.evList f' l)
 | [] => .pure
 | x :: r => .bind (h x) fun a => .bind (TrX.evList h r) fun l => .pure
theorem TrX.part {f : Expr → XM V} {f' : Expr → M V} (h : ∀ x, TrX G F N e (V.mp e) (f x) (f' x)) : ∀ o, TrX G F N e (V.mp e) (partX f o) (partE f' o)
 | none => .pure
 | some x => h x
theorem TrX.pairs {f : Expr → XM V} {f' : Expr → M V} (h : ∀ x, TrX G F N e (V.mp e) (f x) (f' x)) : ∀ (ks : List (Option Expr)) (vs : List Expr), TrX G F N e (mpP e) (pairsX f ks vs) (pairsM f' ks vs)
 | some k :: ks, v :: vs => .bind (h k) fun a => .bind (h v) fun b => .bind (TrX.pairs h ks vs) fun l => by
  cases a <;> first | exact .pure | exact .stop
 | [], [] => .pure
 | [], _ :: _ => .stop
 | some _ :: _, [] => .stop
 | none :: _, _ => .stop
theorem TrX.of_eq {m : XM α} {m' m2 : M β} (h : TrX G F N e mp m m') (hm : m' = m2) : TrX G F N e mp m m2 := hm ▸ h
theorem itM_trX {it : It} {i : Nat} : TrX G F N e (Option.map (V.mp e)) (liftX (still fun st => itM it i st)) (still fun st => itM (it.mp e) i st) := .lift (.still fun a b t S h => itM_tr S h)
theorem itOf_trX {y : V} : TrX G F N e (It.mp e) (liftX (still fun st => itOf y st)) (still fun st => itOf (y.mp e) st) := .lift (.still fun a b t S h => itOf_tr S h)
theorem TrX.comp {x : Str} {mt : Loc → XM Bool} {mt' : Loc → M Bool} {me : Loc → XM V} {me' : Loc → M V} {it : It} (ht : ∀ ρ, TrX G F N e id (mt ρ) (mt' (mpP e ρ))) (he : ∀ ρ, TrX G F N e (V.mp e) (me ρ) (me' (mpP e ρ))) :
  ∀ n i acc, TrX G F N e (V.mps e) (compX x mt me it n i acc) (compM x mt' me' (it.mp e) n i (V.mps e acc))
 | 0, i, acc => .stop
 | n + 1, i, acc => .bind itM_trX fun o => by
  cases o with
  | none => exact .pure
  | some y =>
   refine .bind (ht [(x, y)]).noErr fun b => .ite (.bind (he [(x, y)]).noErr fun z => ?_) (TrX.comp ht he n (i + 1) acc)
   split
   ·rename_i hb
    have hb' : acc.length < sizeLine := by rw [Nat.blt] at hb; exact Nat.le_of_ble_eq_true hb
    refine (TrX.comp ht he n (i + 1) (acc ++ [z])).of_eq ?_
    funext st
    rw [mps_length, if_pos hb', mps_append]; rfl
   ·exact .stop
theorem TrX.seq {f : Stmt → Loc → XM (Fl × Loc)} {f' : Stmt → Loc → M (Fl × Loc)} (h : ∀ s ρ, TrX G F N e (mpF e) (f s ρ) (f' s (mpP e ρ))) : ∀ l ρ, TrX G F N e (mpF e) (seqX f l ρ) (seqM f' l (mpP e ρ))
 | [], ρ => .pure
 | x :: r, ρ => .bind (h x ρ) fun p => by
  obtain ⟨fl, ρ'⟩ := p
  cases fl with
  | next => exact TrX.seq h r ρ'
  | brk => exact .pure
  | cont => exact .pure
  | ret y => exact .pure
theorem TrX.while {mt : Loc → XM Bool} {mt' : Loc → M Bool} {mb : Loc → XM (Fl × Loc)} {mb' : Loc → M (Fl × Loc)} (ht : ∀ ρ, TrX G F N e id (mt ρ) (mt' (mpP e ρ))) (hb : ∀ ρ, TrX G F N e (mpF e) (mb ρ) (mb' (mpP e ρ))) :
  ∀ n ρ, TrX G F N e (mpF e) (whileX mt mb n ρ) (whileM mt' mb' n (mpP e ρ))
 | 0, ρ => .stop
 | n + 1, ρ => .bind (ht ρ).noErr fun b => .ite (.bind (hb ρ).noErr fun p => by
  obtain ⟨fl, ρ'⟩ := p
  cases fl with
  | next => exact TrX.while ht hb n ρ'
  | brk => exact .pure
  | cont => exact TrX.while ht hb n ρ'
  | ret y => exact .pure) .pure
theorem TrX.for {asg : V → Loc → XM Loc} {asg' : V → Loc → M Loc} {mb : Loc → XM (Fl × Loc)} {mb' : Loc → M (Fl × Loc)} {it : It} (ha : ∀ y ρ, TrX G F N e (mpP e) (asg y ρ) (asg' (y.mp e) (mpP e ρ))) (hb : ∀ ρ, TrX G F N e (mpF e) (mb ρ) (mb' (mpP e ρ))) :
  ∀ n i ρ, TrX G F N e (mpF e) (forX asg mb it n i ρ) (forM asg' mb' (it.mp e) n i (mpP e ρ))
 | 0, i, ρ => .stop
 | n + 1, i, ρ => .bind itM_trX fun o => by
  cases o with
  | none => exact .pure
  | some y =>
   refine .bind (ha y ρ).noErr fun ρ1 => .bind (hb ρ1) fun p => ?_
   obtain ⟨fl, ρ'⟩ := p
   cases fl with
   | next => exact TrX.for ha hb n (i + 1) ρ'
   | brk => exact .pure
   | cont => exact TrX.for ha hb n (i + 1) ρ'
   | ret y => exact .pure
theorem pairOf_tr {y : V} {p : V × V} (h : pairOf y = some p) : pairOf (y.mp e) = some (p.1.mp e, p.2.mp e) := bindE h fun l h1 h => by
 unfold pairOf
 rw [tup_mp, h1]
 exact arg2_mp h
theorem TrX.dcomp {x1 x2 : Str} {mk mv : Loc → XM V} {mk' mv' : Loc → M V} {it : It} (hk : ∀ ρ, TrX G F N e (V.mp e) (mk ρ) (mk' (mpP e ρ))) (hv : ∀ ρ, TrX G F N e (V.mp e) (mv ρ) (mv' (mpP e ρ))) :
  ∀ n i acc, TrX G F N e (mpP e) (dcompX x1 x2 mk mv it n i acc) (dcompM x1 x2 mk' mv' (it.mp e) n i (mpP e acc))
 | 0, i, acc => .stop
 | n + 1, i, acc => .bind itM_trX fun o => by
  cases o with
  | none => exact .pure
  | some y =>
   dsimp only
   cases hp : pairOf y with
   | none => exact .stop
   | some p =>
    refine TrX.of_eq (m' := M.bind (Mine.noErr (mk' [(x1, p.1.mp e), (x2, p.2.mp e)])) fun a => M.bind (Mine.noErr (mv' [(x1, p.1.mp e), (x2, p.2.mp e)])) fun b st => a.str?.bind fun s => if (mpP e acc).length ≤ sizeLine then dcompM x1 x2 mk' mv' (it.mp e) n (i + 1) (putD s b (mpP e acc)) st else none) (.bind (hk [(x1, p.1), (x2, p.2)]).noErr fun a => .bind (hv [(x1, p.1), (x2, p.2)]).noErr fun b => ?_) ?_
    ·cases hs : a.str? with
     | none => exact .stop
     | some s =>
      dsimp only
      cases hb : Nat.ble acc.length sizeLine with
      | false => exact .stop
      | true =>
       refine (TrX.dcomp hk hv n (i + 1) (putD s b acc)).of_eq ?_
       funext st
       rw [str_mp, hs, putD_mp, mpP_length]
       exact (if_pos (Nat.le_of_ble_eq_true hb)).symm
    ·funext st
     show _ = (pairOf (y.mp e)).bind _
     rw [pairOf_tr hp]; rfl
theorem try_some {mv : Loc → XM V} {fin : V → Loc → XM Loc} {xc : Option Addr} {mh : Loc → XM (Fl × Loc)} {ρ : Loc} {x x' : XS} {r : Except Addr (Fl × Loc)} {P : Prop} (h : tryX mv fin xc mh ρ x = some (r, x'))
  (k : ∀ y x1, mv ρ x = some (.ok y, x1) → XM.bind (noErrX (fin y ρ)) (fun ρ' => XM.pure (.next, ρ')) x1 = some (r, x') → P) (k2 : ∀ C x1, mv ρ x = some (.error C, x1) → xc = some C → noErrX (mh ρ) x1 = some (r, x') → P) : P := by
 unfold tryX at h
 cases e : mv ρ x with
 | none => rw [e] at h; exact noS h
 | some p =>
  obtain ⟨r1, x1⟩ := p
  rw [e] at h
  cases r1 with
  | ok y => exact k y x1 e h
  | error C =>
   dsimp only at h
   cases xc with
   | none => exact noS h
   | some D =>
    dsimp only at h
    cases hb : Nat.beq D C with
    | false => rw [hb] at h; exact noS h
    | true => rw [hb] at h; exact k2 C x1 e (congrArg some (Nat.eq_of_beq_eq_true hb)) h
theorem TrX.try {mv : Loc → XM V} {mv' : Loc → M V} {fin : V → Loc → XM Loc} {fin' : V → Loc → M Loc} {xc : Option Addr} {mh : Loc → XM (Fl × Loc)} {mh' : Loc → M (Fl × Loc)} {ρ : Loc} (hv : TrX G F N e (V.mp e) (mv ρ) (mv' (mpP e ρ))) (hf : ∀ y, TrX G F N e (mpP e) (fin y ρ) (fin' (y.mp e) (mpP e ρ))) (hh : TrX G F N e (mpF e) (mh ρ) (mh' (mpP e ρ))) : TrX G F N e (mpF e) (tryX mv fin xc mh ρ) (tryVM mv' fin' xc mh' (mpP e ρ)) := by
 have hk : ∀ y, TrX G F N e (mpF e) (XM.bind (noErrX (fin y ρ)) fun ρ' => XM.pure (.next, ρ')) (M.bind (Mine.noErr (fin' (y.mp e) (mpP e ρ))) fun ρ' => M.pure (.next, ρ')) := fun y => .bind (hf y).noErr fun ρ' => .pure
 refine ⟨fun x y x' h => ?_, fun x y x' b h g o hl S => ?_⟩
 ·exact try_some h (fun y1 x1 e1 h => gTrans (hv.g _ _ _ e1) ((hk y1).g _ _ _ h)) fun C x1 e1 _ h => gTrans (hv.g _ _ _ e1) (hh.noErr.g _ _ _ h)
 ·refine try_some h (fun y1 x1 e1 h => ?_) fun C x1 e1 hx h => ?_
  ·have a2 := (hk y1).g _ _ _ h
   obtain ⟨b1, e2, N1⟩ := hv.t _ _ _ _ e1 (a2.1 g) o (Nat.le_trans a2.2.2 hl) S
   obtain ⟨b2, e3, N2⟩ := (hk y1).t _ _ _ _ h g ((hv.g _ _ _ e1).2.1 o) hl N1.S
   refine ⟨b2, ?_, N1.trans S N2⟩
   unfold tryVM
   rw [e2]; exact e3
  ·have a2 := hh.noErr.g _ _ _ h
   obtain ⟨b1, e2, N1⟩ := hv.t _ _ _ _ e1 (a2.1 g) o (Nat.le_trans a2.2.2 hl) S
   obtain ⟨b2, e3, N2⟩ := hh.noErr.t _ _ _ _ h g ((hv.g _ _ _ e1).2.1 o) hl N1.S
   refine ⟨b2, ?_, N1.trans S N2⟩
   unfold tryVM
   rw [e2]
   exact (if_pos hx).trans e3
theorem excOf_mp (f : V) : excOf G (f.mp e) = excOf G f := by cases f <;> rfl
theorem TrX.raise {mf me : Loc → XM V} {mf' me' : Loc → M V} {ρ : Loc} (hf : TrX G F N e (V.mp e) (mf ρ) (mf' (mpP e ρ))) (he : TrX G F N e (V.mp e) (me ρ) (me' (mpP e ρ))) : TrX G F N e (mpF e) (raiseX G mf me ρ) (raiseM G mf' me' (mpP e ρ)) :=
 .bind hf fun f => .bind he fun _ => by
  cases hc : excOf G f with
  | none => exact .stop
  | some C => exact ⟨fun x y x' h => by induction h using E2; exact ⟨id, id, Nat.le_refl _⟩, fun x y x' b h g o hl S => by
    induction h using E2
    exact ⟨b, by rw [excOf_mp, hc]; rfl, .refl S⟩⟩
theorem cmpX_tr {a b : Sto} (S : Sim N e a b) {op : CmpOp} {x y : V} {t : Bool} (h : cmpX op x y a = some t) : cmpX op (x.mp e) (y.mp e) b = some t := by
 unfold cmpX at h ⊢
 rw [cmpV_mp]
 cases h1 : cmpV op x y with
 | some r => rw [h1] at h; exact h
 | none =>
  rw [h1] at h
  cases op with
  | Eq => exact eqL_tr S h
  | Is => exact isX_mp h
  | IsNot => exact mapE (o := isX x y) (f := fun x => !x) h fun r e1 e2 => (congrArg (Option.map fun x => !x) (isX_mp e1)).trans (congrArg some e2)
  | _ => exact noS h
theorem cmpX_map {a b : Sto} (S : Sim N e a b) {op : CmpOp} {x y t : V} (h : (cmpX op x y a).map V.bool = some t) : (cmpX op (x.mp e) (y.mp e) b).map V.bool = some (t.mp e) := by
 obtain ⟨u, h1, rfl⟩ := Option.map_eq_some_iff.mp h
 rw [cmpX_tr S h1]; rfl
theorem ne0_map {a b : Sto} (S : Sim N e a b) {x t : V} (h : (ne0V x a).map V.bool = some t) : (ne0V (x.mp e) b).map V.bool = some (t.mp e) := by
 obtain ⟨u, h1, h2⟩ := Option.map_eq_some_iff.mp h
 refine bindE h1 fun d hd h1 => ?_
 unfold ne0V
 rw [datV_tr S hd]
 dsimp only [Option.bind_some]
 rw [h1, ← h2]; rfl
structure EvTr (G : Pg) (F : Fs) (N : Nat) (e : Nat → Nat) (r : EvX) (r' : Ev) : Prop where
 val : ∀ inC sc CL ρ x, TrX G F N e (V.mp e) (r.val inC sc CL ρ x) (r'.val inC sc (mpC e CL) (mpP e ρ) x)
 tst : ∀ inC sc CL ρ x, TrX G F N e id (r.tst inC sc CL ρ x) (r'.tst inC sc (mpC e CL) (mpP e ρ) x)
def CfTr (G : Pg) (F : Fs) (N : Nat) (e : Nat → Nat) (cf : Bool → V → List V → XM V) (cf' : Bool → V → List V → M V) : Prop :=
 ∀ q f vs, TrX G F N e (V.mp e) (cf q f vs) (cf' q (f.mp e) (V.mps e vs))
theorem callM_trX {cf : V → List V → XM V} {cf' : V → List V → M V} (hcf : ∀ f vs, TrX G F N e (V.mp e) (cf f vs) (cf' (f.mp e) (V.mps e vs))) {f : V} {first : List V} {as : XM (List V)} {as' : M (List V)} (h : TrX G F N e (V.mps e) as as') : TrX G F N e (V.mp e) (callMX G cf f first as) (callM G cf' (f.mp e) (V.mps e first) as') := by
 refine .bind h fun l => ?_
 have T := hcf f (first ++ l)
 refine ⟨fun x y x' hx => ?_, fun x y x' b hx g o hl S => ?_⟩
 ·split at hx
  ·exact T.g _ _ _ hx
  ·exact noS hx
 ·split at hx
  ·rename_i hc
   obtain ⟨b', e1, N1⟩ := T.t _ _ _ _ hx g o hl S
   refine ⟨b', ?_, N1⟩
   rw [if_pos (callable_tr S hc), ← mps_append]; exact e1
  ·exact noS hx
theorem clos_mp0 {CL : List (Str × Nat)} {l : List (Str × NameKind)} {out : List (Str × Nat)} (h : clos CL l [] = some out) : clos (mpC e CL) l [] = some (mpC e out) := clos_mp l [] out h
theorem valX_tr (hG : GFlat G) {cf : Bool → V → List V → XM V} {cf' : Bool → V → List V → M V} (hcf : CfTr G F N e cf cf') {fn : Fn} {q : Bool} {r : EvX} {r' : Ev} (hr : EvTr G F N e r r') {inC : Bool} {sc : Scope} {CL : List (Str × Nat)} {ρ : Loc} (c : Cmd) :
  TrX G F N e (V.mp e) (valX G cf fn q r inC sc CL ρ c) (valS G cf' fn q r' inC sc (mpC e CL) (mpP e ρ) c) := by
 have v := fun x => hr.val inC sc CL ρ x
 have t := fun x => hr.tst inC sc CL ρ x
 cases c with
 | const x => exact .lift (.ofOpt fun y h => constV_mp h ▸ h ▸ rfl)
 | name x => exact .lift (nameM_tr hG)
 | bin l op x => exact .bind (v l) fun a => .bind (v x) fun b => binX_tr
 | un op x => exact .bind (v x) fun a => .lift (.still fun a b t S h => unV_tr S h)
 | cmp l op x => exact .bind (v l) fun a => .bind (v x) fun b => .askV fun a b t S h => cmpX_map S h
 | and_ x xs => exact .andV v xs x
 | ite c a b => exact .bind (t c) fun x => .ite (v a) (v b)
 | tup es =>
  exact .bind (.evList v es) fun l => .lift (.still fun a b t S h => by
   split at h
   ·rename_i hl; cases h; rw [if_pos (by rw [mps_length]; exact hl)]; rfl
   ·cases h)
 | list es =>
  exact .bind (.evList v es) fun l => .lift (fun a b r a' S h hl => by
   have h : (if l.length ≤ sizeLine then newO (.list l) a else none) = some (r, a') := h
   show ∃ b', (if (V.mps e l).length ≤ sizeLine then newO (.list (V.mps e l)) b else none) = _ ∧ _
   split at h
   ·rename_i hn
    rw [if_pos (by rw [mps_length]; exact hn)]
    exact newO_tr (o := .list l) (by intro q z; cases z) a b r a' S h hl
   ·cases h)
 | attr o x => exact .bind (v o) fun a => .lift (.still fun a b t S h => attrM_tr S h)
 | slice o lo hi st => exact .bind (v o) fun a => .bind (.part v lo) fun x => .bind (.part v hi) fun y => .bind (.part v st) fun z => .lift sliceM_tr
 | sub o i => exact .bind (v o) fun a => .bind (v i) fun b => .askV fun a b t S h => getItV_tr S h
 | subL es i =>
  refine .bind (.evList v es) fun l => ?_
  cases hb : Nat.ble l.length sizeLine with
  | false => exact .stop
  | true =>
   refine (TrX.bind (f' := fun b => still fun _ => b.int?.bind fun j => lget j (V.mps e l)) (v i) fun b => .askV (f := fun _ => b.int?.bind fun j => lget j l) (f' := fun _ => (b.mp e).int?.bind fun j => lget j (V.mps e l)) fun a b' t S h => bindE (o := b.int?) h fun j h1 h => by rw [int_mp, h1]; exact lget_tr h).of_eq ?_
   funext st
   exact (if_pos (by rw [mps_length]; exact Nat.le_of_ble_eq_true hb)).symm
 | meth o x es => exact .bind (v o) fun y => .bind (mp := mpM e) (.lift (.still fun a b t S h => methM_tr S h)) fun p => callM_trX (hcf q) (.evList v es)
 | call f es => exact .bind (v f) fun g => callM_trX (first := []) (hcf q) (.evList v es)
 | dict0 => exact .lift (newO_tr (o := .sdict []) (by intro q z; cases z))
 | dict k ks vs =>
  exact .bind (.pairs v (k :: ks) vs) fun l => .lift (fun a b r a' S h hl => by
   have hk : (mpP e l).map (·.1) = l.map (·.1) := by unfold mpP; rw [List.map_map]; rfl
   have h : (if (l.map (·.1)).Nodup then newO (.sdict l) a else none) = some (r, a') := h
   show ∃ b', (if ((mpP e l).map (·.1)).Nodup then newO (.sdict (mpP e l)) b else none) = _ ∧ _
   split at h
   ·rename_i hn
    rw [if_pos (by rw [hk]; exact hn)]
    exact newO_tr (o := .sdict l) (by intro q z; cases z) a b r a' S h hl
   ·cases h)
 | lam params body lsc => exact .lift lamM_tr
 | comp elt x iter ifs csc =>
  show TrX G F N e (V.mp e) (match clos CL csc.names [] with | some CL' => _ | none => _) (match clos (mpC e CL) csc.names [] with | some CL' => _ | none => _)
  cases hc : clos CL csc.names [] with
  | none => exact .stop
  | some CL' =>
   rw [clos_mp0 hc]
   exact .bind (v iter) fun y => .bind itOf_trX fun it => .bind (.comp (fun ρ => .tests (fun x => hr.tst true csc CL' ρ x) ifs) (fun ρ => hr.val true csc CL' ρ elt) turns 0 []) fun l => .lift (newO_tr (o := .list l) (by intro q z; cases z))
 | dcomp kx vx x1 x2 iter csc =>
  show TrX G F N e (V.mp e) (match clos CL csc.names [] with | some CL' => _ | none => _) (match clos (mpC e CL) csc.names [] with | some CL' => _ | none => _)
  cases hc : clos CL csc.names [] with
  | none => exact .stop
  | some CL' =>
   rw [clos_mp0 hc]
   exact .bind (v iter) fun y => .bind itOf_trX fun it => .bind (.dcomp (fun ρ => hr.val true csc CL' ρ kx) (fun ρ => hr.val true csc CL' ρ vx) turns 0 []) fun l => .lift (newO_tr (o := .sdict l) (by intro q z; cases z))
 | no => exact .stop
theorem tstX_tr {r : EvX} {r' : Ev} (hr : EvTr G F N e r r') {inC : Bool} {sc : Scope} {CL : List (Str × Nat)} {ρ : Loc} (c : Tmd) :
  TrX G F N e id (tstX r inC sc CL ρ c) (tstS r' inC sc (mpC e CL) (mpP e ρ) c) := by
 have v := fun x => hr.val inC sc CL ρ x
 have t := fun x => hr.tst inC sc CL ρ x
 cases c with
 | not_ x => exact .bind (t x) fun b => .pure
 | and_ xs => exact .allT t xs
 | or_ xs => exact .anyT t xs
 | ite c a b => exact .bind (t c) fun x => .ite (t a) (t b)
 | cmp l op x => exact .bind (v l) fun a => .bind (v x) fun b => TrX.of_eq (.bind (mp := V.mp e) (.askV (f' := fun st => (cmpX op (a.mp e) (b.mp e) st).map V.bool) fun a b t S h => cmpX_map S h) fun y => (by cases y <;> first | exact .stop | exact .pure)) still_bool.symm
 | ne0 l => exact .bind (v l) fun a => TrX.of_eq (.bind (mp := V.mp e) (.askV (f' := fun st => (ne0V (a.mp e) st).map V.bool) fun a b t S h => ne0_map S h) fun y => (by cases y <;> first | exact .stop | exact .pure)) still_bool.symm
 | plain x => exact .bind (v x) fun a => truth_tr
 | no => exact .stop
theorem evX_tr (hG : GFlat G) {cf : Bool → V → List V → XM V} {cf' : Bool → V → List V → M V} (hcf : CfTr G F N e cf cf') {fn : Fn} {q : Bool} : ∀ d, EvTr G F N e (evX G cf fn q d) (evS G cf' fn q d)
 | 0 => ⟨fun _ _ _ _ _ => .stop, fun _ _ _ _ _ => .stop⟩
 | d + 1 => ⟨fun inC sc CL ρ x => valX_tr hG hcf (evX_tr hG hcf d) _, fun inC sc CL ρ x => tstX_tr (evX_tr hG hcf d) _⟩
theorem smdX_tr {fn : Fn} {q : Bool} {r : EvX} {r' : Ev} (hr : EvTr G F N e r r') {CL : List (Str × Nat)} {bd bf : List Stmt → Loc → XM (Fl × Loc)} {bd' bf' : List Stmt → Loc → M (Fl × Loc)} (hb : ∀ b ρ, TrX G F N e (mpF e) (bd b ρ) (bd' b (mpP e ρ))) (hf : ∀ b ρ, TrX G F N e (mpF e) (bf b ρ) (bf' b (mpP e ρ))) (c : Smd) (ρ : Loc) :
  TrX G F N e (mpF e) (smdX G fn r CL bd bf c ρ) (smdS G fn.sc q r' (mpC e CL) bd' bf' c (mpP e ρ)) := by
 have v := fun ρ x => hr.val false fn.sc CL ρ x
 have t := fun ρ x => hr.tst false fn.sc CL ρ x
 cases c with
 | expr x => exact .bind (v ρ x) fun _ => .pure
 | ret x => exact .bind (v ρ x) fun y => .pure
 | ret0 => exact .pure
 | pass => exact .pure
 | ite c b o => exact .bind (t ρ c) fun x => .ite (hb b ρ) (hb o ρ)
 | asC x elt z iter ifs csc =>
  unfold smdX smdS
  dsimp only
  cases hc : clos CL csc.names [] with
  | none => exact .stop
  | some CL' =>
   rw [clos_mp0 hc]
   exact .bind (v ρ iter) fun y => .bind itOf_trX fun it => .bind (.comp (fun ρ => .tests (fun x => hr.tst true csc CL' ρ x) ifs) (fun ρ => hr.val true csc CL' ρ elt) turns 0 []) fun l => .bind (.lift (newO_tr (o := .list l) (by intro q z; cases z))) fun u => .bind (.lift storeM_tr) fun ρ' => .pure
 | asN x y => exact .bind (v ρ y) fun y => .bind (.lift storeM_tr) fun ρ' => .pure
 | asA o x y => exact .bind (v ρ y) fun u => .bind (v ρ o) fun y => .bind (.lift setAttrM_tr) fun _ => .pure
 | asS o i y =>
  exact .bind (v ρ y) fun u => .bind (v ρ o) fun y => .bind (v ρ i) fun j => .lift (fun a b r a' S h hl => by
   obtain ⟨s, h1, h2⟩ := Option.map_eq_some_iff.mp h
   cases h2
   obtain ⟨b', h3, N⟩ := setItV_tr S h1
   exact ⟨b', by rw [h3]; rfl, N⟩)
 | asT xs y => exact .bind (v ρ y) fun y => .bind (TrX.noErr (.lift unpackM_tr)) fun ρ' => .pure
 | raise_ f x => exact .raise (mf := fun ρ => r.val false fn.sc CL ρ f) (mf' := fun ρ => r'.val false fn.sc (mpC e CL) ρ f) (me := fun ρ => r.val false fn.sc CL ρ x) (me' := fun ρ => r'.val false fn.sc (mpC e CL) ρ x) (v ρ f) (v ρ x)
 | tryE x z su => exact .try (mv := fun ρ => r.val false fn.sc CL ρ x) (mv' := fun ρ => r'.val false fn.sc (mpC e CL) ρ x) (fin := fun _ ρ => XM.pure ρ) (fin' := fun _ ρ => M.pure ρ) (v ρ x) (fun _ => .pure) (hf su ρ)
 | tryN z x y su => exact .try (mv := fun ρ => r.val false fn.sc CL ρ x) (mv' := fun ρ => r'.val false fn.sc (mpC e CL) ρ x) (fin := fun y ρ => liftX (storeM fn.sc CL z y ρ)) (fin' := fun y ρ => storeM fn.sc (mpC e CL) z y ρ) (v ρ x) (fun _ => .lift storeM_tr) (hf su ρ)
 | while_ c b => exact .while (mt' := fun ρ => r'.tst false fn.sc (mpC e CL) ρ c) (fun ρ => t ρ c) (fun ρ => hb b ρ) turns ρ
 | forN x it b => exact .bind (v ρ it) fun y => .bind itOf_trX fun it => .for (fun y ρ => .lift storeM_tr) (fun ρ => hb b ρ) turns 0 ρ
 | forT xs it b => exact .bind (v ρ it) fun y => .bind itOf_trX fun it => .for (fun y ρ => .lift unpackM_tr) (fun ρ => hb b ρ) turns 0 ρ
 | no => exact .stop
theorem stX_tr {fn : Fn} {r : Bool → EvX} {r' : Bool → Ev} (hr : ∀ q, EvTr G F N e (r q) (r' q)) {CL : List (Str × Nat)} : ∀ d q s ρ, TrX G F N e (mpF e) (stX G fn r CL d q s ρ) (stS G fn r' (mpC e CL) d q s (mpP e ρ))
 | 0, q, s, ρ => .stop
 | d + 1, q, s, ρ => smdX_tr (q := q) (hr q) (fun b ρ => .seq (fun s ρ => stX_tr hr d q s ρ) b ρ) (fun b ρ => .seq (fun s ρ => stX_tr hr d false s ρ) b ρ) _ ρ
end
section
variable {N : Nat} {e j : Nat → Nat} {a b : Sto}
theorem Sim.adds : ∀ (os : Sto) {a b : Sto}, Sim N e a b → (a ++ os).length ≤ N → (∀ o ∈ os, ∀ q, o ≠ .tab q) → Nx N e a b (a ++ os) (b ++ os.map (O.mp e))
 | [], a, b, S, _, _ => by simpa using Nx.refl S
 | o :: os, a, b, S, hl, ho => by
  have n1 := S.push o (by simp at hl ⊢; lia) (ho o List.mem_cons_self)
  have n2 := Sim.adds os n1.S (by simp at hl ⊢; lia) fun o h => ho o (List.mem_cons_of_mem _ h)
  have := n1.trans S n2
  simpa using this
theorem bindLV_mp (sc : Scope) : ∀ (bs ρ : Loc), mpP e (bindLV sc bs ρ) = bindLV sc (mpP e bs) (mpP e ρ)
 | [], ρ => rfl
 | (n, y) :: r, ρ => by
  show mpP e (bindLV sc r _) = bindLV sc (mpP e r) _
  rw [bindLV_mp sc r]
  congr 1
  have : ∀ o : Option NameKind, mpP e (match o with | some .local => putF n y ρ | _ => ρ) = match o with | some .local => putF n (y.mp e) (mpP e ρ) | _ => mpP e ρ := fun o => by
   split
   ·rw [putF_mp]
   ·rfl
  exact this _
theorem bindCV_mp (sc : Scope) : ∀ (bs ρ : Loc), mpP e (bindCV sc bs ρ) = bindCV sc (mpP e bs) (mpP e ρ)
 | [], ρ => rfl
 | (n, y) :: r, ρ => by
  show mpP e (bindCV sc r _) = bindCV sc (mpP e r) _
  rw [bindCV_mp sc r]
  congr 1
  have : ∀ o : Option NameKind, mpP e (match o with | some .local => ρ | _ => putF n y ρ) = match o with | some .local => mpP e ρ | _ => putF n (y.mp e) (mpP e ρ) := fun o => by
   split
   ·rfl
   ·rw [putF_mp]
  exact this _
theorem cellsV_mp (cs : List Str) (cv : Loc) : (cellsV cs cv).map (O.mp e) = cellsV cs (mpP e cv) := by
 unfold cellsV
 rw [List.map_map]
 refine List.map_congr_left fun n _ => ?_
 simp only [Function.comp, O.mp, mpP_lookup]
theorem cellsV_tab {cs : List Str} {cv : Loc} : ∀ o ∈ cellsV cs cv, ∀ q, o ≠ .tab q := by
 intro o h q z
 obtain ⟨n, _, rfl⟩ := List.mem_map.mp h
 cases z
theorem clV_mp : ∀ (cs : List Str) (k k' : Nat), (∀ i, i < cs.length → e (k + i) = k' + i) → mpC e (clV cs k) = clV cs k'
 | [], _, _, _ => rfl
 | n :: r, k, k', h => by
  show (n, e k) :: mpC e (clV r (k + 1)) = (n, k') :: clV r (k' + 1)
  rw [clV_mp r (k + 1) (k' + 1) fun i hi => by
   have := h (i + 1) (by simp; lia)
   rw [show k + 1 + i = k + (i + 1) by lia, this]; lia]
  have := h 0 (by simp)
  rw [show e k = k' from this]
theorem zip_mp (names : List Str) (l : List V) : mpP e (names.zip l) = names.zip (V.mps e l) := by
 unfold mpP
 rw [mps_map]
 induction names generalizing l with
 | nil => rfl
 | cons n r ih =>
  cases l with
  | nil => rfl
  | cons y l => simp [ih]
mutual
theorem mp_mp : ∀ y : V, (y.mp j).mp e = y.mp fun k => e (j k)
 | .tup l => by rw [V.mp, V.mp, V.mp, mps_mps]
 | .lstK l => by rw [V.mp, V.mp, V.mp, mps_mps]
 | .hnd _ => rfl
 | .none => rfl
 | .bool _ => rfl
 | .int _ => rfl
 | .str _ => rfl
 | .glob _ => rfl
 | .bi _ => rfl
 | .ty _ => rfl
 | .rng _ _ _ => rfl
theorem mps_mps : ∀ l : List V, V.mps e (V.mps j l) = V.mps (fun k => e (j k)) l
 | [] => rfl
 | y :: r => by rw [V.mps, V.mps, V.mps, mp_mp, mps_mps]
end
theorem mpP_mpP {κ : Type} (l : List (κ × V)) : mpP e (mpP j l) = mpP (fun k => e (j k)) l := by
 unfold mpP; rw [List.map_map]; exact List.map_congr_left fun p _ => by simp only [Function.comp, mp_mp]
theorem omp_mp (o : O) : (o.mp j).mp e = o.mp fun k => e (j k) := by
 cases o with
 | list l => simp only [O.mp, mps_mps]
 | sdict l => simp only [O.mp, mpP_mpP]
 | inst C l => simp only [O.mp, mpP_mpP]
 | cell v => cases v <;> simp [O.mp, mp_mp]
 | lam p b sc q cl => exact congrArg (O.lam p b sc q) (by simp [mpC])
 | tab q => rfl
theorem omp_tab {o : O} {q : Str} : o.mp e = .tab q ↔ o = .tab q := by cases o <;> simp [O.mp]
end
section
variable {G : Pg} {F : Fs} {N : Nat} {e : Nat → Nat}
theorem retV_mp (fl : Fl) : retV (fl.mp e) = (retV fl).mp e := by cases fl <;> rfl
def FFlat (F : Fs) : Prop := ∀ a fn, F.fns a = some fn → flatVs fn.dfl = true
theorem drop_flat : ∀ {l : List V} (n : Nat), flatVs l = true → flatVs (l.drop n) = true
 | _, 0, h => h
 | [], _ + 1, _ => rfl
 | _ :: r, n + 1, h => drop_flat n (by rw [flatVs, Bool.and_eq_true] at h; exact h.2)
theorem fnX_tr {fn : Fn} {body : List (Str × Nat) → Loc → XM (Fl × Loc)} {body' : List (Str × Nat) → Loc → M (Fl × Loc)} (hd : flatVs fn.dfl = true) (hb : ∀ CL ρ, TrX G F N e (mpF e) (body CL ρ) (body' (mpC e CL) (mpP e ρ))) (args : List V) :
  TrX G F N e (V.mp e) (fnX' fn body args) (fnM fn body' (V.mps e args)) := by
 unfold fnX'
 split
 ·rename_i hc
  rw [Bool.and_eq_true] at hc
  have hc1 := Nat.le_of_ble_eq_true hc.1
  have hc2 := Nat.le_of_ble_eq_true hc.2
  dsimp only
  refine ⟨fun x y x' h => ?_, fun x y x' b h g o hl S => ?_⟩
  ·refine bindX_some h (fun k x1 e1 h => ?_) fun C e1 _ => by cases e1
   induction e1 using E3
   refine bindX_some h (fun p x2 e2 h => ?_) fun C e2 _ => ?_
   ·induction h using E2
    have a2 := (hb _ _).g _ _ _ e2
    exact ⟨fun z => a2.1 z, fun z => a2.2.1 z, Nat.le_trans (by simp) a2.2.2⟩
   ·have a2 := (hb _ _).g _ _ _ e2
    exact ⟨fun z => a2.1 z, fun z => a2.2.1 z, Nat.le_trans (by simp) a2.2.2⟩
  ·refine bindX_some h (fun k x1 e1 h => ?_) fun C e1 _ => by cases e1
   induction e1 using E3
   obtain ⟨r2, e2, hr⟩ : ∃ r2, body _ _ ⟨x.st ++ cellsV _ (bindCV fn.sc _ []), x.ds, x.dc, x.cs⟩ = some (r2, x') ∧ y = r2.map fun p => retV p.1 := bindX_some h (fun p x2 e2 h => by induction h using E2; exact ⟨_, e2, rfl⟩) fun C e2 hr => ⟨_, e2, hr⟩
   have gg := (hb _ _).g _ _ _ e2
   have hl1 := Nat.le_trans gg.2.2 hl
   have N1 := S.adds _ hl1 cellsV_tab
   obtain ⟨b2, e3, N2⟩ := (hb _ _).t _ _ _ _ e2 g o hl N1.S
   refine ⟨b2, ?_, N1.trans S N2⟩
   unfold fnM
   rw [mps_length, if_pos ⟨hc1, hc2⟩]
   dsimp only
   have hz : fn.names.zip (V.mps e args ++ fn.dfl.drop (args.length + fn.dfl.length - fn.names.length)) = mpP e (fn.names.zip (args ++ fn.dfl.drop (args.length + fn.dfl.length - fn.names.length))) := by
    rw [zip_mp, mps_append, flat_mps (drop_flat _ hd)]
   rw [hz]
   rw [cellsV_mp, bindCV_mp, bindLV_mp] at e3
   rw [clV_mp _ _ b.length fun i hi => by
    have := S.nxt (x.st.length + i) (by lia) (by simp only [List.length_append, cellsV, List.length_map] at hl1 hi; lia)
    rw [this]; lia] at e3
   have e3 : body' _ (bindLV _ _ []) (b ++ cellsV _ (bindCV _ _ [])) = _ := e3
   rw [e3, hr]
   cases r2 with
   | ok p => exact congrArg some (congrArg (·, b2) (congrArg Except.ok (retV_mp p.1)))
   | error C => rfl
 ·exact .stop
end
end Mine
namespace Mine
section
variable {G : Pg} {F : Fs} {N : Nat} {e : Nat → Nat}
theorem clsX_tr {C : Addr} {init : List V → XM V} {init' : List V → M V} (h : ∀ args, TrX G F N e (V.mp e) (init args) (init' (V.mps e args))) (args : List V) : TrX G F N e (V.mp e) (clsX C init args) (clsM C init' (V.mps e args)) := by
 have key : ∀ {x : XS} {r : Except Addr V} {x' : XS} {P : Prop}, clsX C init args x = some (r, x') → (init (.hnd x.st.length :: args) ⟨x.st ++ [.inst C []], x.ds, x.dc, x.cs⟩ = some (.ok .none, x') → r = .ok (.hnd x.st.length) → P) → P := fun {x r x' P} h1 k => by
  refine bindX_some h1 (fun k1 x1 e1 h2 => ?_) fun C e1 _ => by cases e1
  induction e1 using E3
  refine bindX_some h2 (fun z x2 e2 h3 => noErrX_some e2 fun y hy e2 => ?_) fun C e2 _ => noErrX_some e2 fun y hy _ => by cases hy
  cases hy
  cases z with
  | none => induction h3 using E2; exact k e2 rfl
  | _ => exact noS h3
 refine ⟨fun x y x' h1 => key h1 fun e2 _ => ?_, fun x y x' b h1 g o hl S => key h1 fun e2 hr => ?_⟩
 ·have a2 := (h _).g _ _ _ e2
  exact ⟨fun z => a2.1 z, fun z => a2.2.1 z, Nat.le_trans (by simp) a2.2.2⟩
 ·have a2 := (h _).g _ _ _ e2
  have hl1 : (x.st ++ [O.inst C []]).length ≤ N := Nat.le_trans a2.2.2 hl
  have N1 := S.push (.inst C []) hl1 (by intro q z; cases z)
  obtain ⟨b2, e3, N2⟩ := (h _).t _ _ _ _ e2 g o hl N1.S
  refine ⟨b2, ?_, N1.trans S N2⟩
  unfold clsM
  have hk : e x.st.length = b.length := S.at (by simp at hl1; lia)
  have e3 : init' (.hnd (e x.st.length) :: V.mps e args) (b ++ [.inst C []]) = some (.ok .none, b2) := e3
  rw [← hk, e3, hr]
  rfl
theorem lamCallX_tr {ev : List (Str × Nat) → Loc → XM V} {ev' : List (Str × Nat) → Loc → M V} (h : ∀ CL ρ, TrX G F N e (V.mp e) (ev CL ρ) (ev' (mpC e CL) (mpP e ρ))) {params : Arguments} {cl : List (Str × Nat)} (args : List V) :
  TrX G F N e (V.mp e) (lamCallX ev params cl args) (lamCallM ev' params (mpC e cl) (V.mps e args)) := by
 unfold lamCallX
 split
 ·rename_i hn
  have hn := Nat.eq_of_beq_eq_true hn
  refine TrX.of_eq (h cl _) ?_
  funext st
  unfold lamCallM
  rw [mps_length, if_pos hn, zip_mp]
 ·exact .stop
theorem callD_app {q : Bool} {args : List V} {st : Sto} : callD q (.bi "list.append") args st = appP args st := by simp only [callD, if_true]
theorem appX1_some {m k : Nat} {l' : List V} {x x' : XS} {r : Except Addr V} {P : Prop} (h1 : appX1 m k l' x = some (r, x')) (kk : ∀ l, x.st[k]? = some (.list l) → r = .ok .none → x'.st = x.st.set k (.list (l ++ l')) → x'.dc = x.dc → (Good x' → Good x ∧ l.length + m ≤ sizeLine) → P) : P := by
 unfold appX1 at h1
 cases hk : x.st[k]? with
 | none => rw [hk] at h1; exact noS h1
 | some o =>
  rw [hk] at h1
  cases o with
  | list l =>
   refine bindX_some h1 (fun v x1 e1 h2 => askB_ok e1 fun v' hv hs hd hg => ?_) fun C e1 _ => askB_ok e1 fun v hv _ _ _ => by cases hv
   cases hv
   cases v with
   | false => exact noS h2
   | true =>
    induction h2 using E2
    exact kk l hk rfl (by rw [hs]) hd fun g => ⟨(hg g).1, Nat.le_of_ble_eq_true (hg g).2⟩
  | _ => exact noS h1
theorem appX1_tr {q : Bool} {m k : Nat} {l' : List V} {id : String} {as : List V} (h : ∀ b l, lstAt b (e k) = some (V.mps e l) → l.length + m ≤ sizeLine → callD q (.bi id) as b = some (.none, b.set (e k) (.list (V.mps e l ++ V.mps e l')))) : TrX G F N e (V.mp e) (appX1 m k l') (callC q (.bi id) as) := by
 refine ⟨fun x z x' h1 => appX1_some h1 fun l hk _ hs hd hg => ?_, fun x z x' b h1 g o hl S => appX1_some h1 fun l hk hr hs hd hg => ?_⟩
 ·exact ⟨fun z => (hg z).1, fun o p hp => o p (by rw [← hd]; exact hp), by simp [hs]⟩
 ·have gk := S.get _ _ hk
  have N1 := S.put (.list (l ++ l')) (lt_of_get hk) (by intro q z; cases z)
  refine ⟨b.set (e k) (O.mp e (.list (l ++ l'))), ?_, by rw [hs]; exact N1⟩
  show (callD q (.bi id) as b).map _ = _
  rw [h b l (by unfold lstAt; rw [gk]; rfl) (hg g).2, hr, O.mp, mps_append]; rfl
theorem appX_tr {q : Bool} (args : List V) : TrX G F N e (V.mp e) (appX args) (callC q (.bi "list.append") (V.mps e args)) := by
 unfold appX
 split
 ·refine appX1_tr fun b l h1 h2 => ?_
  rw [callD_app]
  show (lstAt b _).bind _ = _
  rw [h1]
  show (if (V.mps e l).length ≤ sizeLine then _ else none) = _
  rw [mps_length, if_pos (Nat.le_trans (Nat.le_add_right _ 0) h2)]; rfl
 ·exact .stop
set_option tactic.hygienic true in
theorem extX_tr {q : Bool} (args : List V) : TrX G F N e (V.mp e) (extX args) (callC q (.bi "list.extend") (V.mps e args)) := by
 unfold extX
 split
 ·rename_i k y
  cases hy : y.tup? with
  | none => exact .stop
  | some l' =>
   refine appX1_tr fun b l h1 h2 => ?_
   rw [show callD q (.bi "list.extend") (V.mps e [.hnd k, y]) b = extP (V.mps e [.hnd k, y]) b by simp [callD]]
   show (lstAt b _).bind _ = _
   rw [h1]
   show ((y.mp e).tup?).bind _ = _
   rw [tup_mp, hy]
   show (if (V.mps e l).length + (V.mps e l').length ≤ sizeLine then _ else none) = _
   rw [mps_length, mps_length, if_pos h2]
 ·exact .stop
theorem popY_some {k : Nat} {v : V} {x x' : XS} {r : Except Addr V} {P : Prop} (h : popY k v x = some (r, x')) (kk : ∀ p, v.tup?.bind pop2 = some p → r = .ok p.2 → x'.st = x.st.set k (.list p.1) → x'.dc = x.dc → x'.cs = x.cs → P) : P := by
 unfold popY at h
 cases hp : v.tup?.bind pop2 with
 | none => rw [hp] at h; exact noS h
 | some p =>
  rw [hp] at h
  induction h using E2
  exact kk p hp rfl rfl rfl rfl
set_option tactic.hygienic true in
theorem popX_tr {q : Bool} (args : List V) : TrX G F N e (V.mp e) (popX args) (callC q (.bi "list.pop") (V.mps e args)) := by
 unfold popX
 split
 ·rename_i k
  refine ⟨fun x z x' h1 => bindX_some h1 (fun v x1 e1 h2 => askV_ok e1 fun v' hv hs hd hg => popY_some h2 fun p _ _ h3 h4 h5 => ?_) fun C e1 _ => askV_ok e1 fun v hv _ _ _ => (by cases hv),
   fun x z x' b h1 g o hl S => bindX_some h1 (fun v x1 e1 h2 => askV_ok e1 fun v' hv hs hd hg => popY_some h2 fun p e3 hr h3 h4 h5 => ?_) fun C e1 _ => askV_ok e1 fun v hv _ _ _ => (by cases hv)⟩
  ·exact ⟨fun z => (hg (by unfold Good at *; rw [← h5]; exact z)).1, fun o p hp => o p (by rw [← hd, ← h4]; exact hp), by rw [h3, List.length_set, hs]; exact Nat.le_refl _⟩
  ·cases hv
   refine bindE (hg (by unfold Good at *; rw [← h5]; exact g)).2 fun l0 g1 g2 => iteS g2 fun hn g2 => mapE g2 fun y0 g3 g4 => ?_
   rw [← g4] at e3
   have e3 := sInj e3
   rw [← e3] at h3 hr
   have N1 := S.put (.list l0.dropLast) (lt_of_get (lstAt_of g1)) (by intro q z; cases z)
   refine ⟨b.set (e k) (O.mp e (.list l0.dropLast)), ?_, by rw [h3, hs]; exact N1⟩
   show (callD q (.bi "list.pop") [.hnd (e k)] b).map _ = _
   have : popP [.hnd (e k)] b = some (y0.mp e, b.set (e k) (O.mp e (.list l0.dropLast))) := by
    show (lstAt b (e k)).bind _ = _
    rw [lstAt_tr S g1]
    show (if (V.mps e l0).length ≤ sizeLine then _ else none) = _
    rw [mps_length, if_pos hn, getLast_mps, g3, dropLast_mps]; rfl
   rw [show callD q (.bi "list.pop") [.hnd (e k)] b = popP [.hnd (e k)] b by simp [callD], this, hr]; rfl
 ·exact .stop
theorem biX_tr {q : Bool} {f : V} (args : List V) {m' : M V} (h : ∀ st, m' st = (callB q (f.mp e) (V.mps e args) st).map fun p => (.ok p.1, p.2)) : TrX G F N e (V.mp e) (biX q f args) m' := by
 refine ⟨fun x y x' h1 => askV_ok h1 fun v _ hs hd hg => gKeep hs hd fun z => (hg z).1, fun x y x' b h1 g o hl S => askV_ok h1 fun v hr hs hd hg => ?_⟩
 rw [hs, hr]
 refine mapE (callB_biV.trans (hg g).2) fun p h2 h3 => ?_
 obtain ⟨z, s⟩ := p
 obtain ⟨_, h4⟩ := callB_tr S h2
 exact ⟨b, by rw [h, h4, ← h3]; rfl, .refl S⟩
theorem okJ_lt {n : Nat} : ∀ {l : List Nat}, okJ n l = true → ∀ k ∈ l, k < n
 | [], _, k, h => by cases h
 | x :: r, hj, k, h => by
  unfold okJ at hj
  rw [Bool.and_eq_true, Bool.and_eq_true] at hj
  rcases List.mem_cons.mp h with rfl | h
  ·have := hj.1.1; rw [Nat.blt] at this; exact Nat.le_of_ble_eq_true this
  ·exact okJ_lt hj.2 k h
theorem okJ_nd {n : Nat} : ∀ {l : List Nat}, okJ n l = true → l.Nodup
 | [], _ => List.nodup_nil
 | x :: r, hj => by
  unfold okJ at hj
  rw [Bool.and_eq_true, Bool.and_eq_true] at hj
  refine List.nodup_cons.mpr ⟨fun hx => ?_, okJ_nd hj.2⟩
  have := List.all_eq_true.mp hj.1.2 x hx
  simp at this
theorem putAll_length {j : Nat → Nat} : ∀ (l : List Nat) (os a : Sto), l.length ≤ os.length → (putAll j l os a).length = a.length + (os.length - l.length)
 | k :: r, o :: os, a, h => by
  unfold putAll
  rw [putAll_length r os _ (by simp at h; exact h)]
  simp
 | [], os, a, _ => by unfold putAll; simp
 | _ :: _, [], a, h => by simp at h
theorem putAll_new {j : Nat → Nat} : ∀ (l : List Nat) (os a : Sto) (i : Nat), l.length ≤ i → (putAll j l os a)[a.length + (i - l.length)]? = (os[i]?).map (O.mp j)
 | k :: r, o :: os, a, i, h => by
  unfold putAll
  have := putAll_new (j := j) r os (a.set k (o.mp j)) (i - 1) (by simp at h; lia)
  rw [List.length_set] at this
  simp only [List.length_cons] at h ⊢
  rw [show a.length + (i - (r.length + 1)) = a.length + (i - 1 - r.length) by lia, this]
  obtain ⟨i', rfl⟩ : ∃ i', i = i' + 1 := ⟨i - 1, by lia⟩
  simp
 | [], os, a, i, _ => by
  unfold putAll
  rw [List.getElem?_append_right (by simp), List.getElem?_map]
  congr 2
  simp
 | _ :: r, [], a, i, h => by
  unfold putAll
  simp
theorem putAll_off {j : Nat → Nat} : ∀ (l : List Nat) (os a : Sto) (k : Nat), k < a.length → k ∉ l → (putAll j l os a)[k]? = a[k]?
 | x :: r, o :: os, a, k, h, hn => by
  unfold putAll
  simp only [List.mem_cons, not_or] at hn
  rw [putAll_off r os _ k (by simpa using h) hn.2, List.getElem?_set_ne (Ne.symm hn.1)]
 | [], os, a, k, h, _ => by unfold putAll; exact List.getElem?_append_left h
 | _ :: _, [], a, k, h, _ => rfl
theorem putAll_at {j : Nat → Nat} : ∀ (l : List Nat) (os a : Sto) (i k : Nat), l.Nodup → (∀ k ∈ l, k < a.length) → i < os.length → l[i]? = some k → (putAll j l os a)[k]? = (os[i]?).map (O.mp j)
 | x :: r, o :: os, a, i, k, nd, hl, ho, h => by
  unfold putAll
  obtain ⟨n1, n2⟩ := List.nodup_cons.mp nd
  cases i with
  | zero =>
   simp at h
   subst h
   have hx := hl x List.mem_cons_self
   rw [putAll_off r os _ x (by simpa using hx) n1]
   simp [hx]
  | succ i =>
   simp at h ho
   have := putAll_at (j := j) r os (a.set x (o.mp j)) i k n2 (fun k hk => by simpa using hl k (List.mem_cons_of_mem _ hk)) ho h
   simpa using this
 | [], os, a, i, k, _, _, _, h => by simp at h
 | _ :: _, [], a, i, k, _, _, ho, _ => by simp at ho
theorem tabsFix_at : ∀ (k : Nat) (l : List Nat) (os : Sto) (i : Nat) (q : Str), tabsFix k l os = true → os[i]? = some (.tab q) → l[i]? = some (k + i)
 | k, x :: r, o :: os, i, q, h, ho => by
  unfold tabsFix at h
  rw [Bool.and_eq_true] at h
  cases i with
  | zero =>
   simp at ho
   subst ho
   have := h.1
   simp [isTab] at this
   simp [this]
  | succ i =>
   simp at ho
   have := tabsFix_at (k + 1) r os i q h.2 ho
   simp [this]; lia
 | k, [], os, i, q, h, ho => by
  have : os.all (fun o => !isTab o) = true := by cases os <;> simpa [tabsFix] using h
  have := List.all_eq_true.mp this _ (List.mem_of_getElem? ho)
  simp [isTab] at this
 | k, _ :: _, [], i, q, h, ho => by simp at ho
theorem jof_in {jl : List Nat} {n i k : Nat} (h : jl[i]? = some k) : jof jl n i = k := by
 obtain ⟨hlt, hk⟩ := List.getElem?_eq_some_iff.mp h
 unfold jof
 have : Nat.blt i jl.length = true := by rw [Nat.blt]; exact Nat.ble_eq_true_of_le hlt
 rw [this]
 dsimp only
 simp [List.getD, h]
theorem jof_new {jl : List Nat} {n i : Nat} (h : jl.length ≤ i) (hf : i < far) : jof jl n i = n + (i - jl.length) := by
 unfold jof
 have : Nat.blt i jl.length = false := by
  rw [Nat.blt]; cases hb : Nat.ble (i + 1) jl.length
  ·rfl
  ·have := Nat.le_of_ble_eq_true hb; lia
 rw [this]
 have : Nat.blt i far = true := by rw [Nat.blt]; exact Nat.ble_eq_true_of_le hf
 dsimp only
 rw [this]
theorem jof_far {jl : List Nat} {n h : Nat} (hl : jl.length ≤ far) : jof jl n (far + h) = far + h := by
 unfold jof
 have : Nat.blt (far + h) jl.length = false := by
  rw [Nat.blt]; cases hb : Nat.ble (far + h + 1) jl.length
  ·rfl
  ·have := Nat.le_of_ble_eq_true hb; lia
 rw [this]
 have : Nat.blt (far + h) far = false := by
  rw [Nat.blt]; cases hb : Nat.ble (far + h + 1) far
  ·rfl
  ·have := Nat.le_of_ble_eq_true hb; lia
 dsimp only
 rw [this]
theorem nd_inj {l : List Nat} (h : l.Nodup) {i k : Nat} (hi : i < l.length) (hk : k < l.length) (e : l[i] = l[k]) : i = k := by
 have p := List.pairwise_iff_getElem.mp h
 rcases Nat.lt_trichotomy i k with q | q | q
 ·exact (p i k hi hk q e).elim
 ·exact q
 ·exact (p k i hk hi q e.symm).elim
section
variable {jl : List Nat} {i i' n L k : Nat} {P : Prop} {a st b os b' : Sto} {o : O}
theorem jof_case (hi : i < far) (h1 : ∀ k, jl[i]? = some k → k ∈ jl → jof jl n i = k → P) (h2 : jl.length ≤ i → jof jl n i = n + (i - jl.length) → P) : P :=
 (Nat.lt_or_ge i jl.length).elim (fun h => h1 _ (List.getElem?_eq_getElem h) (List.getElem_mem h) (jof_in (List.getElem?_eq_getElem h))) fun h => h2 h (jof_new h hi)
theorem jof_lt {M : Nat} (hlt : ∀ k ∈ jl, k < n) (hi : i < L) (hL : L ≤ far) (hN : n + (L - jl.length) ≤ M) : jof jl n i < M :=
 jof_case (Nat.lt_of_lt_of_le hi hL) (fun k _ m e => e ▸ Nat.lt_of_lt_of_le (hlt k m) (Nat.le_trans (Nat.le_add_right ..) hN)) fun g e => e ▸ Nat.lt_of_lt_of_le (Nat.add_lt_add_left (Nat.sub_lt_sub_right g hi) n) hN
theorem jof_inj (hlt : ∀ k ∈ jl, k < n) (hnd : jl.Nodup) (hi : i < far) (hi' : i' < far) (h : jof jl n i = jof jl n i') : i = i' :=
 jof_case (n := n) hi (fun k e m h1 => jof_case (n := n) hi' (fun k' e' m' h2 => (List.getElem?_inj (lt_of_get e) hnd).mp (e.trans (e'.trans (congrArg some (h2.symm.trans (h.symm.trans h1)))).symm)) fun g h2 => absurd (hlt k m) (by lia)) fun g h1 => jof_case (n := n) hi' (fun k' e' m' h2 => absurd (hlt k' m') (by lia)) fun g' h2 => (Nat.sub_add_cancel g).symm.trans ((congrArg (· + jl.length) (Nat.add_left_cancel (h1.symm.trans (h.trans h2)))).trans (Nat.sub_add_cancel g'))
theorem emb (S : Sim N e st b) (hn : jl.length = a.length) (hle : a.length ≤ os.length) (hj : okJ st.length jl = true) (hf : os.length ≤ far) (ht : tabsFix 0 jl a = true) (hN : (putAll (jof jl st.length) jl os st).length ≤ N)
  (hp : a.map (O.mp (jof jl st.length)) = jl.map fun k => (st[k]?).getD default) : Sim os.length (fun k => e (jof jl st.length k)) a b := by
 have hlt := okJ_lt hj
 rw [← hn] at hle
 rw [putAll_length _ _ _ hle] at hN
 have key : ∀ i, i < os.length → jof jl st.length i < N := fun i hi => jof_lt hlt hi hf hN
 have hget : ∀ {i : Nat} {o : O}, a[i]? = some o → jl[i]? = some (jof jl st.length i) ∧ st[jof jl st.length i]? = some (o.mp (jof jl st.length)) := fun {i o} h => by
  have hi : i < jl.length := hn ▸ lt_of_get h
  have h1 := List.getElem?_eq_getElem hi
  rw [jof_in h1]
  have h2 := congrArg (fun l => l[i]?) hp
  simp only [List.getElem?_map, h, h1, Option.map_some] at h2
  rw [List.getElem?_eq_getElem (hlt _ (List.getElem_mem hi))] at h2 ⊢
  exact ⟨h1, h2.symm⟩
 refine ⟨fun i o h => omp_mp .. ▸ S.get _ _ (hget h).2, fun i h1 h2 => ?_, fun i i' h1 h2 h => jof_inj hlt (okJ_nd hj) (Nat.lt_of_lt_of_le h1 hf) (Nat.lt_of_lt_of_le h2 hf) (S.inj _ _ (key i h1) (key i' h2) h), fun h => (congrArg e (jof_far (Nat.le_trans hle hf))).trans (S.out h), hn ▸ hle, hf, fun i q h => ?_⟩
 ·have h3 := jof_new (n := st.length) (hn ▸ h1 : jl.length ≤ i) (Nat.lt_of_lt_of_le h2 hf)
  have h4 := key i h2
  rw [h3] at h4
  rw [h3, S.nxt _ (Nat.le_add_right ..) h4, Nat.add_sub_cancel_left, hn]
 ·obtain ⟨h1, h2⟩ := hget h
  have h3 := (sInj (h1.symm.trans (tabsFix_at _ _ _ _ _ ht h))).trans (Nat.zero_add i)
  rw [h3] at h2 ⊢
  exact S.fix _ q h2
theorem putAll_case (hlt : ∀ k ∈ jl, k < st.length) (hnd : jl.Nodup) (hle : jl.length ≤ os.length) (hf : os.length ≤ far) (ht : tabsFix 0 jl os = true) (h : (putAll (jof jl st.length) jl os st)[k]? = some o)
  (h1 : ∀ i o', os[i]? = some o' → o'.mp (jof jl st.length) = o → jof jl st.length i = k → (∀ q, o' = .tab q → k = i) → P) (h2 : k < st.length → k ∉ jl → st[k]? = some o → P) : P := by
 by_cases hk : k < st.length
 ·by_cases hm : k ∈ jl
  ·obtain ⟨i, hi⟩ := List.getElem?_of_mem hm
   rw [putAll_at jl os st i k hnd hlt (Nat.lt_of_lt_of_le (lt_of_get hi) hle) hi] at h
   exact mapE h fun o' g1 g2 => h1 i o' g1 g2 (jof_in hi) fun q hq => (sInj (hi.symm.trans (tabsFix_at _ _ _ _ _ ht (hq ▸ g1)))).trans (Nat.zero_add i)
  ·rw [putAll_off _ _ _ _ hk hm] at h
   exact h2 hk hm h
 ·obtain ⟨j, rfl⟩ := Nat.exists_eq_add_of_le (Nat.not_lt.mp hk)
  have := putAll_new (j := jof jl st.length) jl os st (jl.length + j) (Nat.le_add_right ..)
  rw [Nat.add_sub_cancel_left] at this
  rw [this] at h
  exact mapE h fun o' g1 g2 => h1 _ o' g1 g2 ((jof_new (Nat.le_add_right ..) (Nat.lt_of_lt_of_le (lt_of_get g1) hf)).trans (by rw [Nat.add_sub_cancel_left])) fun q hq => absurd (lt_of_get (tabsFix_at _ _ _ _ _ ht (hq ▸ g1))) (by lia)
theorem emb_back (S : Sim N e st b) (hn : jl.length = a.length) (hle : a.length ≤ os.length) (hj : okJ st.length jl = true) (hf : os.length ≤ far) (ht : tabsFix 0 jl os = true)
  (hN : (putAll (jof jl st.length) jl os st).length ≤ N) (X : Nx os.length (fun k => e (jof jl st.length k)) a b os b') : Nx N e st b (putAll (jof jl st.length) jl os st) b' := by
 have hlt := okJ_lt hj
 rw [← hn] at hle
 have hgr := X.gr
 rw [← hn] at hgr
 have hlen := putAll_length (j := jof jl st.length) jl os st hle
 have off : ∀ {i : Nat} {k : Nat}, i < a.length → k < N → e (jof jl st.length i) = e k → k ∈ jl := fun hi hk he => by
  have h1 := List.getElem?_eq_getElem (hn ▸ hi : _ < jl.length)
  rw [jof_in h1] at he
  have hm := List.getElem_mem (hn ▸ hi : _ < jl.length)
  exact S.inj _ _ (Nat.lt_of_lt_of_le (hlt _ hm) S.len) hk he ▸ hm
 refine ⟨⟨fun k o h => putAll_case hlt (okJ_nd hj) hle hf ht h (fun i o' h1 h2 h3 _ => ?_) fun h1 h2 h3 => X.O _ _ (S.get _ _ h3) fun i hi he => h2 (off hi (Nat.lt_of_lt_of_le h1 S.len) he), fun k h1 h2 => ?_, S.inj, S.out, hN, S.cap, fun k q h => putAll_case hlt (okJ_nd hj) hle hf ht h (fun i o' h1 h2 h3 h4 => ?_) fun _ _ h3 => S.fix _ _ h3⟩, fun i o h hno => X.O _ _ h fun i hi he => ?_, ?_, ?_⟩
 ·have := X.S.get _ _ h1
  rw [h3] at this
  rw [← h2, omp_mp]; exact this
 ·rw [hlen] at h1 ⊢
  rw [S.nxt k (Nat.le_trans (Nat.le_add_right ..) h1) h2]
  obtain ⟨t, ht⟩ := Nat.exists_eq_add_of_le hle
  rw [ht] at hgr
  rw [ht, Nat.add_sub_cancel_left] at h1 ⊢
  obtain ⟨z, rfl⟩ := Nat.exists_eq_add_of_le h1
  rw [Nat.add_sub_cancel_left, Nat.add_assoc st.length, Nat.add_sub_cancel_left]
  lia
 ·have h2 := omp_tab.mp h2
  have := X.S.fix _ q (h2 ▸ h1)
  rw [h3, ← h4 q h2] at this; exact this
 ·have h1 := List.getElem?_eq_getElem (hn ▸ hi : i < jl.length)
  rw [jof_in h1] at he
  exact hno _ (hlt _ (List.getElem_mem _)) he
 ·rw [hlen]; exact Nat.le_add_right ..
 ·rw [hlen]; lia
end
theorem putRaw_all {j : Nat → Nat} : ∀ (l : List Nat) (os a : Sto), putRaw l (os.map (O.mp j)) a = putAll j l os a
 | k :: r, o :: os, a => by unfold putAll; exact putRaw_all r os _
 | [], os, a => by unfold putAll; rfl
 | _ :: _, [], a => rfl
theorem putRaw_le : ∀ (l : List Nat) (os a : Sto), a.length ≤ (putRaw l os a).length
 | k :: r, o :: os, a => by
  have := putRaw_le r os (a.set k o)
  rw [List.length_set] at this; exact this
 | [], os, a => by unfold putRaw; rw [List.length_append]; exact Nat.le_add_right ..
 | _ :: _, [], a => Nat.le_refl _
structure Fits (n : Nat) (q : Bool) (a : Addr) (args : List V) (k : Cal) (dc : List Cal) (x x' : XS) (r : Except Addr V) : Prop where
 k1 : x.dc = k :: dc
 k2 : x'.dc = dc
 k3 : r = k.r
 k4 : x'.st = putRaw k.jl k.a x.st
 k5 : a = k.o.f
 k6 : q = k.o.q
 k7 : k.o.need ≤ n + 1
 k8 : k.jl.length = k.o.a.length
 k9 : k.jl.length ≤ k.a.length
 k10 : okJ x.st.length k.jl = true
 k12 : tabsFix 0 k.jl k.o.a = true
 k14 : x'.cs → x.cs ∧ CalC k.jl x.st.length k.o args (k.jl.map fun i => (x.st[i]?).getD default) k.r k.a
theorem orc_some {n : Nat} {q : Bool} {a : Addr} {args : List V} {m : XM V} {x x' : XS} {r : Except Addr V} (h1 : orcX (n + 1) q a args m x = some (r, x')) {P : Prop} (ka : m x = some (r, x') → P) (kb : ∀ k dc, Fits n q a args k dc x x' r → P) : P := by
 obtain ⟨st, ds, dc, cs⟩ := x
 unfold orcX at h1
 cases dc with
 | nil => exact ka h1
 | cons k dc =>
  dsimp only at h1
  cases ha : Nat.beq a k.o.f with
  | false => rw [ha] at h1; exact ka h1
  | true =>
   rw [ha] at h1
   dsimp only at h1
   unfold callOrc at h1
   cases hb : (Nat.beq a k.o.f && (q == k.o.q) && Nat.ble k.o.need (n + 1) && Nat.beq k.jl.length k.o.a.length && Nat.ble k.jl.length k.a.length && okJ st.length k.jl && tabsFix 0 k.jl k.o.a) with
   | false => rw [hb] at h1; exact noS h1
   | true =>
    rw [hb] at h1
    simp only [Bool.and_eq_true] at hb
    obtain ⟨⟨⟨⟨⟨⟨b1, b2⟩, b3⟩, b4⟩, b5⟩, b6⟩, b8⟩ := hb
    induction h1 using E2
    exact kb k dc ⟨rfl, rfl, rfl, rfl, Nat.eq_of_beq_eq_true b1, beq_iff_eq.mp b2, Nat.le_of_ble_eq_true b3, Nat.eq_of_beq_eq_true b4, Nat.le_of_ble_eq_true b5, b6, b8, fun g => ⟨g.2, g.1⟩⟩
theorem orcX_tr {n : Nat} {q : Bool} {a : Addr} {args : List V} {m : XM V} (h : TrX G F N e (V.mp e) m (callF G F (n + 1) q (.glob a) (V.mps e args))) : TrX G F N e (V.mp e) (orcX (n + 1) q a args m) (callF G F (n + 1) q (.glob a) (V.mps e args)) := by
 refine ⟨fun x y x' h1 => ?_, fun x y x' b h1 g ok hl S => ?_⟩
 ·refine orc_some h1 (fun h1 => h.g _ _ _ h1) fun k dc K => ?_
  refine ⟨fun z => (K.k14 z).1, fun z p hp => z p ?_, ?_⟩
  ·rw [K.k1]; rw [K.k2] at hp; exact List.mem_cons_of_mem _ hp
  ·rw [K.k4]; exact putRaw_le ..
 ·refine orc_some h1 (fun h1 => h.t _ _ _ _ h1 g ok hl S) fun k dc K => ?_
  obtain ⟨_, hv, hp, hr, ha, hb⟩ := K.k14 g
  rw [Bool.and_eq_true] at hb
  have k11 := Nat.le_of_ble_eq_true hb.1
  have hput : putRaw k.jl k.a x.st = putAll (jof k.jl x.st.length) k.jl k.o.a' x.st := by rw [← ha, putRaw_all]
  rw [K.k4, hput] at hl
  rw [K.k4, hput]
  have hle : k.o.a.length ≤ k.o.a'.length := by
   have := K.k9
   rw [← ha, List.length_map, K.k8] at this; exact this
  have hok := ok k (by rw [K.k1]; exact List.mem_cons_self) (n + 1 - k.o.need)
  have h7 := K.k7
  rw [Nat.sub_add_cancel h7] at hok
  obtain ⟨b', e1, X⟩ := hok _ b (emb S K.k8 hle K.k10 k11 K.k12 hl hp)
  refine ⟨b', ?_, emb_back S K.k8 hle K.k10 k11 hb.2 hl X⟩
  have hr2 : k.r.map (V.mp e) = k.o.r.map (V.mp fun i => e (jof k.jl x.st.length i)) := by
   rw [← hr]
   cases k.o.r with
   | ok y => exact congrArg Except.ok (mp_mp y)
   | error C => rfl
  rw [K.k3, hr2, ← e1, K.k5, K.k6, ← hv, mps_mps]
  rfl
def Plain (G : Pg) (F : Fs) : Prop := GFlat G ∧ FFlat F
set_option tactic.hygienic true in
theorem callX_tr (hP : Plain G F) : ∀ n, CfTr G F N e (callX G F n) (callF G F n)
 | 0 => fun q f vs => .stop
 | n + 1 => fun q f vs => by
  have ih : CfTr G F N e (callX G F n) (callF G F n) := callX_tr hP n
  have hbody : ∀ (fn : Fn) CL ρ, TrX G F N e (mpF e) (bodyX G (callX G F n) fn q CL ρ) (bodyM G (callF G F n) fn q (mpC e CL) (mpP e ρ)) := fun fn CL ρ => .seq (fun s ρ => stX_tr (r := fun q => evX G (callX G F n) fn q deep) (r' := fun q => evS G (callF G F n) fn q deep) (fun q => evX_tr hP.1 ih deep) deep q s ρ) _ ρ
  cases f with
  | glob a =>
   refine orcX_tr (m := globX G F (callX G F n) q a vs) ?_
   unfold globX callF
   dsimp only
   cases hfn : F.fns a with
   | some fn => exact fnX_tr (hP.2 _ _ hfn) (hbody fn) vs
   | none =>
    dsimp only
    cases hi : F.inits a with
    | none => exact .stop
    | some i =>
     dsimp only
     cases hfi : F.fns i with
     | none => exact .stop
     | some fn => exact clsX_tr (fun args => fnX_tr (hP.2 _ _ hfi) (hbody fn) args) vs
  | hnd k =>
   unfold callX
   dsimp only [V.mp]
   refine ⟨fun x y x' h1 => ?_, fun x y x' b h1 g ok hl S => ?_⟩
   ·split at h1
    ·split at h1
     ·exact (lamCallX_tr (N := N) (e := e) (ev' := lamBody G (callF G F n) _ _ q _) (fun CL ρ => (evX_tr hP.1 ih deep).val false _ CL ρ _) _).g _ _ _ h1
     ·cases h1
    ·cases h1
   ·split at h1
    ·rename_i params body sc qual cl hst
     split at h1
     ·rename_i hok
      obtain ⟨b', e1, X⟩ := (lamCallX_tr (N := N) (e := e) (ev' := lamBody G (callF G F n) _ _ q _) (fun CL ρ => (evX_tr hP.1 ih deep).val false _ CL ρ _) _).t _ _ _ _ h1 g ok hl S
      refine ⟨b', ?_, X⟩
      unfold callF
      dsimp only
      rw [S.get _ _ hst]
      dsimp only [O.mp]
      rw [hok]
      exact e1
     ·cases h1
    ·cases h1
  | bi id =>
   unfold callX callF
   dsimp only [V.mp]
   split
   ·rename_i hid
    rw [beq_iff_eq.mp hid]
    exact appX_tr vs
   ·rename_i hid
    split
    ·rename_i hid1
     rw [beq_iff_eq.mp hid1]
     exact popX_tr vs
    ·rename_i hid1
     split
     ·rename_i hid3
      rw [beq_iff_eq.mp hid3]
      exact extX_tr vs
     rename_i hid3
     split
     ·rename_i hid2
      rw [beq_iff_eq.mp hid2]
      exact .lift getC_tr
     rename_i hid2
     refine biX_tr vs fun st => ?_
     have h1 : id ≠ "list.append" := fun z => by rw [z] at hid; simp at hid
     have h2 : id ≠ "list.pop" := fun z => by rw [z] at hid1; simp at hid1
     have h3 : id ≠ "dict.get" := fun z => by rw [z] at hid2; simp at hid2
     have h4 : id ≠ "list.extend" := fun z => by rw [z] at hid3; simp at hid3
     exact congrArg (Option.map fun p : V × Sto => ((Except.ok p.1 : Except Addr V), p.2)) (show callD q (.bi id) (V.mps e vs) st = callB q (.bi id) (V.mps e vs) st from (if_neg h1).trans ((if_neg h2).trans ((if_neg h3).trans (if_neg h4))))
  | ty id =>
   unfold callX callF
   dsimp only [V.mp]
   exact biX_tr vs fun st => rfl
  | _ => exact .stop
end
noncomputable abbrev S (x : String) : Str := Str.ofString x
noncomputable abbrev P0 : Program := PySem.Challenge.pw_pc0149_01
noncomputable def clsBody : Stmt → List Stmt
 | .ClassDef _ _ _ b .. => b
 | _ => []
def sAt (i : Nat) : Stmt := P0.main.body.getD i (.Pass ⟨0,0,0,0⟩)
def mAt (i j : Nat) : Stmt := (clsBody (sAt i)).getD j (.Pass ⟨0,0,0,0⟩)
noncomputable def fdOf (st : Stmt) (qual : Str) (gl : Addr) (dV kV doc pm : Value) (an : Option Addr) (cd ct : Value) (bi : Addr) : FuncData := match st with
 | .FunctionDef n a b _ _ _ sc .. => { name := n, qualname := qual, params := a, body := .stmts b, scope := sc, globals := gl, closure := [], defaults := dV, kwdefaults := kV, doc := doc, pyModule := pm, annotations := an, code := cd, closureTuple := ct, builtins := bi }
 | _ => default
def sv (x : String) (t : Tok) : Value := .str (S x) t
def de (P : Params) (x : String) (t : Tok) (v : Value) : DictEntry := ⟨PyData.keyHash P (S x), .str (S x) t, v⟩
noncomputable def dO (l : List DictEntry) (n : Nat) : Obj := ⟨.type "dict", none, .dict ⟨l⟩ n, ⟨[]⟩⟩
noncomputable def tO (l : List Value) : Obj := ⟨.type "tuple", none, .seq ⟨l⟩ 0, ⟨[]⟩⟩
noncomputable def fO (l : List Value) : Obj := ⟨.none, none, .fields ⟨l⟩, ⟨[]⟩⟩
noncomputable def tF (x : String) (l : List Value) : Obj := ⟨.type x, none, .fields ⟨l⟩, ⟨[]⟩⟩
def gO (s : Stmt) (q : String) : Obj := ⟨.none, none, .func (fdOf s (S q) 0 .none .none .none .none none .none .none 0), ⟨[]⟩⟩
def hO (s : Stmt) (q : String) (d m : Value) (c : Addr) : Obj := ⟨.type "function", none, .func (fdOf s (S q) 3 d .none .none m none (.ref c) .none 0), ⟨[]⟩⟩
def cut (t : Tok) : Value := sv "/claim/cut.py" t
def cO (n q : String) (t : Tok) (l : List Int) (x : Addr) (b : Bool) (y : Addr) (u v w : Value) (m k : Int) (z : Tok) : Obj := ⟨.type "code", none, .fields ⟨sv n t :: sv q (t + 1) :: cut (t + 2) :: (l.map fun i => Value.int i 0) ++ [.ref x, .bool b, .int 181 0, .ref y, .none, u, v, w, .int m 0, .int k 0, cut z]⟩, ⟨[]⟩⟩
noncomputable def insAll : BT → Nat → List Obj → BT
 | T, _, [] => T
 | T, n, o :: l => insAll (T.ins n o) (n + 1) l
noncomputable def setAll : BT → List (Nat × Obj) → BT
 | T, [] => T
 | T, (a, o) :: l => setAll (T.set a fun _ => o) l
def envT : Env := { scope := P0.main.scope, locals := mainNs, globals := mainNs, cells := [], code := .ref 13, frame := some 14 }
def cdT : Code := .body (behindTheImports P0) envT
noncomputable def pz : Pos := ⟨0,0,0,0⟩
def n1 (l : List Obj) : Obj := l.getD 1 (tO [])
def n3 (l : List Obj) : Obj := l.getD 3 (tO [])
def n4 (l : List Obj) : Obj := l.getD 4 (tO [])
def n5 (l : List Obj) : Obj := l.getD 5 (tO [])
def n6 (l : List Obj) : Obj := l.getD 6 (tO [])
noncomputable def svs : Tok → List String → List Value
 | _, [] => []
 | t, x :: r => sv x t :: svs (t + 1) r
def fC (a t : Nat) (s : Stmt) (n q : String) (xs : List String) (l p : Int) (m d : Value) : List Obj := [tO [], fO [], tO (svs (t + 3) xs), tO [], gO s q, cO n q t [l, p, 0, 0, 3] a true (a + 1) (.ref (a + 2)) (.ref (a + 3)) (.ref (a + 4)) (t + 3 + xs.length) l (t + 4 + xs.length), hO s q d m (a + 5)]
def fA (a t : Nat) (s : Stmt) (q : String) (xs : List String) (l p : Int) (m : Value) : List Obj := fC a t s q q xs l p m .none
def fB (a t : Nat) (s : Stmt) (n q : String) (l p : Int) (m : Value) : List Obj := [tO [], fO [], gO s q, cO n q t [l, p, 0, 0, 3] a true (a + 1) .none .none (.ref (a + 2)) (t + 3) l (t + 4), hO s q .none m (a + 3)]
def gD (t a : Nat) : Obj := tF "getset_descriptor" [sv "__dict__" t, .ref a, .builtin "function.__dict__", .builtin "function.__dict__#set"]
def gW (t a : Nat) : Obj := tF "getset_descriptor" [sv "__weakref__" t, .ref a, .builtin "ExceptionGroup.__weakref__", .none]
def gS (a : Nat) : Obj := tF "super" [.ref a, .ref a, .ref a]
def gI (a : Nat) : Obj := tF "builtin_function_or_method" [.builtin "object.__init_subclass__", .ref a]
def gP : Obj := tF "builtin_function_or_method" [.builtin "type.__prepare__", .type "type"]
noncomputable def gF (c n : Nat) (m : Value) : Obj := ⟨.type "frame", none, .plain, ⟨[some (.ref c), some (.ref 3), some (.ref n), none, some m, none, some (.ref 0)]⟩⟩
def gC (x : String) (a n t u : Nat) : Obj := ⟨.type "type", none, (.cls { name := (S x), bases := [.type "object"], mro := [.ref a, .type "object"], ns := n, qualname := (S x), hasDict := true, slotNames := [], subclasses := [], abstract := false, collection := none, hasDel := false }), ⟨[none, none, some (sv x t), some (sv x u), some (.builtin "object.__new__"), some (.bool true)]⟩⟩
def m0 : Value := sv "ledgerspeak.runner" 187
def m1 : Value := sv "ledgerspeak.sorting" 300
def m2 : Value := sv "ledgerspeak.tree" 321
def m3 : Value := sv "ledgerspeak.codes" 344
def m4 : Value := sv "ledgerspeak.errors" 655
def m5 : Value := sv "ledgerspeak.decimals" 761
def m6 : Value := sv "ledgerspeak.machine" 892
def m7 : Value := sv "ledgerspeak.procread" 1110
def m8 : Value := sv "law_pc0149_01" 1211
def m9 : Value := sv "__main__" 164
def B0 : List Frame := [topFrame pz]
abbrev segY := PySem.W.Fast.tw10110043849684766642
abbrev tabY := PySem.W.Fast.tw14364793385576792824
theorem execs_y : execs = PySem.W.Fast.tw12563942051412417395 := PySem.W.Fast.te12563942051412417395
abbrev execsY := PySem.W.Fast.tw12563942051412417395
theorem seg_y : @segRunT = segY := PySem.W.Fast.te10110043849684766642
theorem tab_y : treeTable = tabY := PySem.W.Fast.te14364793385576792824
theorem piece_y {w : World} {n : Nat} {s s' : SharedT} {l : List Stmt} {pos p' : Pos}
  (h : segY tabY P0 w 11 (some (.ref 6)) 1 n s ⟨(execsY l envT).wrap doneF deadEnd id id, cdT, pos, B0⟩ = some (.next, s', cdT, p')) :
  segRun treeTable P0 w 11 (some (.ref 6)) 1 n s.abs (piecesOf l envT cdT pos B0) = some (.next, s'.abs, cdT, p') := by
 refine segRun_of ?_
 rw [seg_y, tab_y]
 show segY tabY P0 w 11 (some (.ref 6)) 1 n s ⟨(execs l envT).wrap doneF deadEnd id id, cdT, pos, B0⟩ = _
 rw [execs_y]
 exact h
def o11 : Obj := tO []
noncomputable def fo12 : List Value := []
def o12 : Obj := fO fo12
def o13 : Obj := cO "<module>" "<module>" 182 [1, 0, 0, 0, 0] 11 false 12 .none .none .none 185 1 186
def o14 : Obj := gF 13 3 m9
def hpA (P : Params) : Heap := ⟨⟨[boot_o_0 P, boot_o_1 P, boot_o_2 P, boot_o_3 P, boot_o_4 P, boot_o_5 P, boot_o_6 P, boot_o_7 P, boot_o_8 P, boot_o_9 P, boot_o_10 P, o11, o12, o13, o14]⟩, {}⟩
def SA (w : World) (os : OsState) : Shared := ⟨hpA w.params, ⟨[]⟩, {}, 187, os⟩
def Tb (P : Params) : BT := insAll .nil 0 [boot_o_0 P, boot_o_1 P, boot_o_2 P, boot_o_3 P, boot_o_4 P, boot_o_5 P, boot_o_6 P, boot_o_7 P, boot_o_8 P, boot_o_9 P, boot_o_10 P, o11, o12, o13, o14]
def Sb (w : World) (os : OsState) : SharedT := ⟨Tb w.params, 15, {}, ⟨[]⟩, {}, 187, os⟩
theorem pre_ : ∀ (w : World) (os : OsState), topGo treeTable P0 w 11 (some (.ref 6)) 12 ⟨boot_heap w.params, ⟨[]⟩, boot_drawn, boot_toks, os⟩ (topStub P0) = some (SA w os, ⟨denote treeTable cdT, cdT, pz, B0⟩) := by
 intro w os; kernel_rfl
theorem block_ : ∀ (w : World) (os : OsState), segRun treeTable P0 w 11 (some (.ref 6)) 1 1 (SA w os) (blockOf (behindTheImports P0) envT cdT pz B0) = some (.next, (Sb w os).abs, cdT, pz) := by
 intro w os; kernel_rfl
def eo3_0 (P : Params) : List DictEntry := [de P "__doc__" 166 .none, de P "__package__" 167 .none, de P "__loader__" 168 (.builtin "__main__.__loader__#opaque"), de P "__spec__" 169 .none, de P "__annotations__" 170 (.ref 6), de P "__builtins__" 171 (.ref 4), de P "__file__" 173 (sv "/claim/cut.py" 172), de P "__cached__" 174 .none, de P "Deeds" 223 (.ref 31), de P "always" 230 (.ref 42), de P "negated_if" 238 (.ref 49), de P "truth_of" 245 (.ref 56), de P "alike_truths" 253 (.ref 63), de P "object_cond" 263 (.ref 70)]
def o3_0 (P : Params) : Obj := dO (de P "__name__" 165 m0 :: eo3_0 P) 15
def fo12_0 : List Value := fo12 ++ [.int 2 0, .int 0 0, .ref 20, .int 9 0, .int 0 0, .ref 41, .int 12 0, .int 0 0, .ref 48, .int 14 0, .int 0 0, .ref 55, .int 18 0, .int 0 0, .ref 62, .int 20 0, .int 0 0, .ref 69]
def o12_0 : Obj := fO fo12_0
def o15_0 : Obj := tO []
def o16_0 : Obj := gP
def o17_0 (P : Params) : Obj := dO [de P "__module__" 196 m0, de P "__qualname__" 198 (sv "Deeds" 197), de P "__firstlineno__" 200 (.int 2 199), de P "__init__" 211 (.ref 28), de P "__static_attributes__" 216 (.ref 29)] 5
def o18_0 : Obj := tO []
def o19_0 : Obj := fO [.int 4 0, .int 4 0, .ref 27]
def o20_0 : Obj := cO "Deeds" "Deeds" 191 [2, 0, 0, 0, 0] 18 false 19 .none .none .none 194 2 195
def o21_0 : Obj := gF 20 17 m0
def g28 : List Obj := fC 22 201 (mAt 1 0) "__init__" "Deeds.__init__" ["self", "do", "test", "number", "put"] 4 5 m0 .none
def o29_0 : Obj := tO [sv "do" 212, sv "number" 213, sv "put" 214, sv "test" 215]
def o30_0 (P : Params) : Obj := dO [de P "__module__" 196 m0, de P "__firstlineno__" 200 (.int 2 199), de P "__init__" 211 (.ref 28), de P "__static_attributes__" 216 (.ref 29), de P "__dict__" 218 (.ref 32), de P "__weakref__" 220 (.ref 33), de P "__doc__" 221 .none] 4
def o31_0 : Obj := gC "Deeds" 31 30 189 197
def o32_0 : Obj := gD 217 31
def o33_0 : Obj := gW 219 31
def o34_0 : Obj := gS 31
def o35_0 : Obj := gI 31
def g42 : List Obj := fA 36 224 (sAt 2) "always" ["nought"] 9 0 m0
def g49 : List Obj := fA 43 231 (sAt 3) "negated_if" ["cond", "is_not"] 12 2 m0
def g56 : List Obj := fA 50 239 (sAt 4) "truth_of" ["part"] 14 1 m0
def g63 : List Obj := fA 57 246 (sAt 5) "alike_truths" ["one", "other"] 18 2 m0
def g70 : List Obj := fA 64 254 (sAt 6) "object_cond" ["subject", "thing", "low", "high"] 20 2 m0
def Lb0 (P : Params) : List Obj := [o15_0, o16_0, (o17_0 P), o18_0, o19_0, o20_0, o21_0] ++ (g28 ++ ([o29_0, (o30_0 P), o31_0, o32_0, o33_0, o34_0, o35_0] ++ (g42 ++ (g49 ++ (g56 ++ (g63 ++ (g70)))))))
def T0 (P : Params) : BT := setAll (insAll (Tb P) 15 (Lb0 P)) [(3, (o3_0 P)), (12, o12_0)]
def S0 (w : World) (os : OsState) : SharedT := ⟨T0 w.params, 71, {}, ⟨[]⟩, {}, 264, os⟩
def sts0 : List Stmt := ((behindTheImports P0).drop 0).take 7
noncomputable def pos0 : Pos := ⟨20, 0, 32, 45⟩
theorem p0 (w : World) (os : OsState) : segRun treeTable P0 w 11 (some (.ref 6)) 1 388 (Sb w os).abs (piecesOf sts0 envT cdT pz B0) = some (.next, (S0 w os).abs, cdT, pos0) := by
 refine piece_y ?_; kernel_rfl
def eo3_1 (P : Params) : List DictEntry := eo3_0 P ++ [de P "row_cond" 275 (.ref 77), de P "rows_cond" 286 (.ref 84), de P "as_ifs" 299 (.ref 91), de P "goal_parts" 309 (.ref 98), de P "sort_parts" 320 (.ref 105), de P "BRANCHED" 337 (.ref 106), de P "branches_of" 343 (.ref 111), de P "JOINERS" 349 (.ref 112), de P "OPERANDS" 355 (.ref 113), de P "QUIET" 358 (.ref 114), de P "LET" 361 (.int (-1) 360)]
def o3_1 (P : Params) : Obj := dO (de P "__name__" 165 m3 :: eo3_1 P) 26
def fo12_1 : List Value := fo12_0 ++ [.int 33 0, .int 0 0, .ref 76, .int 40 0, .int 0 0, .ref 83, .int 46 0, .int 0 0, .ref 90, .int 53 0, .int 0 0, .ref 97, .int 57 0, .int 0 0, .ref 104, .int 72 0, .int 0 0, .ref 110]
def o12_1 : Obj := fO fo12_1
def g77 : List Obj := fA 71 264 (sAt 7) "row_cond" ["subjects", "things", "found", "subject", "thing", "cond"] 33 2 m0
def g84 : List Obj := fA 78 276 (sAt 8) "rows_cond" ["subjects", "rows", "found", "things", "cond"] 40 2 m0
def g91 : List Obj := fA 85 287 (sAt 9) "as_ifs" ["evaluate", "subjects", "whens", "others", "found", "rows", "statements"] 46 1 m0
def g98 : List Obj := fA 92 302 (sAt 11) "goal_parts" ["file", "goal"] 53 2 m1
def g105 : List Obj := fA 99 310 (sAt 12) "sort_parts" ["statement", "file", "keys", "found", "source"] 57 1 m1
def o106_1 : Obj := tO [sv "arith" 323, sv "divide" 324, sv "corr" 325, sv "search" 326, sv "search-all" 327, sv "string" 328, sv "unstring" 329, sv "read" 330, sv "write" 331, sv "rewrite" 332, sv "delete" 333, sv "start" 334, sv "return" 335, sv "call" 336]
def g111 : List Obj := fB 107 338 (sAt 15) "branches_of" "branches_of" 72 1 m2
def o112_1 : Obj := tO [sv "not" 346, sv "and" 347, sv "or" 348]
def o113_1 : Obj := tO [sv "ref" 350, sv "number" 351, sv "text" 352, sv "figure" 353, sv "all" 354]
def o114_1 : Obj := tO [sv "exit" 356, sv "continue" 357]
def Lb1 (P : Params) : List Obj := g77 ++ (g84 ++ (g91 ++ (g98 ++ (g105 ++ ([o106_1] ++ (g111 ++ ([o112_1, o113_1, o114_1])))))))
def T1 (P : Params) : BT := setAll (insAll (T0 P) 71 (Lb1 P)) [(3, (o3_1 P)), (12, o12_1)]
def S1 (w : World) (os : OsState) : SharedT := ⟨T1 w.params, 115, {}, ⟨[]⟩, {}, 362, os⟩
def sts1 : List Stmt := ((behindTheImports P0).drop 7).take 14
noncomputable def pos1 : Pos := ⟨80, 0, 80, 3⟩
theorem p1 (w : World) (os : OsState) : segRun treeTable P0 w 11 (some (.ref 6)) 1 297 (S0 w os).abs (piecesOf sts1 envT cdT pos0 B0) = some (.next, (S1 w os).abs, cdT, pos1) := by
 refine piece_y ?_; kernel_rfl
def eo3_2 (P : Params) : List DictEntry := eo3_1 P ++ [de P "Code" 399 (.ref 138), de P "labels_of" 406 (.ref 149), de P "relabelled" 412 (.ref 154)]
def o3_2 (P : Params) : Obj := dO (de P "__name__" 165 m3 :: eo3_2 P) 29
def fo12_2 : List Value := fo12_1 ++ [.int 81 0, .int 0 0, .ref 120, .int 89 0, .int 0 0, .ref 148, .int 97 0, .int 0 0, .ref 153]
def o12_2 : Obj := fO fo12_2
def o115_2 : Obj := tO []
def o116_2 : Obj := gP
def o117_2 (P : Params) : Obj := dO [de P "__module__" 369 m3, de P "__qualname__" 371 (sv "Code" 370), de P "__firstlineno__" 373 (.int 81 372), de P "__init__" 382 (.ref 128), de P "told" 389 (.ref 135), de P "__static_attributes__" 392 (.ref 136)] 6
def o118_2 : Obj := tO []
def o119_2 : Obj := fO [.int 83 0, .int 4 0, .ref 127, .int 87 0, .int 4 0, .ref 134]
def o120_2 : Obj := cO "Code" "Code" 364 [81, 0, 0, 0, 0] 118 false 119 .none .none .none 367 81 368
def o121_2 : Obj := gF 120 117 m3
def g128 : List Obj := fC 122 374 (mAt 21 0) "__init__" "Code.__init__" ["self", "ops", "begins"] 83 3 m3 .none
def g135 : List Obj := fC 129 383 (mAt 21 1) "told" "Code.told" ["self"] 87 1 m3 .none
def o136_2 : Obj := tO [sv "begins" 390, sv "ops" 391]
def o137_2 (P : Params) : Obj := dO [de P "__module__" 369 m3, de P "__firstlineno__" 373 (.int 81 372), de P "__init__" 382 (.ref 128), de P "told" 389 (.ref 135), de P "__static_attributes__" 392 (.ref 136), de P "__dict__" 394 (.ref 139), de P "__weakref__" 396 (.ref 140), de P "__doc__" 397 .none] 4
def o138_2 : Obj := gC "Code" 138 137 362 370
def o139_2 : Obj := gD 393 138
def o140_2 : Obj := gW 395 138
def o141_2 : Obj := gS 138
def o142_2 : Obj := gI 138
def g149 : List Obj := fA 143 400 (sAt 22) "labels_of" ["op"] 89 1 m3
def g154 : List Obj := fB 150 407 (sAt 23) "relabelled" "relabelled" 97 2 m3
def Lb2 (P : Params) : List Obj := [o115_2, o116_2, (o117_2 P), o118_2, o119_2, o120_2, o121_2] ++ (g128 ++ (g135 ++ ([o136_2, (o137_2 P), o138_2, o139_2, o140_2, o141_2, o142_2] ++ (g149 ++ (g154)))))
def T2 (P : Params) : BT := setAll (insAll (T1 P) 115 (Lb2 P)) [(3, (o3_2 P)), (12, o12_2)]
def S2 (w : World) (os : OsState) : SharedT := ⟨T2 w.params, 155, {}, ⟨[]⟩, {}, 413, os⟩
def sts2 : List Stmt := ((behindTheImports P0).drop 21).take 3
noncomputable def pos2 : Pos := ⟨97, 0, 104, 40⟩
theorem p2 (w : World) (os : OsState) : segRun treeTable P0 w 11 (some (.ref 6)) 1 311 (S1 w os).abs (piecesOf sts2 envT cdT pos1 B0) = some (.next, (S2 w os).abs, cdT, pos2) := by
 refine piece_y ?_; kernel_rfl
def eo3_3 (P : Params) : List DictEntry := eo3_2 P ++ [de P "Draft" 487 (.ref 209)]
def o3_3 (P : Params) : Obj := dO (de P "__name__" 165 m3 :: eo3_3 P) 30
def fo12_3 : List Value := fo12_2 ++ [.int 105 0, .int 0 0, .ref 160]
def o12_3 : Obj := fO fo12_3
def o155_3 : Obj := tO []
def o156_3 : Obj := gP
def o157_3 (P : Params) : Obj := dO [de P "__module__" 420 m3, de P "__qualname__" 422 (sv "Draft" 421), de P "__firstlineno__" 424 (.int 105 423), de P "__init__" 430 (.ref 166), de P "fresh" 437 (.ref 173), de P "here" 445 (.ref 180), de P "put" 453 (.ref 187), de P "slot" 460 (.ref 194), de P "head_of" 468 (.ref 201), de P "finished" 474 (.ref 206), de P "__static_attributes__" 480 (.ref 207)] 11
def o158_3 : Obj := tO []
def o159_3 : Obj := fO [.int 107 0, .int 4 0, .ref 165, .int 114 0, .int 4 0, .ref 172, .int 118 0, .int 4 0, .ref 179, .int 121 0, .int 4 0, .ref 186, .int 124 0, .int 4 0, .ref 193, .int 128 0, .int 4 0, .ref 200, .int 131 0, .int 4 0, .ref 205]
def o160_3 : Obj := cO "Draft" "Draft" 415 [105, 0, 0, 0, 0] 158 false 159 .none .none .none 418 105 419
def o161_3 : Obj := gF 160 157 m3
def g166 : List Obj := fB 162 425 (mAt 24 0) "__init__" "Draft.__init__" 107 2 m3
def g173 : List Obj := fC 167 431 (mAt 24 1) "fresh" "Draft.fresh" ["self"] 114 1 m3 .none
def g180 : List Obj := fC 174 438 (mAt 24 2) "here" "Draft.here" ["self", "label"] 118 2 m3 .none
def g187 : List Obj := fC 181 446 (mAt 24 3) "put" "Draft.put" ["self", "op"] 121 2 m3 .none
def g194 : List Obj := fC 188 454 (mAt 24 4) "slot" "Draft.slot" ["self"] 124 1 m3 .none
def g201 : List Obj := fC 195 461 (mAt 24 5) "head_of" "Draft.head_of" ["self", "pair"] 128 2 m3 .none
def g206 : List Obj := fB 202 469 (mAt 24 6) "finished" "Draft.finished" 131 1 m3
def o207_3 : Obj := tO [sv "heads" 475, sv "ops" 476, sv "places" 477, sv "procedures" 478, sv "slots" 479]
def o208_3 (P : Params) : Obj := dO [de P "__module__" 420 m3, de P "__firstlineno__" 424 (.int 105 423), de P "__init__" 430 (.ref 166), de P "fresh" 437 (.ref 173), de P "here" 445 (.ref 180), de P "put" 453 (.ref 187), de P "slot" 460 (.ref 194), de P "head_of" 468 (.ref 201), de P "finished" 474 (.ref 206), de P "__static_attributes__" 480 (.ref 207), de P "__dict__" 482 (.ref 210), de P "__weakref__" 484 (.ref 211), de P "__doc__" 485 .none] 4
def o209_3 : Obj := gC "Draft" 209 208 413 421
def o210_3 : Obj := gD 481 209
def o211_3 : Obj := gW 483 209
def o212_3 : Obj := gS 209
def o213_3 : Obj := gI 209
def Lb3 (P : Params) : List Obj := [o155_3, o156_3, (o157_3 P), o158_3, o159_3, o160_3, o161_3] ++ (g166 ++ (g173 ++ (g180 ++ (g187 ++ (g194 ++ (g201 ++ (g206 ++ ([o207_3, (o208_3 P), o209_3, o210_3, o211_3, o212_3, o213_3]))))))))
def T3 (P : Params) : BT := setAll (insAll (T2 P) 155 (Lb3 P)) [(3, (o3_3 P)), (12, o12_3)]
def S3 (w : World) (os : OsState) : SharedT := ⟨T3 w.params, 214, {}, ⟨[]⟩, {}, 488, os⟩
def sts3 : List Stmt := ((behindTheImports P0).drop 24).take 1
noncomputable def pos3 : Pos := ⟨105, 0, 133, 77⟩
theorem p3 (w : World) (os : OsState) : segRun treeTable P0 w 11 (some (.ref 6)) 1 409 (S2 w os).abs (piecesOf sts3 envT cdT pos2 B0) = some (.next, (S3 w os).abs, cdT, pos3) := by
 refine piece_y ?_; kernel_rfl
def eo3_4 (P : Params) : List DictEntry := eo3_3 P ++ [de P "put_expression" 496 (.ref 220), de P "put_condition" 507 (.ref 227), de P "put_statements" 516 (.ref 234), de P "put_statement" 522 (.ref 239), de P "put_if" 532 (.ref 246), de P "put_arith" 544 (.ref 253), de P "put_deed" 550 (.ref 258), de P "put_sort" 559 (.ref 265), de P "put_range" 569 (.ref 272), de P "put_goal" 577 (.ref 279), de P "put_perform" 587 (.ref 286), de P "put_times" 599 (.ref 293)]
def o3_4 (P : Params) : Obj := dO (de P "__name__" 165 m3 :: eo3_4 P) 42
def fo12_4 : List Value := fo12_3 ++ [.int 134 0, .int 0 0, .ref 219, .int 144 0, .int 0 0, .ref 226, .int 162 0, .int 0 0, .ref 233, .int 165 0, .int 0 0, .ref 238, .int 188 0, .int 0 0, .ref 245, .int 200 0, .int 0 0, .ref 252, .int 215 0, .int 0 0, .ref 257, .int 227 0, .int 0 0, .ref 264, .int 233 0, .int 0 0, .ref 271, .int 236 0, .int 0 0, .ref 278, .int 241 0, .int 0 0, .ref 285, .int 253 0, .int 0 0, .ref 292]
def o12_4 : Obj := fO fo12_4
def g220 : List Obj := fA 214 488 (sAt 25) "put_expression" ["draft", "expr", "label"] 134 3 m3
def g227 : List Obj := fA 221 497 (sAt 26) "put_condition" ["draft", "cond", "is_wanted", "label", "behind"] 144 4 m3
def g234 : List Obj := fA 228 508 (sAt 27) "put_statements" ["draft", "statements", "statement"] 162 2 m3
def g239 : List Obj := fB 235 517 (sAt 28) "put_statement" "put_statement" 165 2 m3
def g246 : List Obj := fA 240 523 (sAt 29) "put_if" ["draft", "statement", "otherwise", "behind"] 188 2 m3
def g253 : List Obj := fA 247 533 (sAt 30) "put_arith" ["draft", "statement", "wrong", "branches", "failing", "behind"] 200 2 m3
def g258 : List Obj := fB 254 545 (sAt 31) "put_deed" "put_deed" 215 2 m3
def g265 : List Obj := fA 259 551 (sAt 32) "put_sort" ["draft", "statement", "part"] 227 2 m3
def g272 : List Obj := fA 266 560 (sAt 33) "put_range" ["draft", "first", "last", "begin"] 233 3 m3
def g279 : List Obj := fA 273 570 (sAt 34) "put_goal" ["draft", "goal"] 236 2 m3
def g286 : List Obj := fA 280 578 (sAt 35) "put_perform" ["draft", "statement", "goal", "loop"] 241 2 m3
def g293 : List Obj := fA 287 588 (sAt 36) "put_times" ["draft", "goal", "operand", "slot", "again", "behind"] 253 3 m3
def Lb4 (P : Params) : List Obj := g220 ++ (g227 ++ (g234 ++ (g239 ++ (g246 ++ (g253 ++ (g258 ++ (g265 ++ (g272 ++ (g279 ++ (g286 ++ (g293)))))))))))
def T4 (P : Params) : BT := setAll (insAll (T3 P) 214 (Lb4 P)) [(3, (o3_4 P)), (12, o12_4)]
def S4 (w : World) (os : OsState) : SharedT := ⟨T4 w.params, 294, {}, ⟨[]⟩, {}, 600, os⟩
def sts4 : List Stmt := ((behindTheImports P0).drop 25).take 12
noncomputable def pos4 : Pos := ⟨253, 0, 262, 22⟩
theorem p4 (w : World) (os : OsState) : segRun treeTable P0 w 11 (some (.ref 6)) 1 373 (S3 w os).abs (piecesOf sts4 envT cdT pos3 B0) = some (.next, (S4 w os).abs, cdT, pos4) := by
 refine piece_y ?_; kernel_rfl
def eo3_5 (P : Params) : List DictEntry := eo3_4 P ++ [de P "put_until" 611 (.ref 300), de P "put_step" 622 (.ref 307), de P "put_varying" 628 (.ref 312), de P "put_varying_after" 645 (.ref 319), de P "compiled" 654 (.ref 326)]
def o3_5 (P : Params) : Obj := dO (de P "__name__" 165 m4 :: eo3_5 P) 47
def fo12_5 : List Value := fo12_4 ++ [.int 263 0, .int 0 0, .ref 299, .int 274 0, .int 0 0, .ref 306, .int 279 0, .int 0 0, .ref 311, .int 296 0, .int 0 0, .ref 318, .int 310 0, .int 0 0, .ref 325]
def o12_5 : Obj := fO fo12_5
def g300 : List Obj := fA 294 600 (sAt 37) "put_until" ["draft", "goal", "is_after", "cond", "again", "behind"] 263 4 m3
def g307 : List Obj := fA 301 612 (sAt 38) "put_step" ["draft", "ref", "expr", "way", "behind"] 274 4 m3
def g312 : List Obj := fB 308 623 (sAt 39) "put_varying" "put_varying" 279 3 m3
def g319 : List Obj := fA 313 629 (sAt 40) "put_varying_after" ["draft", "goal", "rows", "ref", "begin", "added", "cond", "again", "at", "over", "inner"] 296 3 m3
def g326 : List Obj := fA 320 646 (sAt 41) "compiled" ["procedures", "draft", "at"] 310 1 m3
def Lb5 (P : Params) : List Obj := g300 ++ (g307 ++ (g312 ++ (g319 ++ (g326))))
def T5 (P : Params) : BT := setAll (insAll (T4 P) 294 (Lb5 P)) [(3, (o3_5 P)), (12, o12_5)]
def S5 (w : World) (os : OsState) : SharedT := ⟨T5 w.params, 327, {}, ⟨[]⟩, {}, 657, os⟩
def sts5 : List Stmt := ((behindTheImports P0).drop 37).take 6
noncomputable def pos5 : Pos := ⟨318, 0, 318, 8⟩
theorem p5 (w : World) (os : OsState) : segRun treeTable P0 w 11 (some (.ref 6)) 1 173 (S4 w os).abs (piecesOf sts5 envT cdT pos4 B0) = some (.next, (S5 w os).abs, cdT, pos5) := by
 refine piece_y ?_; kernel_rfl
def o2_6 (P : Params) : Obj := ⟨.none, none, (.dict ⟨[de P "type.__subclasses__.Exception.0" 693 (.int 352 0), de P "type.__subclasses__.Exception.n" 694 (.int 1 0)]⟩ 2), ⟨[]⟩⟩
def eo3_6 (P : Params) : List DictEntry := eo3_5 P ++ [de P "LedgerError" 696 (.ref 352)]
def o3_6 (P : Params) : Obj := dO (de P "__name__" 165 m4 :: eo3_6 P) 48
def fo12_6 : List Value := fo12_5 ++ [.int 319 0, .int 0 0, .ref 332]
def o12_6 : Obj := fO fo12_6
def o327_6 : Obj := tO [.type "Exception"]
def o328_6 : Obj := gP
def o329_6 (P : Params) : Obj := dO [de P "__module__" 664 m4, de P "__qualname__" 666 (sv "LedgerError" 665), de P "__firstlineno__" 668 (.int 319 667), de P "__init__" 679 (.ref 342), de P "told" 686 (.ref 349), de P "__static_attributes__" 689 (.ref 350)] 6
def o330_6 : Obj := tO []
def o331_6 : Obj := fO [.int 321 0, .int 4 0, .ref 341, .int 326 0, .int 4 0, .ref 348]
def o332_6 : Obj := cO "LedgerError" "LedgerError" 659 [319, 0, 0, 0, 0] 330 false 331 .none .none .none 662 319 663
def o333_6 : Obj := gF 332 329 m4
def o334_6 : Obj := tO [.int 0 669, .int 0 670]
def o335_6 : Obj := tO [.ref 334]
def g342 : List Obj := fC 336 671 (mAt 43 0) "__init__" "LedgerError.__init__" ["self", "what", "at"] 321 3 m4 (.ref 335)
def g349 : List Obj := fC 343 680 (mAt 43 1) "told" "LedgerError.told" ["self"] 326 1 m4 .none
def o350_6 : Obj := tO [sv "at" 687, sv "what" 688]
def o351_6 (P : Params) : Obj := dO [de P "__module__" 664 m4, de P "__firstlineno__" 668 (.int 319 667), de P "__init__" 679 (.ref 342), de P "told" 686 (.ref 349), de P "__static_attributes__" 689 (.ref 350), de P "__weakref__" 691 (.ref 353), de P "__doc__" 692 .none] 3
def o352_6 : Obj := ⟨.type "type", none, (.cls { name := (S "LedgerError"), bases := [.type "Exception"], mro := [.ref 352, .type "Exception", .type "BaseException", .type "object"], ns := 351, qualname := (S "LedgerError"), hasDict := true, slotNames := [], subclasses := [], abstract := false, collection := none, hasDel := false }), ⟨[some (.ref 327), none, some (sv "LedgerError" 657), some (sv "LedgerError" 665), some (.builtin "Exception.__new__"), some (.bool true)]⟩⟩
def o353_6 : Obj := gW 690 352
def o354_6 : Obj := gS 352
def o355_6 : Obj := gI 352
def Lb6 (P : Params) : List Obj := [o327_6, o328_6, (o329_6 P), o330_6, o331_6, o332_6, o333_6, o334_6, o335_6] ++ (g342 ++ (g349 ++ ([o350_6, (o351_6 P), o352_6, o353_6, o354_6, o355_6])))
def T6 (P : Params) : BT := setAll (insAll (T5 P) 327 (Lb6 P)) [(2, (o2_6 P)), (3, (o3_6 P)), (12, o12_6)]
def S6 (w : World) (os : OsState) : SharedT := ⟨T6 w.params, 356, {}, ⟨[]⟩, {}, 697, os⟩
def sts6 : List Stmt := ((behindTheImports P0).drop 43).take 1
noncomputable def pos6 : Pos := ⟨319, 0, 327, 35⟩
theorem p6 (w : World) (os : OsState) : segRun treeTable P0 w 11 (some (.ref 6)) 1 267 (S5 w os).abs (piecesOf sts6 envT cdT pos5 B0) = some (.next, (S6 w os).abs, cdT, pos6) := by
 refine piece_y ?_; kernel_rfl
def eo3_7 (P : Params) : List DictEntry := eo3_6 P ++ [de P "CheckFault" 712 (.ref 365)]
def o3_7 (P : Params) : Obj := dO (de P "__name__" 165 m4 :: eo3_7 P) 49
def fo12_7 : List Value := fo12_6 ++ [.int 328 0, .int 0 0, .ref 361]
def o12_7 : Obj := fO fo12_7
def o352_7 : Obj := ⟨.type "type", none, (.cls { name := (S "LedgerError"), bases := [.type "Exception"], mro := [.ref 352, .type "Exception", .type "BaseException", .type "object"], ns := 351, qualname := (S "LedgerError"), hasDict := true, slotNames := [], subclasses := [.ref 365], abstract := false, collection := none, hasDel := false }), ⟨[some (.ref 327), none, some (sv "LedgerError" 657), some (sv "LedgerError" 665), some (.builtin "Exception.__new__"), some (.bool true)]⟩⟩
def o356_7 : Obj := tO [.ref 352]
def o357_7 : Obj := gP
def o358_7 (P : Params) : Obj := dO [de P "__module__" 704 m4, de P "__qualname__" 706 (sv "CheckFault" 705), de P "__firstlineno__" 708 (.int 328 707), de P "__static_attributes__" 709 (.ref 363)] 4
def o359_7 : Obj := tO []
def o360_7 : Obj := fO []
def o361_7 : Obj := cO "CheckFault" "CheckFault" 699 [328, 0, 0, 0, 0] 359 false 360 .none .none .none 702 328 703
def o362_7 : Obj := gF 361 358 m4
def o363_7 : Obj := tO []
def o364_7 (P : Params) : Obj := dO [de P "__module__" 704 m4, de P "__firstlineno__" 708 (.int 328 707), de P "__static_attributes__" 709 (.ref 363), de P "__doc__" 710 .none] 2
def o365_7 : Obj := ⟨.type "type", none, (.cls { name := (S "CheckFault"), bases := [.ref 352], mro := [.ref 365, .ref 352, .type "Exception", .type "BaseException", .type "object"], ns := 364, qualname := (S "CheckFault"), hasDict := true, slotNames := [], subclasses := [], abstract := false, collection := none, hasDel := false }), ⟨[some (.ref 356), none, some (sv "CheckFault" 697), some (sv "CheckFault" 705), some (.builtin "Exception.__new__"), some (.bool true)]⟩⟩
def o366_7 : Obj := gS 365
def o367_7 : Obj := gI 365
def Lb7 (P : Params) : List Obj := [o356_7, o357_7, (o358_7 P), o359_7, o360_7, o361_7, o362_7, o363_7, (o364_7 P), o365_7, o366_7, o367_7]
def T7 (P : Params) : BT := setAll (insAll (T6 P) 356 (Lb7 P)) [(3, (o3_7 P)), (12, o12_7), (352, o352_7)]
def S7 (w : World) (os : OsState) : SharedT := ⟨T7 w.params, 368, {}, ⟨[]⟩, {}, 713, os⟩
def sts7 : List Stmt := ((behindTheImports P0).drop 44).take 1
noncomputable def pos7 : Pos := ⟨328, 0, 329, 8⟩
theorem p7 (w : World) (os : OsState) : segRun treeTable P0 w 11 (some (.ref 6)) 1 214 (S6 w os).abs (piecesOf sts7 envT cdT pos6 B0) = some (.next, (S7 w os).abs, cdT, pos7) := by
 refine piece_y ?_; kernel_rfl
def eo3_8 (P : Params) : List DictEntry := eo3_7 P ++ [de P "RunFault" 728 (.ref 377)]
def o3_8 (P : Params) : Obj := dO (de P "__name__" 165 m4 :: eo3_8 P) 50
def fo12_8 : List Value := fo12_7 ++ [.int 330 0, .int 0 0, .ref 373]
def o12_8 : Obj := fO fo12_8
def o352_8 : Obj := ⟨.type "type", none, (.cls { name := (S "LedgerError"), bases := [.type "Exception"], mro := [.ref 352, .type "Exception", .type "BaseException", .type "object"], ns := 351, qualname := (S "LedgerError"), hasDict := true, slotNames := [], subclasses := [.ref 365, .ref 377], abstract := false, collection := none, hasDel := false }), ⟨[some (.ref 327), none, some (sv "LedgerError" 657), some (sv "LedgerError" 665), some (.builtin "Exception.__new__"), some (.bool true)]⟩⟩
def o368_8 : Obj := tO [.ref 352]
def o369_8 : Obj := gP
def o370_8 (P : Params) : Obj := dO [de P "__module__" 720 m4, de P "__qualname__" 722 (sv "RunFault" 721), de P "__firstlineno__" 724 (.int 330 723), de P "__static_attributes__" 725 (.ref 375)] 4
def o371_8 : Obj := tO []
def o372_8 : Obj := fO []
def o373_8 : Obj := cO "RunFault" "RunFault" 715 [330, 0, 0, 0, 0] 371 false 372 .none .none .none 718 330 719
def o374_8 : Obj := gF 373 370 m4
def o375_8 : Obj := tO []
def o376_8 (P : Params) : Obj := dO [de P "__module__" 720 m4, de P "__firstlineno__" 724 (.int 330 723), de P "__static_attributes__" 725 (.ref 375), de P "__doc__" 726 .none] 2
def o377_8 : Obj := ⟨.type "type", none, (.cls { name := (S "RunFault"), bases := [.ref 352], mro := [.ref 377, .ref 352, .type "Exception", .type "BaseException", .type "object"], ns := 376, qualname := (S "RunFault"), hasDict := true, slotNames := [], subclasses := [], abstract := false, collection := none, hasDel := false }), ⟨[some (.ref 368), none, some (sv "RunFault" 713), some (sv "RunFault" 721), some (.builtin "Exception.__new__"), some (.bool true)]⟩⟩
def o378_8 : Obj := gS 377
def o379_8 : Obj := gI 377
def Lb8 (P : Params) : List Obj := [o368_8, o369_8, (o370_8 P), o371_8, o372_8, o373_8, o374_8, o375_8, (o376_8 P), o377_8, o378_8, o379_8]
def T8 (P : Params) : BT := setAll (insAll (T7 P) 368 (Lb8 P)) [(3, (o3_8 P)), (12, o12_8), (352, o352_8)]
def S8 (w : World) (os : OsState) : SharedT := ⟨T8 w.params, 380, {}, ⟨[]⟩, {}, 729, os⟩
def sts8 : List Stmt := ((behindTheImports P0).drop 45).take 1
noncomputable def pos8 : Pos := ⟨330, 0, 331, 8⟩
theorem p8 (w : World) (os : OsState) : segRun treeTable P0 w 11 (some (.ref 6)) 1 214 (S7 w os).abs (piecesOf sts8 envT cdT pos7 B0) = some (.next, (S8 w os).abs, cdT, pos8) := by
 refine piece_y ?_; kernel_rfl
def eo3_9 (P : Params) : List DictEntry := eo3_8 P ++ [de P "SizeFault" 744 (.ref 389)]
def o3_9 (P : Params) : Obj := dO (de P "__name__" 165 m4 :: eo3_9 P) 51
def fo12_9 : List Value := fo12_8 ++ [.int 332 0, .int 0 0, .ref 385]
def o12_9 : Obj := fO fo12_9
def o352_9 : Obj := ⟨.type "type", none, (.cls { name := (S "LedgerError"), bases := [.type "Exception"], mro := [.ref 352, .type "Exception", .type "BaseException", .type "object"], ns := 351, qualname := (S "LedgerError"), hasDict := true, slotNames := [], subclasses := [.ref 365, .ref 377, .ref 389], abstract := false, collection := none, hasDel := false }), ⟨[some (.ref 327), none, some (sv "LedgerError" 657), some (sv "LedgerError" 665), some (.builtin "Exception.__new__"), some (.bool true)]⟩⟩
def o380_9 : Obj := tO [.ref 352]
def o381_9 : Obj := gP
def o382_9 (P : Params) : Obj := dO [de P "__module__" 736 m4, de P "__qualname__" 738 (sv "SizeFault" 737), de P "__firstlineno__" 740 (.int 332 739), de P "__static_attributes__" 741 (.ref 387)] 4
def o383_9 : Obj := tO []
def o384_9 : Obj := fO []
def o385_9 : Obj := cO "SizeFault" "SizeFault" 731 [332, 0, 0, 0, 0] 383 false 384 .none .none .none 734 332 735
def o386_9 : Obj := gF 385 382 m4
def o387_9 : Obj := tO []
def o388_9 (P : Params) : Obj := dO [de P "__module__" 736 m4, de P "__firstlineno__" 740 (.int 332 739), de P "__static_attributes__" 741 (.ref 387), de P "__doc__" 742 .none] 2
def o389_9 : Obj := ⟨.type "type", none, (.cls { name := (S "SizeFault"), bases := [.ref 352], mro := [.ref 389, .ref 352, .type "Exception", .type "BaseException", .type "object"], ns := 388, qualname := (S "SizeFault"), hasDict := true, slotNames := [], subclasses := [], abstract := false, collection := none, hasDel := false }), ⟨[some (.ref 380), none, some (sv "SizeFault" 729), some (sv "SizeFault" 737), some (.builtin "Exception.__new__"), some (.bool true)]⟩⟩
def o390_9 : Obj := gS 389
def o391_9 : Obj := gI 389
def Lb9 (P : Params) : List Obj := [o380_9, o381_9, (o382_9 P), o383_9, o384_9, o385_9, o386_9, o387_9, (o388_9 P), o389_9, o390_9, o391_9]
def T9 (P : Params) : BT := setAll (insAll (T8 P) 380 (Lb9 P)) [(3, (o3_9 P)), (12, o12_9), (352, o352_9)]
def S9 (w : World) (os : OsState) : SharedT := ⟨T9 w.params, 392, {}, ⟨[]⟩, {}, 745, os⟩
def sts9 : List Stmt := ((behindTheImports P0).drop 46).take 1
noncomputable def pos9 : Pos := ⟨332, 0, 333, 8⟩
theorem p9 (w : World) (os : OsState) : segRun treeTable P0 w 11 (some (.ref 6)) 1 214 (S8 w os).abs (piecesOf sts9 envT cdT pos8 B0) = some (.next, (S9 w os).abs, cdT, pos9) := by
 refine piece_y ?_; kernel_rfl
def eo3_10 (P : Params) : List DictEntry := eo3_9 P ++ [de P "StepFault" 760 (.ref 401), de P "MOST_PLACES" 764 (.int 30 763), de P "MOST_POWER" 766 (.int 99 765), de P "MOST_FIGURES" 768 (.int 120 767), de P "cut_quotient" 776 (.ref 410), de P "decimal" 785 (.ref 418), de P "kept" 793 (.ref 425), de P "units_beside" 802 (.ref 432)]
def o3_10 (P : Params) : Obj := dO (de P "__name__" 165 m5 :: eo3_10 P) 59
def fo12_10 : List Value := fo12_9 ++ [.int 334 0, .int 0 0, .ref 397, .int 340 0, .int 0 0, .ref 409, .int 344 0, .int 0 0, .ref 417, .int 351 0, .int 0 0, .ref 424, .int 358 0, .int 0 0, .ref 431]
def o12_10 : Obj := fO fo12_10
def o352_10 : Obj := ⟨.type "type", none, (.cls { name := (S "LedgerError"), bases := [.type "Exception"], mro := [.ref 352, .type "Exception", .type "BaseException", .type "object"], ns := 351, qualname := (S "LedgerError"), hasDict := true, slotNames := [], subclasses := [.ref 365, .ref 377, .ref 389, .ref 401], abstract := false, collection := none, hasDel := false }), ⟨[some (.ref 327), none, some (sv "LedgerError" 657), some (sv "LedgerError" 665), some (.builtin "Exception.__new__"), some (.bool true)]⟩⟩
def o392_10 : Obj := tO [.ref 352]
def o393_10 : Obj := gP
def o394_10 (P : Params) : Obj := dO [de P "__module__" 752 m4, de P "__qualname__" 754 (sv "StepFault" 753), de P "__firstlineno__" 756 (.int 334 755), de P "__static_attributes__" 757 (.ref 399)] 4
def o395_10 : Obj := tO []
def o396_10 : Obj := fO []
def o397_10 : Obj := cO "StepFault" "StepFault" 747 [334, 0, 0, 0, 0] 395 false 396 .none .none .none 750 334 751
def o398_10 : Obj := gF 397 394 m4
def o399_10 : Obj := tO []
def o400_10 (P : Params) : Obj := dO [de P "__module__" 752 m4, de P "__firstlineno__" 756 (.int 334 755), de P "__static_attributes__" 757 (.ref 399), de P "__doc__" 758 .none] 2
def o401_10 : Obj := ⟨.type "type", none, (.cls { name := (S "StepFault"), bases := [.ref 352], mro := [.ref 401, .ref 352, .type "Exception", .type "BaseException", .type "object"], ns := 400, qualname := (S "StepFault"), hasDict := true, slotNames := [], subclasses := [], abstract := false, collection := none, hasDel := false }), ⟨[some (.ref 392), none, some (sv "StepFault" 745), some (sv "StepFault" 753), some (.builtin "Exception.__new__"), some (.bool true)]⟩⟩
def o402_10 : Obj := gS 401
def o403_10 : Obj := gI 401
def g410 : List Obj := fA 404 769 (sAt 52) "cut_quotient" ["top", "bottom"] 340 2 m5
def o411_10 : Obj := tO [.int 0 777]
def g418 : List Obj := fC 412 778 (sAt 53) "decimal" "decimal" ["units", "scale"] 344 2 m5 (.ref 411)
def g425 : List Obj := fA 419 786 (sAt 54) "kept" ["units", "scale"] 351 2 m5
def g432 : List Obj := fA 426 794 (sAt 55) "units_beside" ["a", "b", "scale"] 358 2 m5
def Lb10 (P : Params) : List Obj := [o392_10, o393_10, (o394_10 P), o395_10, o396_10, o397_10, o398_10, o399_10, (o400_10 P), o401_10, o402_10, o403_10] ++ (g410 ++ ([o411_10] ++ (g418 ++ (g425 ++ (g432)))))
def T10 (P : Params) : BT := setAll (insAll (T9 P) 392 (Lb10 P)) [(3, (o3_10 P)), (12, o12_10), (352, o352_10)]
def S10 (w : World) (os : OsState) : SharedT := ⟨T10 w.params, 433, {}, ⟨[]⟩, {}, 803, os⟩
def sts10 : List Stmt := ((behindTheImports P0).drop 47).take 9
noncomputable def pos10 : Pos := ⟨358, 0, 360, 76⟩
theorem p10 (w : World) (os : OsState) : segRun treeTable P0 w 11 (some (.ref 6)) 1 373 (S9 w os).abs (piecesOf sts10 envT cdT pos9 B0) = some (.next, (S10 w os).abs, cdT, pos10) := by
 refine piece_y ?_; kernel_rfl
def eo3_11 (P : Params) : List DictEntry := eo3_10 P ++ [de P "plus" 813 (.ref 439), de P "minus" 824 (.ref 446), de P "times" 832 (.ref 453), de P "negated" 839 (.ref 460), de P "quotient" 848 (.ref 468), de P "power" 858 (.ref 475), de P "units_at" 869 (.ref 482), de P "is_whole" 876 (.ref 489), de P "whole_of" 883 (.ref 496), de P "fits" 891 (.ref 503), de P "MOST_FRAMES" 895 (.int 20 894), de P "NO_LABEL" 898 (.int (-1) 897)]
def o3_11 (P : Params) : Obj := dO (de P "__name__" 165 m6 :: eo3_11 P) 71
def fo12_11 : List Value := fo12_10 ++ [.int 361 0, .int 0 0, .ref 438, .int 364 0, .int 0 0, .ref 445, .int 367 0, .int 0 0, .ref 452, .int 369 0, .int 0 0, .ref 459, .int 371 0, .int 0 0, .ref 467, .int 375 0, .int 0 0, .ref 474, .int 384 0, .int 0 0, .ref 481, .int 392 0, .int 0 0, .ref 488, .int 394 0, .int 0 0, .ref 495, .int 396 0, .int 0 0, .ref 502]
def o12_11 : Obj := fO fo12_11
def g439 : List Obj := fA 433 803 (sAt 56) "plus" ["a", "b", "first", "second", "scale"] 361 2 m5
def g446 : List Obj := fA 440 814 (sAt 57) "minus" ["a", "b", "first", "second", "scale"] 364 2 m5
def g453 : List Obj := fA 447 825 (sAt 58) "times" ["a", "b"] 367 2 m5
def g460 : List Obj := fA 454 833 (sAt 59) "negated" ["a"] 369 1 m5
def o461_11 : Obj := tO [.int 30 763]
def g468 : List Obj := fC 462 840 (sAt 60) "quotient" "quotient" ["a", "b", "many"] 371 3 m5 (.ref 461)
def g475 : List Obj := fA 469 849 (sAt 61) "power" ["a", "b", "found", "turn"] 375 2 m5
def g482 : List Obj := fA 476 859 (sAt 62) "units_at" ["a", "scale", "is_rounded", "size", "half"] 384 3 m5
def g489 : List Obj := fA 483 870 (sAt 63) "is_whole" ["a"] 392 1 m5
def g496 : List Obj := fA 490 877 (sAt 64) "whole_of" ["a"] 394 1 m5
def g503 : List Obj := fA 497 884 (sAt 65) "fits" ["units", "digits"] 396 2 m5
def Lb11 (P : Params) : List Obj := g439 ++ (g446 ++ (g453 ++ (g460 ++ ([o461_11] ++ (g468 ++ (g475 ++ (g482 ++ (g489 ++ (g496 ++ (g503))))))))))
def T11 (P : Params) : BT := setAll (insAll (T10 P) 433 (Lb11 P)) [(3, (o3_11 P)), (12, o12_11)]
def S11 (w : World) (os : OsState) : SharedT := ⟨T11 w.params, 504, {}, ⟨[]⟩, {}, 899, os⟩
def sts11 : List Stmt := ((behindTheImports P0).drop 56).take 13
noncomputable def pos11 : Pos := ⟨400, 0, 400, 8⟩
theorem p11 (w : World) (os : OsState) : segRun treeTable P0 w 11 (some (.ref 6)) 1 345 (S10 w os).abs (piecesOf sts11 envT cdT pos10 B0) = some (.next, (S11 w os).abs, cdT, pos11) := by
 refine piece_y ?_; kernel_rfl
def eo3_12 (P : Params) : List DictEntry := eo3_11 P ++ [de P "Frame" 930 (.ref 520)]
def o3_12 (P : Params) : Obj := dO (de P "__name__" 165 m6 :: eo3_12 P) 72
def fo12_12 : List Value := fo12_11 ++ [.int 401 0, .int 0 0, .ref 509]
def o12_12 : Obj := fO fo12_12
def o504_12 : Obj := tO []
def o505_12 : Obj := gP
def o506_12 (P : Params) : Obj := dO [de P "__module__" 906 m6, de P "__qualname__" 908 (sv "Frame" 907), de P "__firstlineno__" 910 (.int 401 909), de P "__init__" 919 (.ref 517), de P "__static_attributes__" 923 (.ref 518)] 5
def o507_12 : Obj := tO []
def o508_12 : Obj := fO [.int 403 0, .int 4 0, .ref 516]
def o509_12 : Obj := cO "Frame" "Frame" 901 [401, 0, 0, 0, 0] 507 false 508 .none .none .none 904 401 905
def o510_12 : Obj := gF 509 506 m6
def g517 : List Obj := fC 511 911 (mAt 69 0) "__init__" "Frame.__init__" ["self", "last", "behind"] 403 3 m6 .none
def o518_12 : Obj := tO [sv "behind" 920, sv "last" 921, sv "slots" 922]
def o519_12 (P : Params) : Obj := dO [de P "__module__" 906 m6, de P "__firstlineno__" 910 (.int 401 909), de P "__init__" 919 (.ref 517), de P "__static_attributes__" 923 (.ref 518), de P "__dict__" 925 (.ref 521), de P "__weakref__" 927 (.ref 522), de P "__doc__" 928 .none] 4
def o520_12 : Obj := gC "Frame" 520 519 899 907
def o521_12 : Obj := gD 924 520
def o522_12 : Obj := gW 926 520
def o523_12 : Obj := gS 520
def o524_12 : Obj := gI 520
def Lb12 (P : Params) : List Obj := [o504_12, o505_12, (o506_12 P), o507_12, o508_12, o509_12, o510_12] ++ (g517 ++ ([o518_12, (o519_12 P), o520_12, o521_12, o522_12, o523_12, o524_12]))
def T12 (P : Params) : BT := setAll (insAll (T11 P) 504 (Lb12 P)) [(3, (o3_12 P)), (12, o12_12)]
def S12 (w : World) (os : OsState) : SharedT := ⟨T12 w.params, 525, {}, ⟨[]⟩, {}, 931, os⟩
def sts12 : List Stmt := ((behindTheImports P0).drop 69).take 1
noncomputable def pos12 : Pos := ⟨401, 0, 406, 23⟩
theorem p12 (w : World) (os : OsState) : segRun treeTable P0 w 11 (some (.ref 6)) 1 226 (S11 w os).abs (piecesOf sts12 envT cdT pos11 B0) = some (.next, (S12 w os).abs, cdT, pos12) := by
 refine piece_y ?_; kernel_rfl
def eo3_13 (P : Params) : List DictEntry := eo3_12 P ++ [de P "Machine" 974 (.ref 548), de P "calculated" 983 (.ref 559), de P "worth_by" 992 (.ref 566), de P "do_reckon" 1000 (.ref 573), de P "do_put" 1008 (.ref 580)]
def o3_13 (P : Params) : Obj := dO (de P "__name__" 165 m6 :: eo3_13 P) 77
def fo12_13 : List Value := fo12_12 ++ [.int 407 0, .int 0 0, .ref 530, .int 421 0, .int 0 0, .ref 558, .int 429 0, .int 0 0, .ref 565, .int 434 0, .int 0 0, .ref 572, .int 441 0, .int 0 0, .ref 579]
def o12_13 : Obj := fO fo12_13
def o525_13 : Obj := tO []
def o526_13 : Obj := gP
def o527_13 (P : Params) : Obj := dO [de P "__module__" 938 m6, de P "__qualname__" 940 (sv "Machine" 939), de P "__firstlineno__" 942 (.int 407 941), de P "__init__" 951 (.ref 538), de P "give_up" 959 (.ref 545), de P "__static_attributes__" 967 (.ref 546)] 6
def o528_13 : Obj := tO []
def o529_13 : Obj := fO [.int 409 0, .int 4 0, .ref 537, .int 418 0, .int 4 0, .ref 544]
def o530_13 : Obj := cO "Machine" "Machine" 933 [407, 0, 0, 0, 0] 528 false 529 .none .none .none 936 407 937
def o531_13 : Obj := gF 530 527 m6
def g538 : List Obj := fC 532 943 (mAt 70 0) "__init__" "Machine.__init__" ["self", "code", "deeds"] 409 3 m6 .none
def g545 : List Obj := fC 539 952 (mAt 70 1) "give_up" "Machine.give_up" ["self", "label"] 418 2 m6 .none
def o546_13 : Obj := tO [sv "code" 960, sv "deeds" 961, sv "frames" 962, sv "key" 963, sv "place" 964, sv "stack" 965, sv "word" 966]
def o547_13 (P : Params) : Obj := dO [de P "__module__" 938 m6, de P "__firstlineno__" 942 (.int 407 941), de P "__init__" 951 (.ref 538), de P "give_up" 959 (.ref 545), de P "__static_attributes__" 967 (.ref 546), de P "__dict__" 969 (.ref 549), de P "__weakref__" 971 (.ref 550), de P "__doc__" 972 .none] 4
def o548_13 : Obj := gC "Machine" 548 547 931 939
def o549_13 : Obj := gD 968 548
def o550_13 : Obj := gW 970 548
def o551_13 : Obj := gS 548
def o552_13 : Obj := gI 548
def g559 : List Obj := fA 553 975 (sAt 71) "calculated" ["sign", "a", "b"] 421 3 m6
def g566 : List Obj := fA 560 984 (sAt 72) "worth_by" ["machine", "op", "last"] 429 2 m6
def g573 : List Obj := fA 567 993 (sAt 73) "do_reckon" ["machine", "op"] 434 2 m6
def g580 : List Obj := fA 574 1001 (sAt 74) "do_put" ["machine", "op"] 441 2 m6
def Lb13 (P : Params) : List Obj := [o525_13, o526_13, (o527_13 P), o528_13, o529_13, o530_13, o531_13] ++ (g538 ++ (g545 ++ ([o546_13, (o547_13 P), o548_13, o549_13, o550_13, o551_13, o552_13] ++ (g559 ++ (g566 ++ (g573 ++ (g580)))))))
def T13 (P : Params) : BT := setAll (insAll (T12 P) 525 (Lb13 P)) [(3, (o3_13 P)), (12, o12_13)]
def S13 (w : World) (os : OsState) : SharedT := ⟨T13 w.params, 581, {}, ⟨[]⟩, {}, 1009, os⟩
def sts13 : List Stmt := ((behindTheImports P0).drop 70).take 5
noncomputable def pos13 : Pos := ⟨441, 0, 443, 29⟩
theorem p13 (w : World) (os : OsState) : segRun treeTable P0 w 11 (some (.ref 6)) 1 384 (S12 w os).abs (piecesOf sts13 envT cdT pos12 B0) = some (.next, (S13 w os).abs, cdT, pos13) := by
 refine piece_y ?_; kernel_rfl
def eo3_14 (P : Params) : List DictEntry := eo3_13 P ++ [de P "do_deed" 1016 (.ref 587), de P "do_key" 1024 (.ref 594), de P "do_test" 1032 (.ref 601), de P "do_jump" 1040 (.ref 608), de P "do_choose" 1049 (.ref 615), de P "begin_frame" 1057 (.ref 622), de P "leave_frame" 1065 (.ref 629), de P "do_count" 1073 (.ref 636), de P "do_less" 1082 (.ref 643), de P "do_stop" 1090 (.ref 650), de P "op_table" 1096 (.ref 657), de P "run_code" 1109 (.ref 664)]
def o3_14 (P : Params) : Obj := dO (de P "__name__" 165 m7 :: eo3_14 P) 89
def fo12_14 : List Value := fo12_13 ++ [.int 444 0, .int 0 0, .ref 586, .int 446 0, .int 0 0, .ref 593, .int 449 0, .int 0 0, .ref 600, .int 452 0, .int 0 0, .ref 607, .int 454 0, .int 0 0, .ref 614, .int 458 0, .int 0 0, .ref 621, .int 463 0, .int 0 0, .ref 628, .int 466 0, .int 0 0, .ref 635, .int 468 0, .int 0 0, .ref 642, .int 474 0, .int 0 0, .ref 649, .int 476 0, .int 0 0, .ref 656, .int 478 0, .int 0 0, .ref 663]
def o12_14 : Obj := fO fo12_14
def g587 : List Obj := fA 581 1009 (sAt 75) "do_deed" ["machine", "op"] 444 2 m6
def g594 : List Obj := fA 588 1017 (sAt 76) "do_key" ["machine", "op"] 446 2 m6
def g601 : List Obj := fA 595 1025 (sAt 77) "do_test" ["machine", "op"] 449 2 m6
def g608 : List Obj := fA 602 1033 (sAt 78) "do_jump" ["machine", "op"] 452 2 m6
def g615 : List Obj := fA 609 1041 (sAt 79) "do_choose" ["machine", "op", "worth"] 454 2 m6
def g622 : List Obj := fA 616 1050 (sAt 80) "begin_frame" ["machine", "op"] 458 2 m6
def g629 : List Obj := fA 623 1058 (sAt 81) "leave_frame" ["machine", "op"] 463 2 m6
def g636 : List Obj := fA 630 1066 (sAt 82) "do_count" ["machine", "op"] 466 2 m6
def g643 : List Obj := fA 637 1074 (sAt 83) "do_less" ["machine", "op", "slots"] 468 2 m6
def g650 : List Obj := fA 644 1083 (sAt 84) "do_stop" ["machine", "op"] 474 2 m6
def g657 : List Obj := fA 651 1091 (sAt 85) "op_table" [] 476 0 m6
def g664 : List Obj := fA 658 1097 (sAt 86) "run_code" ["code", "deeds", "limit", "machine", "table", "steps", "op"] 478 3 m6
def Lb14 (P : Params) : List Obj := g587 ++ (g594 ++ (g601 ++ (g608 ++ (g615 ++ (g622 ++ (g629 ++ (g636 ++ (g643 ++ (g650 ++ (g657 ++ (g664)))))))))))
def T14 (P : Params) : BT := setAll (insAll (T13 P) 581 (Lb14 P)) [(3, (o3_14 P)), (12, o12_14)]
def S14 (w : World) (os : OsState) : SharedT := ⟨T14 w.params, 665, {}, ⟨[]⟩, {}, 1112, os⟩
def sts14 : List Stmt := ((behindTheImports P0).drop 75).take 13
noncomputable def pos14 : Pos := ⟨492, 0, 492, 8⟩
theorem p14 (w : World) (os : OsState) : segRun treeTable P0 w 11 (some (.ref 6)) 1 375 (S13 w os).abs (piecesOf sts14 envT cdT pos13 B0) = some (.next, (S14 w os).abs, cdT, pos14) := by
 refine piece_y ?_; kernel_rfl
def eo3_15 (P : Params) : List DictEntry := eo3_14 P ++ [de P "Paragraph" 1151 (.ref 688)]
def o3_15 (P : Params) : Obj := dO (de P "__name__" 165 m7 :: eo3_15 P) 90
def fo12_15 : List Value := fo12_14 ++ [.int 493 0, .int 0 0, .ref 670]
def o12_15 : Obj := fO fo12_15
def o665_15 : Obj := tO []
def o666_15 : Obj := gP
def o667_15 (P : Params) : Obj := dO [de P "__module__" 1119 m7, de P "__qualname__" 1121 (sv "Paragraph" 1120), de P "__firstlineno__" 1123 (.int 493 1122), de P "__init__" 1133 (.ref 678), de P "told" 1140 (.ref 685), de P "__static_attributes__" 1144 (.ref 686)] 6
def o668_15 : Obj := tO []
def o669_15 : Obj := fO [.int 495 0, .int 4 0, .ref 677, .int 500 0, .int 4 0, .ref 684]
def o670_15 : Obj := cO "Paragraph" "Paragraph" 1114 [493, 0, 0, 0, 0] 668 false 669 .none .none .none 1117 493 1118
def o671_15 : Obj := gF 670 667 m7
def g678 : List Obj := fC 672 1124 (mAt 88 0) "__init__" "Paragraph.__init__" ["self", "name", "section", "statements"] 495 4 m7 .none
def g685 : List Obj := fC 679 1134 (mAt 88 1) "told" "Paragraph.told" ["self"] 500 1 m7 .none
def o686_15 : Obj := tO [sv "name" 1141, sv "section" 1142, sv "statements" 1143]
def o687_15 (P : Params) : Obj := dO [de P "__module__" 1119 m7, de P "__firstlineno__" 1123 (.int 493 1122), de P "__init__" 1133 (.ref 678), de P "told" 1140 (.ref 685), de P "__static_attributes__" 1144 (.ref 686), de P "__dict__" 1146 (.ref 689), de P "__weakref__" 1148 (.ref 690), de P "__doc__" 1149 .none] 4
def o688_15 : Obj := gC "Paragraph" 688 687 1112 1120
def o689_15 : Obj := gD 1145 688
def o690_15 : Obj := gW 1147 688
def o691_15 : Obj := gS 688
def o692_15 : Obj := gI 688
def Lb15 (P : Params) : List Obj := [o665_15, o666_15, (o667_15 P), o668_15, o669_15, o670_15, o671_15] ++ (g678 ++ (g685 ++ ([o686_15, (o687_15 P), o688_15, o689_15, o690_15, o691_15, o692_15])))
def T15 (P : Params) : BT := setAll (insAll (T14 P) 665 (Lb15 P)) [(3, (o3_15 P)), (12, o12_15)]
def S15 (w : World) (os : OsState) : SharedT := ⟨T15 w.params, 693, {}, ⟨[]⟩, {}, 1152, os⟩
def sts15 : List Stmt := ((behindTheImports P0).drop 88).take 1
noncomputable def pos15 : Pos := ⟨493, 0, 501, 57⟩
theorem p15 (w : World) (os : OsState) : segRun treeTable P0 w 11 (some (.ref 6)) 1 258 (S14 w os).abs (piecesOf sts15 envT cdT pos14 B0) = some (.next, (S15 w os).abs, cdT, pos15) := by
 refine piece_y ?_; kernel_rfl
def eo3_16 (P : Params) : List DictEntry := eo3_15 P ++ [de P "Procedures" 1210 (.ref 728), de P "_law_pen" 1218 (.ref 737), de P "_law_draw" 1231 (.ref 744)]
def o3_16 (P : Params) : Obj := dO (de P "__name__" 165 m8 :: eo3_16 P) 93
def fo12_16 : List Value := fo12_15 ++ [.int 502 0, .int 0 0, .ref 698, .int 532 0, .int 0 0, .ref 736, .int 534 0, .int 0 0, .ref 743]
def o12_16 : Obj := fO fo12_16
def o693_16 : Obj := tO []
def o694_16 : Obj := gP
def o695_16 (P : Params) : Obj := dO [de P "__module__" 1159 m7, de P "__qualname__" 1161 (sv "Procedures" 1160), de P "__firstlineno__" 1163 (.int 502 1162), de P "__init__" 1172 (.ref 706), de P "told" 1178 (.ref 711), de P "section_end" 1187 (.ref 718), de P "range_of" 1200 (.ref 725), de P "__static_attributes__" 1203 (.ref 726)] 8
def o696_16 : Obj := tO []
def o697_16 : Obj := fO [.int 504 0, .int 4 0, .ref 705, .int 508 0, .int 4 0, .ref 710, .int 511 0, .int 4 0, .ref 717, .int 517 0, .int 4 0, .ref 724]
def o698_16 : Obj := cO "Procedures" "Procedures" 1154 [502, 0, 0, 0, 0] 696 false 697 .none .none .none 1157 502 1158
def o699_16 : Obj := gF 698 695 m7
def g706 : List Obj := fC 700 1164 (mAt 89 0) "__init__" "Procedures.__init__" ["self", "rows", "using"] 504 3 m7 .none
def g711 : List Obj := fB 707 1173 (mAt 89 1) "told" "Procedures.told" 508 1 m7
def g718 : List Obj := fC 712 1179 (mAt 89 2) "section_end" "Procedures.section_end" ["self", "at", "end"] 511 2 m7 .none
def g725 : List Obj := fC 719 1188 (mAt 89 3) "range_of" "Procedures.range_of" ["self", "pair", "name", "section", "found", "at", "row"] 517 2 m7 .none
def o726_16 : Obj := tO [sv "rows" 1201, sv "using" 1202]
def o727_16 (P : Params) : Obj := dO [de P "__module__" 1159 m7, de P "__firstlineno__" 1163 (.int 502 1162), de P "__init__" 1172 (.ref 706), de P "told" 1178 (.ref 711), de P "section_end" 1187 (.ref 718), de P "range_of" 1200 (.ref 725), de P "__static_attributes__" 1203 (.ref 726), de P "__dict__" 1205 (.ref 729), de P "__weakref__" 1207 (.ref 730), de P "__doc__" 1208 .none] 4
def o728_16 : Obj := gC "Procedures" 728 727 1152 1160
def o729_16 : Obj := gD 1204 728
def o730_16 : Obj := gW 1206 728
def o731_16 : Obj := gS 728
def o732_16 : Obj := gI 728
def g737 : List Obj := fB 733 1213 (sAt 91) "_law_pen" "_law_pen" 532 1 m8
def g744 : List Obj := fA 738 1219 (sAt 92) "_law_draw" ["pen", "many", "digit", "spot", "cell", "great", "churned"] 534 2 m8
def Lb16 (P : Params) : List Obj := [o693_16, o694_16, (o695_16 P), o696_16, o697_16, o698_16, o699_16] ++ (g706 ++ (g711 ++ (g718 ++ (g725 ++ ([o726_16, (o727_16 P), o728_16, o729_16, o730_16, o731_16, o732_16] ++ (g737 ++ (g744)))))))
def T16 (P : Params) : BT := setAll (insAll (T15 P) 693 (Lb16 P)) [(3, (o3_16 P)), (12, o12_16)]
def S16 (w : World) (os : OsState) : SharedT := ⟨T16 w.params, 745, {}, ⟨[]⟩, {}, 1232, os⟩
def sts16 : List Stmt := ((behindTheImports P0).drop 89).take 4
noncomputable def pos16 : Pos := ⟨534, 0, 550, 36⟩
theorem p16 (w : World) (os : OsState) : segRun treeTable P0 w 11 (some (.ref 6)) 1 393 (S15 w os).abs (piecesOf sts16 envT cdT pos15 B0) = some (.next, (S16 w os).abs, cdT, pos16) := by
 refine piece_y ?_; kernel_rfl
def eo3_17 (P : Params) : List DictEntry := eo3_16 P ++ [de P "_law_expr" 1240 (.ref 751), de P "_law_worth" 1251 (.ref 758), de P "_law_number" 1260 (.ref 765), de P "_law_put" 1270 (.ref 772), de P "_law_noted" 1278 (.ref 779), de P "_law_said" 1285 (.ref 786), de P "_law_due" 1299 (.ref 793), de P "_law_statement" 1305 (.ref 798), de P "law" 1320 (.ref 805)]
def o3_17 (P : Params) : Obj := dO (de P "__name__" 165 m8 :: eo3_17 P) 102
def fo12_17 : List Value := fo12_16 ++ [.int 551 0, .int 0 0, .ref 750, .int 562 0, .int 0 0, .ref 757, .int 576 0, .int 0 0, .ref 764, .int 583 0, .int 0 0, .ref 771, .int 586 0, .int 0 0, .ref 778, .int 589 0, .int 0 0, .ref 785, .int 591 0, .int 0 0, .ref 792, .int 601 0, .int 0 0, .ref 797, .int 611 0, .int 0 0, .ref 804]
def o12_17 : Obj := fO fo12_17
def g751 : List Obj := fA 745 1232 (sAt 93) "_law_expr" ["pen", "deep", "way"] 551 2 m8
def g758 : List Obj := fA 752 1241 (sAt 94) "_law_worth" ["expr", "numbers", "log", "first", "second"] 562 3 m8
def g765 : List Obj := fA 759 1252 (sAt 95) "_law_number" ["operand", "numbers", "log"] 576 3 m8
def g772 : List Obj := fA 766 1261 (sAt 96) "_law_put" ["rows", "worth", "full", "log"] 583 4 m8
def g779 : List Obj := fA 773 1271 (sAt 97) "_law_noted" ["statement", "log"] 586 2 m8
def g786 : List Obj := fA 780 1279 (sAt 98) "_law_said" ["number"] 589 1 m8
def g793 : List Obj := fA 787 1286 (sAt 99) "_law_due" ["statement", "numbers", "full", "log", "worth", "is_well", "key", "statements"] 591 4 m8
def g798 : List Obj := fB 794 1300 (sAt 100) "_law_statement" "_law_statement" 601 2 m8
def o799_17 : Obj := tO []
def o800_17 : Obj := fO []
def o801_17 : Obj := tO [sv "script" 1309, sv "pen" 1310, sv "statements" 1311, sv "name" 1312, sv "due" 1313, sv "deeds" 1314]
def o802_17 : Obj := tO [sv "full" 1315, sv "log" 1316, sv "numbers" 1317]
def o803_17 : Obj := gO (sAt 101) "law"
def o804_17 : Obj := cO "law" "law" 1306 [611, 1, 0, 0, 3] 799 true 800 (.ref 801) (.ref 802) (.ref 803) 1318 611 1319
def o805_17 : Obj := hO (sAt 101) "law" .none m8 804
def Lb17 (P : Params) : List Obj := g751 ++ (g758 ++ (g765 ++ (g772 ++ (g779 ++ (g786 ++ (g793 ++ (g798 ++ ([o799_17, o800_17, o801_17, o802_17, o803_17, o804_17, o805_17]))))))))
def T17 (P : Params) : BT := setAll (insAll (T16 P) 745 (Lb17 P)) [(3, (o3_17 P)), (12, o12_17)]
def S17 (w : World) (os : OsState) : SharedT := ⟨T17 w.params, 806, {}, ⟨[]⟩, {}, 1321, os⟩
def sts17 : List Stmt := ((behindTheImports P0).drop 93).take 9
noncomputable def pos17 : Pos := ⟨611, 0, 627, 115⟩
theorem p17 (w : World) (os : OsState) : segRun treeTable P0 w 11 (some (.ref 6)) 1 286 (S16 w os).abs (piecesOf sts17 envT cdT pos16 B0) = some (.next, (S17 w os).abs, cdT, pos17) := by
 refine piece_y ?_; kernel_rfl
def hpF (P : Params) : Heap := ⟨⟨[boot_o_0 P, boot_o_1 P, (o2_6 P), (o3_17 P), boot_o_4 P, boot_o_5 P, boot_o_6 P, boot_o_7 P, boot_o_8 P, boot_o_9 P, boot_o_10 P, o11, o12_17, o13, o14] ++ (Lb0 P ++ (Lb1 P ++ (Lb2 P ++ (Lb3 P ++ (Lb4 P ++ (Lb5 P ++ ([o327_6, o328_6, (o329_6 P), o330_6, o331_6, o332_6, o333_6, o334_6, o335_6] ++ (g342 ++ (g349 ++ ([o350_6, (o351_6 P), o352_10, o353_6, o354_6, o355_6] ++ (Lb7 P ++ (Lb8 P ++ (Lb9 P ++ (Lb10 P ++ (Lb11 P ++ (Lb12 P ++ (Lb13 P ++ (Lb14 P ++ (Lb15 P ++ (Lb16 P ++ (Lb17 P)))))))))))))))))))))⟩, {}⟩
theorem fin_ (w : World) (os : OsState) : topRun treeTable P0 w 11 (some (.ref 6)) 2 (S17 w os).abs ⟨doneF .next, cdT, pos17, B0⟩ = some ⟨hpF w.params, ⟨[]⟩, {}, 1321, os⟩ := by kernel_rfl
theorem cut_ : behindTheImports P0 = sts0 ++ (sts1 ++ (sts2 ++ (sts3 ++ (sts4 ++ (sts5 ++ (sts6 ++ (sts7 ++ (sts8 ++ (sts9 ++ (sts10 ++ (sts11 ++ (sts12 ++ (sts13 ++ (sts14 ++ (sts15 ++ (sts16 ++ (sts17 ++ ([])))))))))))))))))) := by kernel_rfl
theorem run_ : ∀ (w : World) (os : OsState), topRun treeTable P0 w 11 (some (.ref 6)) (12 + (1 + (388 + (297 + (311 + (409 + (373 + (173 + (267 + (214 + (214 + (214 + (373 + (345 + (226 + (384 + (375 + (258 + (393 + (286 + 2)))))))))))))))))))) ⟨boot_heap w.params, ⟨[]⟩, boot_drawn, boot_toks, os⟩ (topStub P0) = some ⟨hpF w.params, ⟨[]⟩, {}, 1321, os⟩ := by
 intro w os
 refine go_top (pre_ w os) (piece_block (block_ w os) ?_)
 rw [cut_]
 exact piece_app (p0 w os) (piece_app (p1 w os) (piece_app (p2 w os) (piece_app (p3 w os) (piece_app (p4 w os) (piece_app (p5 w os) (piece_app (p6 w os) (piece_app (p7 w os) (piece_app (p8 w os) (piece_app (p9 w os) (piece_app (p10 w os) (piece_app (p11 w os) (piece_app (p12 w os) (piece_app (p13 w os) (piece_app (p14 w os) (piece_app (p15 w os) (piece_app (p16 w os) (piece_app (p17 w os) (piece_nil (fin_ w os)))))))))))))))))))
def q0 : Program := { P0 with main := { P0.main with body := [sAt 101] } }
def loose0 : List Str := [S "Deeds", S "always", S "negated_if", S "truth_of", S "alike_truths", S "object_cond", S "row_cond", S "rows_cond", S "as_ifs", S "goal_parts", S "sort_parts", S "BRANCHED", S "branches_of", S "JOINERS", S "OPERANDS", S "QUIET", S "LET", S "Code", S "labels_of", S "relabelled", S "Draft", S "put_expression", S "put_condition", S "put_statements", S "put_statement", S "put_if", S "put_arith", S "put_deed", S "put_sort", S "put_range", S "put_goal", S "put_perform", S "put_times", S "put_until", S "put_step", S "put_varying", S "put_varying_after", S "compiled", S "LedgerError", S "CheckFault", S "RunFault", S "SizeFault", S "StepFault", S "MOST_PLACES", S "MOST_POWER", S "MOST_FIGURES", S "cut_quotient", S "decimal", S "kept", S "units_beside", S "plus", S "minus", S "times", S "negated", S "quotient", S "power", S "units_at", S "is_whole", S "whole_of", S "fits", S "MOST_FRAMES", S "NO_LABEL", S "Frame", S "Machine", S "calculated", S "worth_by", S "do_reckon", S "do_put", S "do_deed", S "do_key", S "do_test", S "do_jump", S "do_choose", S "begin_frame", S "leave_frame", S "do_count", S "do_less", S "do_stop", S "op_table", S "run_code", S "Paragraph", S "Procedures", S "_law_pen", S "_law_draw", S "_law_expr", S "_law_worth", S "_law_number", S "_law_put", S "_law_noted", S "_law_said", S "_law_due", S "_law_statement"]
def K0 (P : Params) : Frag := [(3, o3_17 P), (13, o13), (20, o20_0), (27, (n5 g28)), (28, (n6 g28)), (30, o30_0 P), (31, o31_0), (32, o32_0), (33, o33_0), (41, (n5 g42)), (42, (n6 g42)), (48, (n5 g49)), (49, (n6 g49)), (55, (n5 g56)), (56, (n6 g56)), (62, (n5 g63)), (63, (n6 g63)), (69, (n5 g70)), (70, (n6 g70)), (76, (n5 g77)), (77, (n6 g77)), (83, (n5 g84)), (84, (n6 g84)), (90, (n5 g91)), (91, (n6 g91)), (97, (n5 g98)), (98, (n6 g98)), (104, (n5 g105)), (105, (n6 g105)), (106, o106_1), (110, (n3 g111)), (111, (n4 g111)), (112, o112_1), (113, o113_1), (114, o114_1), (120, o120_2), (127, (n5 g128)), (128, (n6 g128)), (134, (n5 g135)), (135, (n6 g135)), (137, o137_2 P), (138, o138_2), (139, o139_2), (140, o140_2), (148, (n5 g149)), (149, (n6 g149)), (153, (n3 g154)), (154, (n4 g154)), (160, o160_3), (165, (n3 g166)), (166, (n4 g166)), (172, (n5 g173)), (173, (n6 g173)), (179, (n5 g180)), (180, (n6 g180)), (186, (n5 g187)), (187, (n6 g187)), (193, (n5 g194)), (194, (n6 g194)), (200, (n5 g201)), (201, (n6 g201)), (205, (n3 g206)), (206, (n4 g206)), (208, o208_3 P), (209, o209_3), (210, o210_3), (211, o211_3), (219, (n5 g220)), (220, (n6 g220)), (226, (n5 g227)), (227, (n6 g227)), (233, (n5 g234)), (234, (n6 g234)), (238, (n3 g239)), (239, (n4 g239)), (245, (n5 g246)), (246, (n6 g246)), (252, (n5 g253)), (253, (n6 g253)), (257, (n3 g258)), (258, (n4 g258)), (264, (n5 g265)), (265, (n6 g265)), (271, (n5 g272)), (272, (n6 g272)), (278, (n5 g279)), (279, (n6 g279)), (285, (n5 g286)), (286, (n6 g286)), (292, (n5 g293)), (293, (n6 g293)), (299, (n5 g300)), (300, (n6 g300)), (306, (n5 g307)), (307, (n6 g307)), (311, (n3 g312)), (312, (n4 g312)), (318, (n5 g319)), (319, (n6 g319)), (325, (n5 g326)), (326, (n6 g326)), (332, o332_6), (335, o335_6), (341, (n5 g342)), (342, (n6 g342)), (348, (n5 g349)), (349, (n6 g349)), (351, o351_6 P), (352, o352_10), (353, o353_6), (361, o361_7), (364, o364_7 P), (365, o365_7), (373, o373_8), (376, o376_8 P), (377, o377_8), (385, o385_9), (388, o388_9 P), (389, o389_9), (397, o397_10), (400, o400_10 P), (401, o401_10), (409, (n5 g410)), (410, (n6 g410)), (411, o411_10), (417, (n5 g418)), (418, (n6 g418)), (424, (n5 g425)), (425, (n6 g425)), (431, (n5 g432)), (432, (n6 g432)), (438, (n5 g439)), (439, (n6 g439)), (445, (n5 g446)), (446, (n6 g446)), (452, (n5 g453)), (453, (n6 g453)), (459, (n5 g460)), (460, (n6 g460)), (461, o461_11), (467, (n5 g468)), (468, (n6 g468)), (474, (n5 g475)), (475, (n6 g475)), (481, (n5 g482)), (482, (n6 g482)), (488, (n5 g489)), (489, (n6 g489)), (495, (n5 g496)), (496, (n6 g496)), (502, (n5 g503)), (503, (n6 g503)), (509, o509_12), (516, (n5 g517)), (517, (n6 g517)), (519, o519_12 P), (520, o520_12), (521, o521_12), (522, o522_12), (530, o530_13), (537, (n5 g538)), (538, (n6 g538)), (544, (n5 g545)), (545, (n6 g545)), (547, o547_13 P), (548, o548_13), (549, o549_13), (550, o550_13), (558, (n5 g559)), (559, (n6 g559)), (565, (n5 g566)), (566, (n6 g566)), (572, (n5 g573)), (573, (n6 g573)), (579, (n5 g580)), (580, (n6 g580)), (586, (n5 g587)), (587, (n6 g587)), (593, (n5 g594)), (594, (n6 g594)), (600, (n5 g601)), (601, (n6 g601)), (607, (n5 g608)), (608, (n6 g608)), (614, (n5 g615)), (615, (n6 g615)), (621, (n5 g622)), (622, (n6 g622)), (628, (n5 g629)), (629, (n6 g629)), (635, (n5 g636)), (636, (n6 g636)), (642, (n5 g643)), (643, (n6 g643)), (649, (n5 g650)), (650, (n6 g650)), (656, (n5 g657)), (657, (n6 g657)), (663, (n5 g664)), (664, (n6 g664)), (670, o670_15), (677, (n5 g678)), (678, (n6 g678)), (684, (n5 g685)), (685, (n6 g685)), (687, o687_15 P), (688, o688_15), (689, o689_15), (690, o690_15), (698, o698_16), (705, (n5 g706)), (706, (n6 g706)), (710, (n3 g711)), (711, (n4 g711)), (717, (n5 g718)), (718, (n6 g718)), (724, (n5 g725)), (725, (n6 g725)), (727, o727_16 P), (728, o728_16), (729, o729_16), (730, o730_16), (736, (n3 g737)), (737, (n4 g737)), (743, (n5 g744)), (744, (n6 g744)), (750, (n5 g751)), (751, (n6 g751)), (757, (n5 g758)), (758, (n6 g758)), (764, (n5 g765)), (765, (n6 g765)), (771, (n5 g772)), (772, (n6 g772)), (778, (n5 g779)), (779, (n6 g779)), (785, (n5 g786)), (786, (n6 g786)), (792, (n5 g793)), (793, (n6 g793)), (797, (n3 g798)), (798, (n4 g798)), (804, o804_17), (805, o805_17)]
def KT (P : Params) : Frag := K0 P ++ [(203, (n1 g206)), (800, o800_17)]
noncomputable def as0 : List Addr := [3, 13, 20, 27, 28, 30, 31, 32, 33, 41, 42, 48, 49, 55, 56, 62, 63, 69, 70, 76, 77, 83, 84, 90, 91, 97, 98, 104, 105, 106, 110, 111, 112, 113, 114, 120, 127, 128, 134, 135, 137, 138, 139, 140, 148, 149, 153, 154, 160, 165, 166, 172, 173, 179, 180, 186, 187, 193, 194, 200, 201, 205, 206, 208, 209, 210, 211, 219, 220, 226, 227, 233, 234, 238, 239, 245, 246, 252, 253, 257, 258, 264, 265, 271, 272, 278, 279, 285, 286, 292, 293, 299, 300, 306, 307, 311, 312, 318, 319, 325, 326, 332, 335, 341, 342, 348, 349, 351, 352, 353, 361, 364, 365, 373, 376, 377, 385, 388, 389, 397, 400, 401, 409, 410, 411, 417, 418, 424, 425, 431, 432, 438, 439, 445, 446, 452, 453, 459, 460, 461, 467, 468, 474, 475, 481, 482, 488, 489, 495, 496, 502, 503, 509, 516, 517, 519, 520, 521, 522, 530, 537, 538, 544, 545, 547, 548, 549, 550, 558, 559, 565, 566, 572, 573, 579, 580, 586, 587, 593, 594, 600, 601, 607, 608, 614, 615, 621, 622, 628, 629, 635, 636, 642, 643, 649, 650, 656, 657, 663, 664, 670, 677, 678, 684, 685, 687, 688, 689, 690, 698, 705, 706, 710, 711, 717, 718, 724, 725, 727, 728, 729, 730, 736, 737, 743, 744, 750, 751, 757, 758, 764, 765, 771, 772, 778, 779, 785, 786, 792, 793, 797, 798, 804, 805, 203, 800]
theorem as_ : ∀ P, as0 = (KT P).map (·.1) := by intro P; kernel_rfl
theorem size_ : ∀ w : World, ((boot_heap w.params).isNs mainGlobals && (⟨[]⟩ : Array GenState).size == 0, (boot_heap w.params).objs.size, (boot_heap w.params).nsMap mainGlobals "__annotations__") = (true, 11, some (.ref 6)) := by
 intro w; kernel_rfl
theorem looksA (w : World) (os : OsState) : (staticsOk (importedModules P0.main.body) (boot_heap w.params) (hpF w.params) && namesBound P0 (hpF w.params) && gensDone ⟨hpF w.params, ⟨[]⟩, {}, 1321, os⟩ && laidKept (boot_heap w.params) (hpF w.params)) = true := by kernel_rfl
theorem looksB (w : World) (os : OsState) : openSeen q0 loose0 (importedModules P0.main.body) (fun _ => true) true ⟨hpF w.params, ⟨[]⟩, {}, 1321, os⟩ = openGood q0 loose0 := by
 rw [show @openSeen = PySem.W.Fast.tw4187177175401517315 from PySem.W.Fast.te4187177175401517315]; kernel_rfl
theorem looksC (w : World) : as0.map (hpF w.params).get? = (KT w.params).map fun p => some p.2 := by kernel_rfl
theorem open_ : ∀ w : World, (fencedOpening treeTable P0 w 20000).map (fun s => (s.heap, s.gens, s.drawn, s.toks)) = some (boot_heap w.params, Array.mk [], boot_drawn, boot_toks) :=
 boot_open (by kernel_rfl) (by rfl) (by intro s; kernel_rfl)
theorem left_ : LeftO P0 q0 loose0 (fun _ => true) (fun s => as0.map s.heap.get?) (fun w => (KT w.params).map fun p => some p.2) 20000 := by
 refine LeftO.of_pieces (H₁ := hpF) (gs₁ := ⟨[]⟩) (d₁ := {}) (k₁ := 1321) open_ size_ run_ (by rfl) fun w => funext fun os => ?_
 exact Prod.ext (looksA w os) (Prod.ext (looksB w os) (looksC w))
theorem said_ : (PySem.Challenge.rw_pc0149_01).wellSaid = true := by
 rw [show OpenLaw.wellSaid = PySem.W.Fast.tw9446332074065402090 from PySem.W.Fast.te9446332074065402090]; kernel_rfl
def d0 : DefRec := match sAt 101 with
 | .FunctionDef n a b _ _ _ sc _ _ pos => ⟨n, a, b, sc, pos⟩
 | _ => ⟨S "", ⟨[], [], none, [], [], none, []⟩, [], { kind := .function, names := [], isGenerator := false, isCoroutine := false, more := [] }, pz⟩
theorem bare_ : P0.bare := ⟨rfl, rfl, rfl, rfl, rfl, by decide +kernel⟩
theorem head_ (call : WalkO q0 loose0 (fun _ _ => True) (InK KT) PySem.Challenge.rw_pc0149_01.row.toRowW d0 [] (fun f vs => PySem.call f vs)) : PySem.Challenge.rw_pc0149_01.Holds := by
 refine ⟨said_, ?_⟩
 refine holds_open (r := PySem.Challenge.rw_pc0149_01.row) (XP := fun _ _ => True) (d := d0) (kwd := []) (YP := InK KT) left_ (fun w s e => InK.of as_ w s e) (InK.keeps) (fun _ _ => trivial) (fun _ _ _ _ _ => trivial) ?_ ?_ ?_ ?_ rfl ?_ ?_ bare_ ?_ call
 ·kernel_rfl
 ·kernel_rfl
 ·kernel_rfl
 ·intro s _; exact recFacts_of (R := []) (by rfl)
 ·exact row_said said_
 ·kernel_rfl
 ·exact ⟨[.list []], by decide +kernel, by decide +kernel⟩
def f28 : Fn := mkFn (n6 g28) none []
def f111 : Fn := mkFn (n4 g111) none []
def f128 : Fn := mkFn (n6 g128) none []
def f149 : Fn := mkFn (n6 g149) none []
def f154 : Fn := mkFn (n4 g154) none []
def f166 : Fn := mkFn (n4 g166) none []
def f173 : Fn := mkFn (n6 g173) none []
def f180 : Fn := mkFn (n6 g180) none []
def f187 : Fn := mkFn (n6 g187) none []
def f206 : Fn := mkFn (n4 g206) (some 0) []
def f220 : Fn := mkFn (n6 g220) none []
def f234 : Fn := mkFn (n6 g234) none []
def f239 : Fn := mkFn (n4 g239) none []
def f253 : Fn := mkFn (n6 g253) none []
def f258 : Fn := mkFn (n4 g258) none []
def f326 : Fn := mkFn (n6 g326) none []
def f342 : Fn := mkFn (n6 g342) none [.glob 334]
def f410 : Fn := mkFn (n6 g410) none []
def f418 : Fn := mkFn (n6 g418) none [.int (0)]
def f425 : Fn := mkFn (n6 g425) none []
def f432 : Fn := mkFn (n6 g432) none []
def f439 : Fn := mkFn (n6 g439) none []
def f446 : Fn := mkFn (n6 g446) none []
def f453 : Fn := mkFn (n6 g453) none []
def f460 : Fn := mkFn (n6 g460) none []
def f468 : Fn := mkFn (n6 g468) none [.int (30)]
def f475 : Fn := mkFn (n6 g475) none []
def f503 : Fn := mkFn (n6 g503) none []
def f517 : Fn := mkFn (n6 g517) none []
def f538 : Fn := mkFn (n6 g538) none []
def f545 : Fn := mkFn (n6 g545) none []
def f559 : Fn := mkFn (n6 g559) none []
def f566 : Fn := mkFn (n6 g566) none []
def f573 : Fn := mkFn (n6 g573) none []
def f580 : Fn := mkFn (n6 g580) none []
def f587 : Fn := mkFn (n6 g587) none []
def f594 : Fn := mkFn (n6 g594) none []
def f601 : Fn := mkFn (n6 g601) none []
def f608 : Fn := mkFn (n6 g608) none []
def f615 : Fn := mkFn (n6 g615) none []
def f622 : Fn := mkFn (n6 g622) none []
def f629 : Fn := mkFn (n6 g629) none []
def f636 : Fn := mkFn (n6 g636) none []
def f643 : Fn := mkFn (n6 g643) none []
def f650 : Fn := mkFn (n6 g650) none []
def f657 : Fn := mkFn (n6 g657) none []
def f664 : Fn := mkFn (n6 g664) none []
def f678 : Fn := mkFn (n6 g678) none []
def f706 : Fn := mkFn (n6 g706) none []
def f737 : Fn := mkFn (n4 g737) none []
def f744 : Fn := mkFn (n6 g744) none []
def f751 : Fn := mkFn (n6 g751) none []
def f758 : Fn := mkFn (n6 g758) none []
def f765 : Fn := mkFn (n6 g765) none []
def f772 : Fn := mkFn (n6 g772) none []
def f779 : Fn := mkFn (n6 g779) none []
def f786 : Fn := mkFn (n6 g786) none []
def f793 : Fn := mkFn (n6 g793) none []
def f798 : Fn := mkFn (n4 g798) none []
def f805 : Fn := mkFn o805_17 (some 1) []
def fnO : List (Addr × Obj × Option Nat) := [(28, (n6 g28), none), (111, (n4 g111), none), (128, (n6 g128), none), (149, (n6 g149), none), (154, (n4 g154), none), (166, (n4 g166), none), (173, (n6 g173), none), (180, (n6 g180), none), (187, (n6 g187), none), (206, (n4 g206), some 0), (220, (n6 g220), none), (234, (n6 g234), none), (239, (n4 g239), none), (253, (n6 g253), none), (258, (n4 g258), none), (326, (n6 g326), none), (410, (n6 g410), none), (425, (n6 g425), none), (432, (n6 g432), none), (439, (n6 g439), none), (446, (n6 g446), none), (453, (n6 g453), none), (460, (n6 g460), none), (475, (n6 g475), none), (503, (n6 g503), none), (517, (n6 g517), none), (538, (n6 g538), none), (545, (n6 g545), none), (559, (n6 g559), none), (566, (n6 g566), none), (573, (n6 g573), none), (580, (n6 g580), none), (587, (n6 g587), none), (594, (n6 g594), none), (601, (n6 g601), none), (608, (n6 g608), none), (615, (n6 g615), none), (622, (n6 g622), none), (629, (n6 g629), none), (636, (n6 g636), none), (643, (n6 g643), none), (650, (n6 g650), none), (657, (n6 g657), none), (664, (n6 g664), none), (678, (n6 g678), none), (706, (n6 g706), none), (737, (n4 g737), none), (744, (n6 g744), none), (751, (n6 g751), none), (758, (n6 g758), none), (765, (n6 g765), none), (772, (n6 g772), none), (779, (n6 g779), none), (786, (n6 g786), none), (793, (n6 g793), none), (798, (n4 g798), none), (805, o805_17, some 1)]
def fnT : List (Addr × Fn) := [(28, f28), (111, f111), (128, f128), (149, f149), (154, f154), (166, f166), (173, f173), (180, f180), (187, f187), (206, f206), (220, f220), (234, f234), (239, f239), (253, f253), (258, f258), (326, f326), (410, f410), (425, f425), (432, f432), (439, f439), (446, f446), (453, f453), (460, f460), (475, f475), (503, f503), (517, f517), (538, f538), (545, f545), (559, f559), (566, f566), (573, f573), (580, f580), (587, f587), (594, f594), (601, f601), (608, f608), (615, f615), (622, f622), (629, f629), (636, f636), (643, f643), (650, f650), (657, f657), (664, f664), (678, f678), (706, f706), (737, f737), (744, f744), (751, f751), (758, f758), (765, f765), (772, f772), (779, f779), (786, f786), (793, f793), (798, f798), (805, f805)]
def fnD : List (Addr × Fn) := [(342, f342), (418, f418), (468, f468)]
noncomputable def initL : List (Addr × Addr) := [(31, 28), (138, 128), (209, 166), (520, 517), (548, 538), (688, 678), (728, 706)]
def fldsL : List (Addr × List Str) := [(31, [S "do", S "test", S "number", S "put"]), (138, [S "ops", S "begins"]), (209, [S "procedures", S "ops", S "places", S "slots", S "heads"]), (520, [S "last", S "behind", S "slots"]), (548, [S "code", S "deeds", S "place", S "stack", S "frames", S "key", S "word"]), (688, [S "name", S "section", S "statements"]), (728, [S "rows", S "using"])]
def methL : List ((Addr × Str) × Addr) := [((209, S "fresh"), 173), ((209, S "here"), 180), ((209, S "put"), 187), ((209, S "finished"), 206), ((548, S "give_up"), 545)]
def glL : List (Str × V) := [(S "len", .bi "len"), (S "abs", .bi "abs"), (S "max", .bi "max"), (S "min", .bi "min"), (S "int", .ty "int"), (S "str", .ty "str"), (S "range", .ty "range"), (S "tuple", .ty "tuple"), (S "dict", .ty "dict"), (S "law", .glob 805), (S "_law_statement", .glob 798), (S "_law_due", .glob 793), (S "_law_said", .glob 786), (S "_law_noted", .glob 779), (S "_law_put", .glob 772), (S "_law_number", .glob 765), (S "_law_worth", .glob 758), (S "_law_expr", .glob 751), (S "_law_draw", .glob 744), (S "_law_pen", .glob 737), (S "Procedures", .glob 728), (S "Paragraph", .glob 688), (S "run_code", .glob 664), (S "op_table", .glob 657), (S "do_stop", .glob 650), (S "do_less", .glob 643), (S "do_count", .glob 636), (S "leave_frame", .glob 629), (S "begin_frame", .glob 622), (S "do_choose", .glob 615), (S "do_jump", .glob 608), (S "do_test", .glob 601), (S "do_key", .glob 594), (S "do_deed", .glob 587), (S "do_put", .glob 580), (S "do_reckon", .glob 573), (S "worth_by", .glob 566), (S "calculated", .glob 559), (S "Machine", .glob 548), (S "Frame", .glob 520), (S "NO_LABEL", .int (-1)), (S "MOST_FRAMES", .int (20)), (S "fits", .glob 503), (S "power", .glob 475), (S "quotient", .glob 468), (S "negated", .glob 460), (S "times", .glob 453), (S "minus", .glob 446), (S "plus", .glob 439), (S "units_beside", .glob 432), (S "kept", .glob 425), (S "decimal", .glob 418), (S "cut_quotient", .glob 410), (S "MOST_FIGURES", .int (120)), (S "MOST_POWER", .int (99)), (S "MOST_PLACES", .int (30)), (S "SizeFault", .glob 389), (S "compiled", .glob 326), (S "put_deed", .glob 258), (S "put_arith", .glob 253), (S "put_statement", .glob 239), (S "put_statements", .glob 234), (S "put_expression", .glob 220), (S "Draft", .glob 209), (S "relabelled", .glob 154), (S "labels_of", .glob 149), (S "Code", .glob 138), (S "LET", .int (-1)), (S "QUIET", .tup [.str (S "exit"), .str (S "continue")]), (S "OPERANDS", .tup [.str (S "ref"), .str (S "number"), .str (S "text"), .str (S "figure"), .str (S "all")]), (S "JOINERS", .tup [.str (S "not"), .str (S "and"), .str (S "or")]), (S "branches_of", .glob 111), (S "BRANCHED", .tup [.str (S "arith"), .str (S "divide"), .str (S "corr"), .str (S "search"), .str (S "search-all"), .str (S "string"), .str (S "unstring"), .str (S "read"), .str (S "write"), .str (S "rewrite"), .str (S "delete"), .str (S "start"), .str (S "return"), .str (S "call")]), (S "Deeds", .glob 31)]
noncomputable def keepL : List Addr := [28, 31, 111, 128, 138, 149, 154, 166, 173, 180, 187, 206, 209, 220, 234, 239, 253, 258, 326, 342, 410, 418, 425, 432, 439, 446, 453, 460, 468, 475, 503, 517, 520, 538, 545, 548, 559, 566, 573, 580, 587, 594, 601, 608, 615, 622, 629, 636, 643, 650, 657, 664, 678, 688, 706, 728, 737, 744, 751, 758, 765, 772, 779, 786, 793, 798, 805]
noncomputable def tabL : List (Addr × Addr) := [(205, 203), (804, 800)]
def qualL : List Str := [S "Draft.finished" ++ ".<locals>." ++ "<lambda>", S "law" ++ ".<locals>." ++ "<lambda>"]
noncomputable def lawA : Addr := 805
noncomputable def excA : Addr := 389
def fnsA (a : Addr) : Option Fn := match fnT.lookup a with
 | some f => some f
 | none => fnD.lookup a
def keepB (a : Addr) : Bool := keepL.contains a
def GG (lo : List Str) (K : Params → Frag) : Pg := { prog := P0, p := topProg, loose := lo, K := K, tabs := tabL, gl := fun x => glL.lookup x, keep := keepB, flds := fun a => (fldsL.lookup a).getD [], meth := fun C x => methL.lookup (C, x), exc := fun a => a == excA }
def FF : Fs := ⟨fnsA, fun a => initL.lookup a⟩
def K1 (aL : Addr) (oL : Obj) (P : Params) : Frag := K0 P ++ [(aL, oL)]
theorem t_look (aL : Addr) (oL : Obj) (P : Params) : fnO.map (fun t => (K1 aL oL P).lookup t.1) = fnO.map (fun t => some t.2.1) := by kernel_rfl
theorem t_base (aL : Addr) (oL : Obj) (P : Params) : fnO.all (fun t => fnBase (K1 aL oL P) tabL t.2.1 t.2.2) = true := by kernel_rfl
theorem t_plain : fnO.all (fun t => fnPlain t.2.1) = true := by kernel_rfl
theorem t_fns : fnT = fnO.map fun t => (t.1, mkFn t.2.1 t.2.2 []) := by rfl
theorem t_gl (aL : Addr) (oL : Obj) (P : Params) : glL.all (glChk (K1 aL oL P)) = true := by kernel_rfl
theorem t_meth (aL : Addr) (oL : Obj) (P : Params) : methL.all (methChk (K1 aL oL P)) = true := by kernel_rfl
theorem t_cls (aL : Addr) (oL : Obj) (P : Params) : fldsL.all (fun p => clsChk (K1 aL oL P) p.1 p.2) = true := by kernel_rfl
theorem t_inits (aL : Addr) (oL : Obj) (P : Params) : initL.all (clsFnChk (K1 aL oL P)) = true := by kernel_rfl
theorem t_keep (aL : Addr) (oL : Obj) (P : Params) : keepL.all (fun a => keepIn (K1 aL oL P) (.ref a)) = true := by kernel_rfl
theorem t_tabs (aL : Addr) (oL : Obj) (P : Params) : tabL.all (fun q => codeHdIn (K1 aL oL P) q.1 q.2) = true := by kernel_rfl
theorem t_noTabs0 (P : Params) : noTabs (K0 P) = true := by kernel_rfl
theorem t_dec (aL : Addr) (oL : Obj) (P : Params) : (K1 aL oL P).lookup 418 = some (n6 g418) ∧ (K1 aL oL P).lookup 411 = some o411_10 := by constructor <;> kernel_rfl
theorem t_quo (aL : Addr) (oL : Obj) (P : Params) : (K1 aL oL P).lookup 468 = some (n6 g468) ∧ (K1 aL oL P).lookup 461 = some o461_11 := by constructor <;> kernel_rfl
theorem t_err (aL : Addr) (oL : Obj) (P : Params) : (K1 aL oL P).lookup 342 = some (n6 g342) ∧ (K1 aL oL P).lookup 335 = some o335_6 := by constructor <;> kernel_rfl
noncomputable def fdOf0 (o : Obj) : FuncData := match o.data with
 | .func fd => fd
 | _ => default
theorem fd_418 : (n6 g418).data = .func (fdOf0 (n6 g418)) := rfl
theorem fd_468 : (n6 g468).data = .func (fdOf0 (n6 g468)) := rfl
theorem fd_342 : (n6 g342).data = .func (fdOf0 (n6 g342)) := rfl
theorem dec_names : ((fdOf0 (n6 g418)).params.args.map (·.arg)) = [S "units", S "scale"] := by kernel_rfl
theorem quo_names : ((fdOf0 (n6 g468)).params.args.map (·.arg)) = [S "a", S "b", S "many"] := by kernel_rfl
theorem err_names : ((fdOf0 (n6 g342)).params.args.map (·.arg)) = [S "self", S "what", S "at"] := by kernel_rfl
theorem dec_ok (aL : Addr) (oL : Obj) (P : Params) : FnOk tabL (K1 aL oL P) 418 f418 := by
 refine fnOk_of (t_dec aL oL P).1 (by kernel_rfl) fun fd e _ => ⟨[.int 0 777], fun _ _ => .cons .int .nil, fun s X vs h1 h2 => ?_⟩
 rw [fd_418] at e
 cases e
 rw [dec_names] at h1 h2 ⊢
 have hT := X _ _ (t_dec aL oL P).2
 match vs, h1, h2 with
 | [], h1, _ => simp at h1
 | [a], _, _ => exact BindsTo.of_defaults (T := 411) rfl hT rfl rfl rfl
 | [a, b], _, _ => exact BindsTo.of_defaults (T := 411) rfl hT rfl rfl rfl
 | _ :: _ :: _ :: _, _, h2 => simp at h2
theorem quo_ok (aL : Addr) (oL : Obj) (P : Params) : FnOk tabL (K1 aL oL P) 468 f468 := by
 refine fnOk_of (t_quo aL oL P).1 (by kernel_rfl) fun fd e _ => ⟨[.int 30 763], fun _ _ => .cons .int .nil, fun s X vs h1 h2 => ?_⟩
 rw [fd_468] at e
 cases e
 rw [quo_names] at h1 h2 ⊢
 have hT := X _ _ (t_quo aL oL P).2
 match vs, h1, h2 with
 | [], h1, _ => simp at h1
 | [_], h1, _ => simp at h1
 | [a, b], _, _ => exact BindsTo.of_defaults (T := 461) rfl hT rfl rfl rfl
 | [a, b, c], _, _ => exact BindsTo.of_defaults (T := 461) rfl hT rfl rfl rfl
 | _ :: _ :: _ :: _ :: _, _, h2 => simp at h2
theorem err_ok (aL : Addr) (oL : Obj) (P : Params) : FnOk tabL (K1 aL oL P) 342 f342 := by
 refine fnOk_of (t_err aL oL P).1 (by kernel_rfl) fun fd e _ => ⟨[.ref 334], fun _ _ => .cons .glob .nil, fun s X vs h1 h2 => ?_⟩
 rw [fd_342] at e
 cases e
 rw [err_names] at h1 h2 ⊢
 have hT := X _ _ (t_err aL oL P).2
 match vs, h1, h2 with
 | [], h1, _ => simp at h1
 | [_], h1, _ => simp at h1
 | [a, b], _, _ => exact BindsTo.of_defaults (T := 335) rfl hT rfl rfl rfl
 | [a, b, c], _, _ => exact BindsTo.of_defaults (T := 335) rfl hT rfl rfl rfl
 | _ :: _ :: _ :: _ :: _, _, h2 => simp at h2
theorem fnO_ok (aL : Addr) (oL : Obj) (P : Params) : ∀ t ∈ fnO, FnOk tabL (K1 aL oL P) t.1 (mkFn t.2.1 t.2.2 []) := fun t ht =>
 fnOk_plain (List.map_inj_left.mp (t_look aL oL P) t ht) (List.all_eq_true.mp (t_base aL oL P) t ht) (List.all_eq_true.mp t_plain t ht)
theorem fnT_ok (aL : Addr) (oL : Obj) (P : Params) {a : Addr} {f : Fn} (h : fnT.lookup a = some f) : FnOk tabL (K1 aL oL P) a f := by
 have := lookup_mem h
 rw [t_fns] at this
 obtain ⟨t, ht, e⟩ := List.mem_map.mp this
 induction e using E4
 exact fnO_ok aL oL P t ht
theorem fnD_ok (aL : Addr) (oL : Obj) (P : Params) {a : Addr} {f : Fn} (h : fnD.lookup a = some f) : FnOk tabL (K1 aL oL P) a f := by
 have := lookup_mem h
 unfold fnD at this
 simp only [List.mem_cons, List.not_mem_nil, or_false, Prod.mk.injEq] at this
 rcases this with ⟨rfl, rfl⟩ | ⟨rfl, rfl⟩ | ⟨rfl, rfl⟩
 ·exact err_ok aL oL P
 ·exact dec_ok aL oL P
 ·exact quo_ok aL oL P
def lo0 : List Str := looseW q0 loose0 ++ (recsOf q0).map (·.name) ++ (litsOf q0).map (·.1) ++ (clssOf q0 (looseW q0 loose0)).map (·.name)
abbrev G0 (aL : Addr) (oL : Obj) : Pg := GG lo0 (K1 aL oL)
theorem F0_ok (aL : Addr) (oL : Obj) : FsOk (G0 aL oL) FF := by
 refine ⟨fun P a f h => ?_, fun P C f h => ?_⟩
 ·have h : fnsA a = some f := h
  unfold fnsA at h
  split at h
  ·rename_i g e; induction h using E1; exact fnT_ok aL oL P e
  ·exact fnD_ok aL oL P h
 ·have h : initL.lookup C = some f := h
  exact clsFn_ok (List.all_eq_true.mp (t_inits aL oL P) _ (lookup_mem h))
theorem G0_ok (aL : Addr) (oL : Obj) : (G0 aL oL).Ok := by
 refine ⟨fun P C x h => ?_, fun P x y h => gl_ok (t_gl aL oL P) h, fun P q h g X => ?_, fun P a h => ?_, fun P C x f h => meth_ok (t_meth aL oL P) h⟩
 ·show clsChk (K1 aL oL P) C ((fldsL.lookup C).getD []) = true
  have h : x ∈ (fldsL.lookup C).getD [] := h
  cases e : fldsL.lookup C with
  | none => rw [e] at h; cases h
  | some l => exact List.all_eq_true.mp (t_cls aL oL P) _ (lookup_mem e)
 ·exact codeHd_of_K X (List.all_eq_true.mp (t_tabs aL oL P) q h)
 ·have h : keepL.contains a = true := h
  rw [List.contains_iff_mem] at h
  exact List.all_eq_true.mp (t_keep aL oL P) a h
theorem exc_at1 (aL : Addr) (oL : Obj) (P : Params) : ExcAt (K1 aL oL P) 389 (.ref 352 :: bmE) none := .mk (show (K1 aL oL P).lookup 389 = some o389_9 by kernel_rfl) (by kernel_rfl) (by kernel_rfl) (by kernel_rfl)
theorem exc_at2 (aL : Addr) (oL : Obj) (P : Params) : ExcAt (K1 aL oL P) 352 bmE (some (.ref 342)) := .mk (show (K1 aL oL P).lookup 352 = some o352_10 by kernel_rfl) (by kernel_rfl) (by kernel_rfl) (by kernel_rfl)
theorem excs_ok (aL : Addr) (oL : Obj) : ExcsOk (G0 aL oL) := fun P C h => by
 rw [show C = 389 from beq_iff_eq.mp h]
 exact .mk (exc_at1 aL oL P) (exc_at2 aL oL P) (t_err aL oL P).1 rfl (err_ok aL oL P) (by kernel_rfl) rfl (show f342.body = _ from rfl) rfl (by kernel_rfl) (by kernel_rfl) (by kernel_rfl) (by kernel_rfl) (by kernel_rfl)
theorem ints_vals {K : Frag} {news : Led} {al : Al} {vs : List Value} {ns : List Int} (h : IntsAre vs ns) : VRs K news al vs (ns.map V.int) := by
 induction h with
 | nil => exact .nil
 | cons n t _ ih => exact .cons .int ih
theorem K1_in {P : Params} {h : Heap} {aL : Addr} {oL : Obj} (X : (KT P).In h) (hL : h.get? aL = some oL) : (K1 aL oL P).In h := by
 intro a o e
 unfold K1 at e
 rw [List.lookup_append] at e
 cases h1 : (K0 P).lookup a with
 | some o' =>
  rw [h1] at e
  cases e
  refine X a _ ?_
  unfold KT
  rw [List.lookup_append, h1]; rfl
 | none =>
  rw [h1] at e
  simp only [Option.none_or, List.lookup_cons, List.lookup_nil] at e
  split at e
  ·rename_i h2; cases e; rw [beq_iff_eq.mp h2]; exact hL
  ·cases e
theorem K1_at {P : Params} {h : Heap} {aL : Addr} {oL : Obj} (X : (KT P).In h) (hL : h.get? aL = some oL) : (K1 aL oL P).lookup aL = some oL := by
 unfold K1
 rw [List.lookup_append]
 cases h1 : (K0 P).lookup aL with
 | some o' =>
  have := X aL o' (by unfold KT; rw [List.lookup_append, h1]; rfl)
  rw [hL] at this
  cases this; rfl
 | none => simp
theorem grown_of {tabs : List (Addr × Addr)} {h : Heap} (H : ∀ q ∈ tabs, GrownAt q.2 h) : GrownAll tabs h := by
 induction tabs with
 | nil => trivial
 | cons q r ih => exact ⟨H q List.mem_cons_self, ih fun q hq => H q (List.mem_cons_of_mem _ hq)⟩
theorem K1_noTabs {P : Params} {aL : Addr} {oL : Obj} (h : oL.cls = .type "list") : noTabs (K1 aL oL P) = true := by
 have := t_noTabs0 P
 unfold noTabs K1 at *
 rw [List.all_append, this]
 simp only [List.all_cons, List.all_nil, h, Bool.and_true, Bool.true_and]
theorem KT_tab (P : Params) : tabL.map (fun q => (KT P).lookup q.2) = tabL.map (fun _ => some (tabObj #[])) := by kernel_rfl
theorem KT_hd (P : Params) : tabL.all (fun q => codeHdIn (KT P) q.1 q.2) = true := by kernel_rfl
theorem law_at (P : Params) : nsIn (KT P) mainGlobals d0.name = some (some (.ref lawA)) := by kernel_rfl
set_option tactic.hygienic true in
theorem join_ (H : ∀ (aL : Addr) (oL : Obj) (l : List Int), l.length ≤ 63 → ∃ st' : Sto, fnM f805 (bodyM (G0 aL oL) (callF (G0 aL oL) FF 39) f805 true) [.lstK (l.map .int)] (qualL.map O.tab) = some (.ok (.bool true), st') ∧ ∀ (i : Nat) (q : Addr × Addr), tabL[i]? = some q → ∃ qq, st'[i]? = some (O.tab qq)) :
  PySem.Challenge.rw_pc0149_01.Holds := head_ (by
 intro w s₀ s₁ mg mb G Y fa o pm cd doc dV kV ho hd hcd hD hmg hg args vals as hpre hlay hrd hwl hlo
 wrow_args hpre hlay hrd hwl hlo
 refine enter_call ?_
 rename_i l _ _ _ _ _ _ _ aL vs _ hL _ _ _ hI _ hlen _
 have hlen : l.length ≤ 63 := by lia
 obtain ⟨oL, hL1, hL2, n, hL3⟩ := hL
 have Y : (KT w.params).In s₁.heap := Y
 have X := K1_in Y hL1
 have hfa : fa = lawA := by
  have := mg_of Y G.T.g (law_at w.params)
  rw [hmg] at this
  cases this; rfl
 subst hfa
 have hT : TabsAt tabL s₁.heap := fun q hq => ⟨codeHd_of_K Y (List.all_eq_true.mp (KT_hd w.params) q hq), Y _ _ (List.map_inj_left.mp (KT_tab w.params) q hq)⟩
 obtain ⟨st', hrun, htab⟩ := H aL oL l hlen
 refine kn_post hT (fun _ _ => rfl) ?_
 refine topCall (G := G0 aL oL) (p := q0) (loose := looseW q0 loose0) (quals := qualL) (k := 39) (q := true) (fn := f805) rfl rfl (K1_noTabs hL2) (show (tabL.map (·.2)).Nodup by decide +kernel) rfl hT X G.T (G0_ok aL oL) ((F0_ok aL oL).fn _ _ _ (by kernel_rfl)) (by lia)
  (fun c' CL' hc' hf' => body_ok (G0_ok aL oL) (excs_ok aL oL) (callF_ok (G0_ok aL oL) (excs_ok aL oL) (F0_ok aL oL) 39) hc' hf') (fun news al => .cons (.lstK (n := n) (K1_at Y hL1) hL2 hL3 (ints_vals hI)) .nil) hrun ?_
 intro v s' news' al' L m F N HH X' hv hs
 cases hv
 refine ⟨goodW_bool F (by rw [hs.2]; exact hg) (fun _ => rfl) (by first | wrow_post | kernel_rfl) hs.1, ?_⟩
 refine grown_of fun q hq => ?_
 obtain ⟨i, hi⟩ := List.getElem?_of_mem hq
 obtain ⟨qq, hqq⟩ := htab i q hi
 obtain ⟨β, rfl, _⟩ := X'.more
 have ha : (tabL.map (fun q => (q.2, (none : Option Addr))) ++ β)[i]? = some (q.2, none) := by
  rw [List.getElem?_append_left (by rw [List.length_map]; exact (List.getElem?_eq_some_iff.mp hi).1), List.getElem?_map, hi]; rfl
 have := HH.obj i _ _ ha hqq
 cases this with
 | tab h _ _ => exact ⟨_, N.get h⟩)
def s_ (x : String) : V := .str (S x)
section
variable {G : Pg} {F : Fs}
def AllOk (G : Pg) (F : Fs) : List Cal → Prop
 | [] => True
 | p :: r => OrcOk G F p.o ∧ AllOk G F r
theorem AllOk.mem : ∀ {l : List Cal}, AllOk G F l → ∀ p ∈ l, OrcOk G F p.o
 | [], _, p, h => absurd h List.not_mem_nil
 | x :: r, ⟨h1, h2⟩, p, h => (List.mem_cons.mp h).elim (fun e => e ▸ h1) fun h => h2.mem p h
def blkX (G : Pg) (F : Fs) (n : Nat) (fn : Fn) (q : Bool) (CL : List (Str × Nat)) (d : Nat) (l : List Stmt) (ρ : Loc) : XM (Fl × Loc) := seqX (stX G fn (fun q => evX G (callX G F n) fn q deep) CL d q) l ρ
def blkM (G : Pg) (F : Fs) (n : Nat) (fn : Fn) (q : Bool) (CL : List (Str × Nat)) (d : Nat) (l : List Stmt) (ρ : Loc) : M (Fl × Loc) := seqM (stS G fn (fun q => evS G (callF G F n) fn q deep) CL d q) l ρ
theorem blk_tr {N : Nat} {e : Nat → Nat} (hP : Plain G F) (n : Nat) (fn : Fn) (q : Bool) (CL : List (Str × Nat)) (d : Nat) (l : List Stmt) (ρ : Loc) : TrX G F N e (mpF e) (blkX G F n fn q CL d l ρ) (blkM G F n fn q (mpC e CL) d l (mpP e ρ)) :=
 .seq (fun s ρ => stX_tr (r := fun q => evX G (callX G F n) fn q deep) (r' := fun q => evS G (callF G F n) fn q deep) (fun q => evX_tr hP.1 (callX_tr hP n) deep) d q s ρ) l ρ
def tstsX (G : Pg) (F : Fs) (n : Nat) (fn : Fn) (q : Bool) (CL : List (Str × Nat)) (x : Expr) (ρ : Loc) : XM Bool := (evX G (callX G F n) fn q deep).tst false fn.sc CL ρ x
def tstsM (G : Pg) (F : Fs) (n : Nat) (fn : Fn) (q : Bool) (CL : List (Str × Nat)) (x : Expr) (ρ : Loc) : M Bool := (evS G (callF G F n) fn q deep).tst false fn.sc CL ρ x
theorem tsts_tr {N : Nat} {e : Nat → Nat} (hP : Plain G F) (n : Nat) (fn : Fn) (q : Bool) (CL : List (Str × Nat)) (x : Expr) (ρ : Loc) : TrX G F N e id (tstsX G F n fn q CL x ρ) (tstsM G F n fn q (mpC e CL) x (mpP e ρ)) :=
 (evX_tr hP.1 (callX_tr hP n) deep).tst false fn.sc CL ρ x
end
section
variable {α β γ δ : Type} {mp : (Nat → Nat) → α → β} {mq : (Nat → Nat) → γ → δ} {a a1 a2 b b1 : Sto} {N L : Nat} {e : Nat → Nat}
structure Run (mp : (Nat → Nat) → α → β) (m : (Nat → Nat) → M β) (a : Sto) (r : Except Addr α) (a' : Sto) : Prop where
 ms : MS mp m a r a'
 le : a.length ≤ a'.length
theorem Sim.less (S : Sim N e a b) (h : L ≤ N) (hl : a.length ≤ L) : Sim L e a b :=
 ⟨S.get, fun k h1 h2 => S.nxt k h1 (Nat.lt_of_lt_of_le h2 h), fun i j h1 h2 => S.inj i j (Nat.lt_of_lt_of_le h1 h) (Nat.lt_of_lt_of_le h2 h), S.out, hl, Nat.le_trans h S.cap, S.fix⟩
theorem Nx.wide (S : Sim N e a b) (X : Nx L e a b a1 b1) (hl : a1.length ≤ N) : Nx N e a b a1 b1 :=
 ⟨⟨X.S.get, fun k h1 h2 => by
  have h3 := S.nxt k (Nat.le_trans X.le h1) h2
  have h4 := X.gr
  obtain ⟨t, ht⟩ := Nat.exists_eq_add_of_le X.le
  rw [ht] at h1 h4 ⊢
  obtain ⟨z, rfl⟩ := Nat.exists_eq_add_of_le h1
  rw [Nat.add_assoc, Nat.add_sub_cancel_left] at h3
  rw [Nat.add_sub_cancel_left, Nat.add_assoc, h3]
  lia, S.inj, S.out, hl, S.cap, X.S.fix⟩, X.O, X.le, X.gr⟩
theorem Run.bind {m : (Nat → Nat) → M β} {f : (Nat → Nat) → β → M δ} {y : α} {r : Except Addr γ} (h1 : Run mp m a (.ok y) a1) (h2 : Run mq (fun e => f e (mp e y)) a1 r a2) : Run mq (fun e => M.bind (m e) (f e)) a r a2 :=
 ⟨fun e b S => by
  obtain ⟨b1, e1, X1⟩ := h1.ms e b (S.less h2.le h1.le)
  have X1 := X1.wide S h2.le
  obtain ⟨b2, e2, X2⟩ := h2.ms e b1 X1.S
  refine ⟨b2, ?_, X1.trans S X2⟩
  unfold M.bind
  rw [e1]
  exact e2, Nat.le_trans h1.le h2.le⟩
theorem Run.of_eq {m m' : (Nat → Nat) → M β} {r : Except Addr α} (h : Run mp m a r a1) (he : ∀ e, m e = m' e) : Run mp m' a r a1 := (funext he : m = m') ▸ h
theorem Run.step {m : (Nat → Nat) → M β} {m' : (Nat → Nat) → M δ} {y : α} {r : Except Addr γ} (h1 : Run mp m a (.ok y) a1) (h2 : Run mq m' a1 r a2) {m2 : (Nat → Nat) → M δ} (h : ∀ e b b1, Sim a1.length e a b → Sim a2.length e a1 b1 → m e b = some (.ok (mp e y), b1) → m2 e b = m' e b1) : Run mq m2 a r a2 :=
 ⟨fun e b S => by
  obtain ⟨b1, e1, X1⟩ := h1.ms e b (S.less h2.le h1.le)
  have X1 := X1.wide S h2.le
  obtain ⟨b2, e2, X2⟩ := h2.ms e b1 X1.S
  exact ⟨b2, (h e b b1 (S.less h2.le h1.le) X1.S e1).trans e2, X1.trans S X2⟩, Nat.le_trans h1.le h2.le⟩
theorem Run.as {m : (Nat → Nat) → M β} {m2 : (Nat → Nat) → M δ} {r : Except Addr α} {r2 : Except Addr γ} (h1 : Run mp m a r a1) (h : ∀ e b b1, Sim a1.length e a b → m e b = some (r.map (mp e), b1) → m2 e b = some (r2.map (mq e), b1)) : Run mq m2 a r2 a1 :=
 ⟨fun e b S => by
  obtain ⟨b1, e1, X1⟩ := h1.ms e b S
  exact ⟨b1, h e b b1 S e1, X1⟩, h1.le⟩
theorem Run.none {m : (Nat → Nat) → M β} {r : Except Addr α} (h : ∀ e b, Sim a.length e a b → m e b = some (r.map (mp e), b)) : Run mp m a r a := ⟨fun e b S => ⟨b, h e b S, .refl S⟩, Nat.le_refl _⟩
variable {G : Pg} {F : Fs}
theorem Run.of {m : XM α} {m' : (Nat → Nat) → M β} {ds : List (Nat × Dec)} {dc : List Cal} {r : Except Addr α} {cs : Prop} (T : ∀ N e, TrX G F N e (mp e) m (m' e)) (h : m ⟨a, ds, dc, True⟩ = some (r, ⟨a1, [], [], cs⟩)) (hc : cs) (hd : AllOk G F dc) : Run mp m' a r a1 :=
 ⟨fun e b S => (T a1.length e).t _ _ _ b h hc hd.mem (Nat.le_refl _) S, ((T 0 id).g _ _ _ h).2.2⟩
def CallR (G : Pg) (F : Fs) (k : Nat) (q : Bool) (f : Addr) (vs : List V) (a : Sto) (r : Except Addr V) (a' : Sto) : Prop := ∀ n, Run V.mp (fun e => callF G F (n + k) q (.glob f) (V.mps e vs)) a r a'
theorem CallR.orc {k : Nat} {q : Bool} {f : Addr} {vs : List V} {r : Except Addr V} (h : CallR G F k q f vs a r a1) : OrcOk G F ⟨k, q, f, vs, a, r, a1⟩ := fun n => (h n).ms
theorem CallR.of (hP : Plain G F) {k : Nat} {q : Bool} {f : Addr} {vs : List V} {ds : List (Nat × Dec)} {dc : List Cal} {r : Except Addr V} {cs : Prop} (h : ∀ n, callX G F (n + k) q (.glob f) vs ⟨a, ds, dc, True⟩ = some (r, ⟨a1, [], [], cs⟩)) (hc : cs) (hd : AllOk G F dc) : CallR G F k q f vs a r a1 :=
 fun n => .of (fun N e => callX_tr hP (n + k) q (.glob f) vs) (h n) hc hd
theorem CallR.more {k k' : Nat} {q : Bool} {f : Addr} {vs : List V} {r : Except Addr V} (h : CallR G F k q f vs a r a1) (hk : k ≤ k') : CallR G F k' q f vs a r a1 := fun n => by
 have := h (n + (k' - k))
 rw [Nat.add_assoc, Nat.sub_add_cancel hk] at this
 exact this
variable {n : Nat} {fn : Fn} {q : Bool} {CL : List (Str × Nat)} {d : Nat}
abbrev BlkR (G : Pg) (F : Fs) (n : Nat) (fn : Fn) (q : Bool) (CL : List (Str × Nat)) (d : Nat) (l : List Stmt) (ρ : Loc) (a : Sto) (r : Except Addr (Fl × Loc)) (a' : Sto) : Prop := Run mpF (fun e => blkM G F n fn q (mpC e CL) d l (mpP e ρ)) a r a'
theorem BlkR.of (hP : Plain G F) {l : List Stmt} {ρ : Loc} {ds : List (Nat × Dec)} {dc : List Cal} {r : Except Addr (Fl × Loc)} {cs : Prop} (h : blkX G F n fn q CL d l ρ ⟨a, ds, dc, True⟩ = some (r, ⟨a1, [], [], cs⟩)) (hc : cs) (hd : AllOk G F dc) : BlkR G F n fn q CL d l ρ a r a1 :=
 Run.of (fun N e => blk_tr hP n fn q CL d l ρ) h hc hd
theorem seq_app {f : Stmt → Loc → M (Fl × Loc)} : ∀ {l r : List Stmt} {ρ ρ1 : Loc} {b b1 : Sto}, seqM f l ρ b = some (.ok (.next, ρ1), b1) → seqM f (l ++ r) ρ b = seqM f r ρ1 b1
 | [], r, ρ, ρ1, b, b1, h => by cases h; rfl
 | s :: l, r, ρ, ρ1, b, b1, h => by
  have h : M.bind (f s ρ) _ b = _ := h
  show M.bind (f s ρ) _ b = _
  unfold M.bind at h ⊢
  cases e : f s ρ b with
  | none => rw [e] at h; cases h
  | some p =>
   obtain ⟨r1, b2⟩ := p
   rw [e] at h
   cases r1 with
   | error C => cases h
   | ok p =>
    obtain ⟨fl, ρ2⟩ := p
    cases fl with
    | next => exact seq_app (l := l) h
    | _ => cases h
theorem seq_bad {f : Stmt → Loc → M (Fl × Loc)} : ∀ {l r : List Stmt} {ρ : Loc} {b b1 : Sto} {C : Addr}, seqM f l ρ b = some (.error C, b1) → seqM f (l ++ r) ρ b = some (.error C, b1)
 | [], r, ρ, b, b1, C, h => by cases h
 | s :: l, r, ρ, b, b1, C, h => by
  have h : M.bind (f s ρ) _ b = _ := h
  show M.bind (f s ρ) _ b = _
  unfold M.bind at h ⊢
  cases e : f s ρ b with
  | none => rw [e] at h; cases h
  | some p =>
   obtain ⟨r1, b2⟩ := p
   rw [e] at h
   cases r1 with
   | error C => exact h
   | ok p =>
    obtain ⟨fl, ρ2⟩ := p
    cases fl with
    | next => exact seq_bad (l := l) h
    | _ => cases h
theorem BlkR.bad {l r : List Stmt} {ρ : Loc} {C : Addr} (h1 : BlkR G F n fn q CL d l ρ a (.error C) a1) : BlkR G F n fn q CL d (l ++ r) ρ a (.error C) a1 := h1.as fun e b b1 _ h => seq_bad h
theorem BlkR.app {l r : List Stmt} {ρ ρ1 : Loc} {x : Except Addr (Fl × Loc)} (h1 : BlkR G F n fn q CL d l ρ a (.ok (.next, ρ1)) a1) (h2 : BlkR G F n fn q CL d r ρ1 a1 x a2) : BlkR G F n fn q CL d (l ++ r) ρ a x a2 :=
 h1.step h2 fun e b b1 _ _ h => seq_app h
theorem CallR.bodyR {f : Addr} {k : Nat} {vs : List V} {r : Except Addr (Fl × Loc)} {ρ : Loc} (h : F.fns f = some fn) (hc : (cellsFrom 0 fn.sc.names []).map (·.1) = []) (hl : vs.length = fn.names.length) (hρ : bindLV fn.sc (fn.names.zip vs) [] = ρ) {bd : List Stmt} (hbd : fn.body = bd)
  (hb : ∀ n, BlkR G F (n + k) fn q [] deep bd ρ a r a1) : CallR G F (k + 1) q f vs a (r.map fun p => retV p.1) a1 := fun n => (hb n).as fun e b b1 S hb => by
 subst hbd
 show callF G F (n + k + 1) q (.glob f) (V.mps e vs) b = _
 unfold callF
 dsimp only
 rw [h]
 show fnM fn (bodyM G (callF G F (n + k)) fn q) (V.mps e vs) b = _
 unfold fnM
 rw [if_pos (by rw [mps_length]; lia)]
 have hz : bindLV fn.sc (fn.names.zip (V.mps e vs)) [] = mpP e ρ := by rw [← hρ, bindLV_mp, zip_mp]; rfl
 have hd : fn.dfl.drop ((V.mps e vs).length + fn.dfl.length - fn.names.length) = [] := by rw [mps_length, hl, Nat.add_sub_cancel_left, List.drop_length]
 simp only [hd, hc, List.append_nil, clV, hz]
 rw [show cellsV [] (bindCV fn.sc (fn.names.zip (V.mps e vs)) []) = [] from rfl, List.append_nil]
 show fnOut (blkM G F (n + k) fn q (mpC e []) deep fn.body (mpP e ρ) b) = _
 rw [hb]
 cases r with
 | ok p => exact congrArg some (congrArg (·, b1) (congrArg Except.ok (retV_mp p.1)))
 | error C => rfl
theorem CallR.body {f : Addr} {k : Nat} {vs : List V} {fl : Fl} {ρ ρ' : Loc} (h : F.fns f = some fn) (hc : (cellsFrom 0 fn.sc.names []).map (·.1) = []) (hl : vs.length = fn.names.length) (hρ : bindLV fn.sc (fn.names.zip vs) [] = ρ) {bd : List Stmt} (hbd : fn.body = bd)
  (hb : ∀ n, BlkR G F (n + k) fn q [] deep bd ρ a (.ok (fl, ρ')) a1) : CallR G F (k + 1) q f vs a (.ok (retV fl)) a1 := CallR.bodyR (r := .ok (fl, ρ')) h hc hl hρ hbd hb
def whX (G : Pg) (F : Fs) (n : Nat) (fn : Fn) (q : Bool) (CL : List (Str × Nat)) (d : Nat) (c : Expr) (l : List Stmt) (ρ : Loc) : XM (Fl × Loc) := XM.bind (noErrX (tstsX G F n fn q CL c ρ)) fun b => iteX b (noErrX (blkX G F n fn q CL d l ρ)) stopX
def whM (G : Pg) (F : Fs) (n : Nat) (fn : Fn) (q : Bool) (CL : List (Str × Nat)) (d : Nat) (c : Expr) (l : List Stmt) (ρ : Loc) : M (Fl × Loc) := M.bind (Mine.noErr (tstsM G F n fn q CL c ρ)) fun b => iteM b (Mine.noErr (blkM G F n fn q CL d l ρ)) Mine.stop
def loopM (G : Pg) (F : Fs) (n : Nat) (fn : Fn) (q : Bool) (CL : List (Str × Nat)) (d : Nat) (c : Expr) (l : List Stmt) (k : Nat) (ρ : Loc) : M (Fl × Loc) := whileM (fun ρ => tstsM G F n fn q CL c ρ) (fun ρ => blkM G F n fn q CL d l ρ) k ρ
theorem wh_tr {N : Nat} {e : Nat → Nat} (hP : Plain G F) (n : Nat) (fn : Fn) (q : Bool) (CL : List (Str × Nat)) (d : Nat) (c : Expr) (l : List Stmt) (ρ : Loc) : TrX G F N e (mpF e) (whX G F n fn q CL d c l ρ) (whM G F n fn q (mpC e CL) d c l (mpP e ρ)) :=
 .bind (tsts_tr hP n fn q CL c ρ).noErr fun b => .ite (blk_tr hP n fn q CL d l ρ).noErr .stop
theorem loop_one {c : Expr} {l : List Stmt} {ρ ρ1 : Loc} {b b1 : Sto} {k : Nat} (h : whM G F n fn q CL d c l ρ b = some (.ok (.next, ρ1), b1)) : loopM G F n fn q CL d c l (k + 1) ρ b = loopM G F n fn q CL d c l k ρ1 b1 := by
 refine M.elim (f := fun b => iteM b (Mine.noErr (blkM G F n fn q CL d l ρ)) Mine.stop) h (fun v b2 e1 e2 => ?_) fun C b2 _ e2 => by cases e2
 cases v with
 | false => cases e2
 | true =>
  unfold loopM
  conv => lhs; unfold whileM
  unfold M.bind
  rw [e1]
  show (M.bind (Mine.noErr (blkM G F n fn q CL d l ρ)) _) b2 = _
  unfold M.bind
  rw [show Mine.noErr (blkM G F n fn q CL d l ρ) b2 = _ from e2]
abbrev LoopR (G : Pg) (F : Fs) (n : Nat) (fn : Fn) (q : Bool) (CL : List (Str × Nat)) (d : Nat) (c : Expr) (l : List Stmt) (k : Nat) (ρ : Loc) (a : Sto) (r : Except Addr (Fl × Loc)) (a' : Sto) : Prop := Run mpF (fun e => loopM G F n fn q (mpC e CL) d c l k (mpP e ρ)) a r a'
abbrev WhR (G : Pg) (F : Fs) (n : Nat) (fn : Fn) (q : Bool) (CL : List (Str × Nat)) (d : Nat) (c : Expr) (l : List Stmt) (ρ : Loc) (a : Sto) (r : Except Addr (Fl × Loc)) (a' : Sto) : Prop := Run mpF (fun e => whM G F n fn q (mpC e CL) d c l (mpP e ρ)) a r a'
theorem LoopR.go {c : Expr} {l : List Stmt} {ρ ρ1 : Loc} {k : Nat} {r : Except Addr (Fl × Loc)} (h1 : WhR G F n fn q CL d c l ρ a (.ok (.next, ρ1)) a1) (h2 : LoopR G F n fn q CL d c l k ρ1 a1 r a2) : LoopR G F n fn q CL d c l (k + 1) ρ a r a2 :=
 h1.step h2 fun e b b1 _ _ h => loop_one h
theorem LoopR.over {c : Expr} {l : List Stmt} {ρ : Loc} {k : Nat} (h : Run (fun _ => id) (fun e => tstsM G F n fn q (mpC e CL) c (mpP e ρ)) a (.ok false) a1) : LoopR G F n fn q CL d c l (k + 1) ρ a (.ok (.next, ρ)) a1 :=
 h.as fun e b b1 _ h => by
  show whileM _ _ (k + 1) _ b = _
  conv => lhs; unfold whileM
  unfold M.bind
  rw [show Mine.noErr (tstsM G F n fn q (mpC e CL) c (mpP e ρ)) b = some (.ok false, b1) by unfold Mine.noErr; rw [h]; rfl]
  rfl
theorem BlkR.loop {s : Stmt} {c : Expr} {l : List Stmt} {ρ ρ1 : Loc} (hp : planS fn q s = .while_ c l) (h : LoopR G F n fn q CL d c l turns ρ a (.ok (.next, ρ1)) a1) : BlkR G F n fn q CL (d + 1) [s] ρ a (.ok (.next, ρ1)) a1 :=
 h.as fun e b b1 _ h => by
  have h2 : stS G fn (fun q => evS G (callF G F n) fn q deep) (mpC e CL) (d + 1) q s (mpP e ρ) b = some (.ok (.next, mpP e ρ1), b1) := by
   show smdS G fn.sc q _ (mpC e CL) _ _ (planS fn q s) (mpP e ρ) b = _
   rw [hp]; exact h
  show M.bind (stS G fn (fun q => evS G (callF G F n) fn q deep) (mpC e CL) (d + 1) q s (mpP e ρ)) _ b = _
  unfold M.bind
  rw [h2]
  rfl
def exX (G : Pg) (F : Fs) (n : Nat) (fn : Fn) (q : Bool) (CL : List (Str × Nat)) (x : Expr) (ρ : Loc) : XM V := (evX G (callX G F n) fn q deep).val false fn.sc CL ρ x
def exM (G : Pg) (F : Fs) (n : Nat) (fn : Fn) (q : Bool) (CL : List (Str × Nat)) (x : Expr) (ρ : Loc) : M V := (evS G (callF G F n) fn q deep).val false fn.sc CL ρ x
theorem ex_tr {N : Nat} {e : Nat → Nat} (hP : Plain G F) (n : Nat) (fn : Fn) (q : Bool) (CL : List (Str × Nat)) (x : Expr) (ρ : Loc) : TrX G F N e (V.mp e) (exX G F n fn q CL x ρ) (exM G F n fn q (mpC e CL) x (mpP e ρ)) :=
 (evX_tr hP.1 (callX_tr hP n) deep).val false fn.sc CL ρ x
def turnX (G : Pg) (F : Fs) (n : Nat) (fn : Fn) (q : Bool) (CL : List (Str × Nat)) (d : Nat) (x : Str) (l : List Stmt) (y : V) (ρ : Loc) : XM (Fl × Loc) := XM.bind (noErrX (liftX (storeM fn.sc CL x y ρ))) fun ρ1 => blkX G F n fn q CL d l ρ1
def turnM (G : Pg) (F : Fs) (n : Nat) (fn : Fn) (q : Bool) (CL : List (Str × Nat)) (d : Nat) (x : Str) (l : List Stmt) (y : V) (ρ : Loc) : M (Fl × Loc) := M.bind (Mine.noErr (storeM fn.sc CL x y ρ)) fun ρ1 => blkM G F n fn q CL d l ρ1
theorem turn_tr {N : Nat} {e : Nat → Nat} (hP : Plain G F) (n : Nat) (fn : Fn) (q : Bool) (CL : List (Str × Nat)) (d : Nat) (x : Str) (l : List Stmt) (y : V) (ρ : Loc) : TrX G F N e (mpF e) (turnX G F n fn q CL d x l y ρ) (turnM G F n fn q (mpC e CL) d x l (y.mp e) (mpP e ρ)) :=
 .bind (TrX.lift storeM_tr).noErr fun ρ1 => blk_tr hP n fn q CL d l ρ1
abbrev TurnR (G : Pg) (F : Fs) (n : Nat) (fn : Fn) (q : Bool) (CL : List (Str × Nat)) (d : Nat) (x : Str) (l : List Stmt) (y : V) (ρ : Loc) (a : Sto) (r : Except Addr (Fl × Loc)) (a' : Sto) : Prop := Run mpF (fun e => turnM G F n fn q (mpC e CL) d x l (y.mp e) (mpP e ρ)) a r a'
abbrev ForR (G : Pg) (F : Fs) (n : Nat) (fn : Fn) (q : Bool) (CL : List (Str × Nat)) (d : Nat) (x : Str) (l : List Stmt) (it : It) (k i : Nat) (ρ : Loc) (a : Sto) (r : Except Addr (Fl × Loc)) (a' : Sto) : Prop := Run mpF (fun e => forM (fun y ρ => storeM fn.sc (mpC e CL) x y ρ) (fun ρ => blkM G F n fn q (mpC e CL) d l ρ) (it.mp e) k i (mpP e ρ)) a r a'
theorem bind_ok {α β : Type} {m : M α} {f : α → M β} {b b1 : Sto} {y : α} (h : m b = some (.ok y, b1)) : M.bind m f b = f y b1 := by unfold M.bind; rw [h]
theorem bind_err {α β : Type} {m : M α} {f : α → M β} {b b1 : Sto} {C : Addr} (h : m b = some (.error C, b1)) : M.bind m f b = some (.error C, b1) := by unfold M.bind; rw [h]
theorem still_ok {α : Type} {f : Sto → Option α} {b : Sto} {y : α} (h : f b = some y) : still f b = some (.ok y, b) := by unfold still; rw [h]; rfl
theorem for_turn {asg : V → Loc → M Loc} {mb : Loc → M (Fl × Loc)} {it : It} {k i : Nat} {ρ : Loc} {b b1 : Sto} {y : V} {r : Except Addr (Fl × Loc)} (h : itM it i b = some (some y)) (ht : M.bind (Mine.noErr (asg y ρ)) mb b = some (r, b1)) :
  forM asg mb it (k + 1) i ρ b = match (generalizing := false) r with
   | .ok p => (match p.1 with
    | .next | .cont => forM asg mb it k (i + 1) p.2
    | .brk => M.pure (.next, p.2)
    | .ret y => M.pure (.ret y, p.2)) b1
   | .error C => some (.error C, b1) := by
 conv => lhs; unfold forM
 refine (bind_ok (still_ok h)).trans ?_
 refine M.elim ht (fun ρ1 b2 e1 e2 => (bind_ok e1).trans ?_) fun C b2 e1 e2 => (bind_err e1).trans ?_
 ·cases r with
  | ok p => exact bind_ok e2
  | error C => exact bind_err e2
 ·rw [← (Prod.mk.inj e2).1, ← (Prod.mk.inj e2).2]
theorem ForR.go {x : Str} {l : List Stmt} {it : It} {k i : Nat} {ρ ρ1 : Loc} {y : V} {r : Except Addr (Fl × Loc)} (h0 : itM it i a = some (some y)) (h1 : TurnR G F n fn q CL d x l y ρ a (.ok (.next, ρ1)) a1) (h2 : ForR G F n fn q CL d x l it k (i + 1) ρ1 a1 r a2) : ForR G F n fn q CL d x l it (k + 1) i ρ a r a2 :=
 h1.step h2 fun e b b1 S _ h => for_turn (itM_tr S h0) h
theorem ForR.err {x : Str} {l : List Stmt} {it : It} {k i : Nat} {ρ : Loc} {y : V} {C : Addr} (h0 : itM it i a = some (some y)) (h1 : TurnR G F n fn q CL d x l y ρ a (.error C) a1) : ForR G F n fn q CL d x l it (k + 1) i ρ a (.error C) a1 :=
 h1.as fun e b b1 S h => for_turn (itM_tr S h0) h
theorem ForR.over {x : Str} {l : List Stmt} {it : It} {k i : Nat} {ρ : Loc} (h0 : itM it i a = some none) : ForR G F n fn q CL d x l it (k + 1) i ρ a (.ok (.next, ρ)) a :=
 .none fun e b S => by
  conv => lhs; unfold forM
  exact bind_ok (still_ok (itM_tr S h0))
theorem seq_one {f : Stmt → Loc → M (Fl × Loc)} {s : Stmt} {ρ : Loc} {b : Sto} {r : Except Addr (Fl × Loc) × Sto} (h : f s ρ b = some r) : seqM f [s] ρ b = some r := by
 show M.bind (f s ρ) _ b = _
 unfold M.bind
 rw [h]
 obtain ⟨r, b1⟩ := r
 cases r with
 | error C => rfl
 | ok p => obtain ⟨fl, ρ1⟩ := p; cases fl <;> rfl
theorem BlkR.for {s : Stmt} {x : Str} {ie : Expr} {l : List Stmt} {ρ : Loc} {y : V} {it : It} {r : Except Addr (Fl × Loc)} (hp : planS fn q s = .forN x ie l) (h1 : Run V.mp (fun e => exM G F n fn q (mpC e CL) ie (mpP e ρ)) a (.ok y) a1) (hi : itOf y a1 = some it) (h2 : ForR G F n fn q CL d x l it turns 0 ρ a1 r a2) : BlkR G F n fn q CL (d + 1) [s] ρ a r a2 := by
 refine Run.as (mp := mpF) (m := fun e => smdS G fn.sc q (evS G (callF G F n) fn q deep) (mpC e CL) (seqM (stS G fn (fun q => evS G (callF G F n) fn q deep) (mpC e CL) d q)) (seqM (stS G fn (fun q => evS G (callF G F n) fn q deep) (mpC e CL) d false)) (.forN x ie l) (mpP e ρ)) ?_ fun e b b1 S h => seq_one (f := stS G fn (fun q => evS G (callF G F n) fn q deep) (mpC e CL) (d + 1) q) (show smdS G fn.sc q _ (mpC e CL) _ _ (planS fn q s) (mpP e ρ) b = _ from hp ▸ h)
 exact h1.step h2 fun e b b1 _ S h => (bind_ok (m := exM G F n fn q (mpC e CL) ie (mpP e ρ)) h).trans (bind_ok (still_ok (itOf_tr S hi)))
end
theorem t_flat : glL.all (fun p => flatV p.2) = true := by kernel_rfl
theorem t_dfl : fnD.all (fun p => flatVs p.2.dfl) = true := by kernel_rfl
theorem mkFn_dfl {o : Obj} {t : Option Nat} : (mkFn o t []).dfl = [] := by unfold mkFn; split <;> rfl
set_option tactic.hygienic true in
theorem G0_plain {lo : List Str} {K : Params → Frag} : Plain (GG lo K) FF := by
 refine ⟨fun x y h => List.all_eq_true.mp t_flat _ (lookup_mem h), fun a fn h => ?_⟩
 have h : fnsA a = some fn := h
 unfold fnsA at h
 split at h
 ·rename_i g e
  induction h using E1
  have := lookup_mem e
  rw [t_fns] at this
  obtain ⟨t, ht, e⟩ := List.mem_map.mp this
  rw [← (Prod.mk.inj e).2, mkFn_dfl]; rfl
 ·exact List.all_eq_true.mp t_dfl _ (lookup_mem h)
section
variable {α β : Type} {mp : (Nat → Nat) → α → β} {m m2 : (Nat → Nat) → M β} {a a' st st' : Sto} {jl : List Nat} {G : Pg} {F : Fs} {N : Nat} {e : Nat → Nat}
structure Emb (jl : List Nat) (a a' st st' : Sto) : Prop where
 n : jl.length = a.length
 j : okJ st.length jl = true
 f : a'.length ≤ far
 t : tabsFix 0 jl a = true
 t' : tabsFix 0 jl a' = true
 p : a.map (O.mp (jof jl st.length)) = jl.map fun k => (st[k]?).getD default
 e : putAll (jof jl st.length) jl a' st = st'
theorem Run.emb {r : Except Addr α} (h : Run mp m a r a') (E : Emb jl a a' st st') {r2 : Except Addr α} (hm : ∀ e, m2 e = m fun k => e (jof jl st.length k)) (hr : ∀ e, r2.map (mp e) = r.map (mp fun k => e (jof jl st.length k))) : Run mp m2 st r2 st' := by
 have hle := h.le
 refine ⟨fun e b S => ?_, ?_⟩
 ·rw [← E.e] at S ⊢
  obtain ⟨b', e1, X⟩ := h.ms _ b (Mine.emb S E.n hle E.j E.f E.t (Nat.le_refl _) E.p)
  exact ⟨b', by rw [hm, hr]; exact e1, emb_back S E.n hle E.j E.f E.t' (Nat.le_refl _) X⟩
 ·rw [← E.e, putAll_length _ _ _ (E.n ▸ hle)]
  exact Nat.le_add_right ..
theorem rmp {r r2 : Except Addr V} {j : Nat → Nat} (hr : r.map (V.mp j) = r2) (e : Nat → Nat) : r2.map (V.mp e) = r.map (V.mp fun k => e (j k)) := by
 rw [← hr]
 cases r with
 | ok y => exact congrArg Except.ok (mp_mp y)
 | error C => rfl
theorem mpC_mpC {j : Nat → Nat} (l : List (Str × Nat)) : mpC e (mpC j l) = mpC (fun k => e (j k)) l := by
 unfold mpC; rw [List.map_map]; rfl
theorem rmpF {r r2 : Except Addr (Fl × Loc)} {j : Nat → Nat} (hr : r.map (mpF j) = r2) (e : Nat → Nat) : r2.map (mpF e) = r.map (mpF fun k => e (j k)) := by
 rw [← hr]
 cases r with
 | ok p =>
  obtain ⟨fl, ρ⟩ := p
  refine congrArg Except.ok (Prod.ext ?_ (mpP_mpP ρ))
  cases fl with
  | ret y => exact congrArg Fl.ret (mp_mp y)
  | _ => rfl
 | error C => rfl
theorem CallR.emb {k : Nat} {q : Bool} {f : Addr} {vs vs2 : List V} {r r2 : Except Addr V} (h : CallR G F k q f vs a r a') (E : Emb jl a a' st st') (hv : V.mps (jof jl st.length) vs = vs2) (hr : r.map (V.mp (jof jl st.length)) = r2) : CallR G F k q f vs2 st r2 st' :=
 fun n => (h n).emb E (fun e => by rw [← hv, mps_mps]) (rmp hr)
variable {n : Nat} {fn : Fn} {q : Bool} {CL CL2 : List (Str × Nat)} {d : Nat} {l : List Stmt} {ρ ρ2 : Loc} {r r2 : Except Addr (Fl × Loc)}
theorem BlkR.emb (h : BlkR G F n fn q CL d l ρ a r a') (E : Emb jl a a' st st') (hC : mpC (jof jl st.length) CL = CL2) (hρ : mpP (jof jl st.length) ρ = ρ2) (hr : r.map (mpF (jof jl st.length)) = r2) : BlkR G F n fn q CL2 d l ρ2 st r2 st' :=
 Run.emb h E (fun e => by rw [← hC, ← hρ, mpC_mpC, mpP_mpP]) (rmpF hr)
theorem TurnR.emb {x : Str} {y y2 : V} (h : TurnR G F n fn q CL d x l y ρ a r a') (E : Emb jl a a' st st') (hC : mpC (jof jl st.length) CL = CL2) (hy : y.mp (jof jl st.length) = y2) (hρ : mpP (jof jl st.length) ρ = ρ2) (hr : r.map (mpF (jof jl st.length)) = r2) : TurnR G F n fn q CL2 d x l y2 ρ2 st r2 st' :=
 Run.emb h E (fun e => by rw [← hC, ← hρ, ← hy, mpC_mpC, mpP_mpP, mp_mp]) (rmpF hr)
abbrev ExR (G : Pg) (F : Fs) (n : Nat) (fn : Fn) (q : Bool) (CL : List (Str × Nat)) (d : Nat) (x : Expr) (ρ : Loc) (a : Sto) (r : Except Addr V) (a' : Sto) : Prop := Run V.mp (fun e => (evS G (callF G F n) fn q d).val false fn.sc (mpC e CL) (mpP e ρ) x) a r a'
theorem okJ_range {n : Nat} : ∀ (k s : Nat), s + k ≤ n → okJ n (List.range' s k) = true
 | 0, _, _ => rfl
 | k + 1, s, h => by
  rw [List.range'_succ, okJ, okJ_range k (s + 1) (by lia)]
  have h1 : Nat.blt s n = true := by rw [Nat.blt]; exact Nat.ble_eq_true_of_le (by lia)
  have h2 : (List.range' (s + 1) k).all (fun j => !Nat.beq j s) = true := List.all_eq_true.mpr fun j hj => by
   have := (List.mem_range'_1.mp hj).1
   cases h : Nat.beq j s with
   | true => have := Nat.eq_of_beq_eq_true h; lia
   | false => rfl
  rw [h1, h2]; rfl
theorem tabsFix_pre {new : Sto} (hn : new.all (fun o => !isTab o) = true) : ∀ (a : Sto) (s : Nat), tabsFix s (List.range' s a.length) (a ++ new) = true
 | [], s => by
  show tabsFix s [] new = true
  cases new <;> exact hn
 | o :: a, s => by
  rw [List.length_cons, List.range'_succ, List.cons_append, tabsFix, tabsFix_pre hn a (s + 1), Nat.beq_refl]
  cases isTab o <;> rfl
theorem putAll_pre {j : Nat → Nat} {g new : Sto} (a : Sto) : ∀ (a1 pre : Sto), a1.length = a.length → putAll j (List.range' pre.length a.length) (a1 ++ new) (pre ++ (a ++ g)) = pre ++ (a1.map (O.mp j) ++ (g ++ new.map (O.mp j))) := by
 induction a with
 | nil =>
  intro a1 pre h
  rw [List.length_eq_zero_iff.mp h]
  show putAll j [] new (pre ++ g) = pre ++ (g ++ new.map (O.mp j))
  rw [← List.append_assoc]
  cases new <;> rfl
 | cons o a ih =>
  intro a1 pre h
  obtain ⟨o1, a1, rfl⟩ := List.exists_cons_of_length_eq_add_one h
  have := ih a1 (pre ++ [o1.mp j]) (Nat.succ.inj h)
  rw [List.length_append, List.length_singleton] at this
  rw [List.length_cons, List.range'_succ, List.cons_append]
  show putAll j _ (a1 ++ new) ((pre ++ (o :: (a ++ g))).set pre.length (o1.mp j)) = _
  rw [List.set_append_right _ _ (Nat.le_refl _), Nat.sub_self, List.set_cons_zero]
  simpa using this
theorem Emb.pre {a1 new g a1' new' : Sto} (hn : a1.length = a.length) (hf : (a1 ++ new).length ≤ far) (ht : new.all (fun o => !isTab o) = true) (ha : a.map (O.mp (jof (List.range' 0 a.length) (a ++ g).length)) = a) (h1 : a1.map (O.mp (jof (List.range' 0 a.length) (a ++ g).length)) = a1') (h2 : new.map (O.mp (jof (List.range' 0 a.length) (a ++ g).length)) = new') : Emb (List.range' 0 a.length) a (a1 ++ new) (a ++ g) (a1' ++ (g ++ new')) := by
 refine ⟨List.length_range', okJ_range _ _ (by rw [List.length_append]; lia), hf, ?_, ?_, ?_, ?_⟩
 ·have := tabsFix_pre (new := []) rfl a 0
  rw [List.append_nil] at this; exact this
 ·rw [← hn]; exact tabsFix_pre ht a1 0
 ·rw [ha]
  refine List.ext_getElem? fun i => ?_
  rw [List.getElem?_map]
  by_cases hi : i < a.length
  ·rw [List.getElem?_range' hi, Option.map_some, Nat.zero_add, Nat.one_mul, List.getElem?_append_left hi, List.getElem?_eq_getElem hi]; rfl
  ·rw [List.getElem?_eq_none (by lia), List.getElem?_eq_none (by rw [List.length_range']; lia)]; rfl
 ·rw [← h1, ← h2]
  exact putAll_pre a a1 [] hn
end
section
variable {G : Pg} {F : Fs} {n : Nat} {fn : Fn} {q : Bool} {CL CL' : List (Str × Nat)} {d : Nat} {ρ : Loc} {a a1 a2 : Sto}
abbrev CompR (x : Str) (me : (Nat → Nat) → Loc → M V) (it : It) (k i : Nat) (acc : List V) (a : Sto) (r : Except Addr (List V)) (a' : Sto) : Prop := Run V.mps (fun e => compM x (fun _ => M.pure true) (me e) (it.mp e) k i (V.mps e acc)) a r a'
theorem noErr_of {α : Type} {m : M α} {b b1 : Sto} {y : α} (h : m b = some (.ok y, b1)) : Mine.noErr m b = some (.ok y, b1) := by unfold Mine.noErr; rw [h]
theorem CompR.go {x : Str} {me : (Nat → Nat) → Loc → M V} {it : It} {k i : Nat} {acc : List V} {y z : V} {r : Except Addr (List V)} (h0 : itM it i a = some (some y)) (h1 : Run V.mp (fun e => me e [(x, y.mp e)]) a (.ok z) a1) (hl : acc.length < sizeLine) (h2 : CompR x me it k (i + 1) (acc ++ [z]) a1 r a2) : CompR x me it (k + 1) i acc a r a2 :=
 h1.step h2 fun e b b1 S _ h => by
  conv => lhs; unfold compM
  refine (bind_ok (still_ok (itM_tr S h0))).trans ?_
  refine (bind_ok (m := Mine.noErr (M.pure true)) rfl).trans ?_
  refine (bind_ok (noErr_of h)).trans ?_
  rw [if_pos (by rw [mps_length]; exact hl), mps_append]
  rfl
theorem CompR.over {x : Str} {me : (Nat → Nat) → Loc → M V} {it : It} {k i : Nat} {acc : List V} (h0 : itM it i a = some none) : CompR x me it (k + 1) i acc a (.ok acc) a :=
 .none fun e b S => by
  conv => lhs; unfold compM
  exact bind_ok (still_ok (itM_tr S h0))
theorem ExR.comp {x iter elt : Expr} {y : Str} {csc : Scope} {u : V} {it : It} {l : List V} (hp : planE q false x = .comp elt y iter [] csc) (hc : ∀ e, clos (mpC e CL) csc.names [] = some (mpC e CL')) (h1 : ExR G F n fn q CL d iter ρ a (.ok u) a1) (hi : itOf u a1 = some it)
  (h2 : CompR y (fun e ρ' => (evS G (callF G F n) fn q d).val true csc (mpC e CL') ρ' elt) it turns 0 [] a1 (.ok l) a2) : ExR G F n fn q CL (d + 1) x ρ a (.ok (.hnd a2.length)) (a2 ++ [.list l]) := by
 have h3 : Run V.mp (fun e => newO (O.list (V.mps e l))) a2 (.ok (.hnd a2.length)) (a2 ++ [.list l]) := ⟨fun e b S => newO_tr (o := .list l) nofun _ _ _ _ (S.less (Nat.le_refl _) (by simp) |> fun S => ⟨S.get, S.nxt, S.inj, S.out, S.len, S.cap, S.fix⟩) rfl (Nat.le_refl _), by simp⟩
 have h4 : Run V.mp (fun e => M.bind (compM y (fun _ => M.pure true) (fun ρ' => (evS G (callF G F n) fn q d).val true csc (mpC e CL') ρ' elt) (it.mp e) turns 0 []) fun l => newO (.list l)) a1 (.ok (.hnd a2.length)) (a2 ++ [.list l]) := h2.bind h3
 refine h1.step h4 fun e b b1 _ S h => ?_
 show valS G (callF G F n) fn q (evS G (callF G F n) fn q d) false fn.sc (mpC e CL) (mpP e ρ) (planE q false x) b = _
 rw [hp]
 unfold valS
 dsimp only
 rw [hc e]
 exact (bind_ok h).trans (bind_ok (still_ok (itOf_tr S hi)))
theorem ExR.tuple {x fe ce : Expr} {k : Nat} {l : List V} (hp : planE q false x = .call fe [ce]) (hf : ∀ e b, (evS G (callF G F (n + 1)) fn q d).val false fn.sc (mpC e CL) (mpP e ρ) fe b = some (.ok (.ty "tuple"), b)) (h1 : ExR G F (n + 1) fn q CL d ce ρ a (.ok (.hnd k)) a1) (hk : a1[k]? = some (.list l)) (hl : l.length ≤ 16384) :
  ExR G F (n + 1) fn q CL (d + 1) x ρ a (.ok (.tup l)) a1 := by
 refine h1.step (Run.none (m := fun e => M.pure (.tup (V.mps e l))) fun e b S => rfl) fun e b b1 _ S h => ?_
 show valS G (callF G F (n + 1)) fn q (evS G (callF G F (n + 1)) fn q d) false fn.sc (mpC e CL) (mpP e ρ) (planE q false x) b = _
 rw [hp]
 unfold valS
 dsimp only
 refine (bind_ok (hf e b)).trans ?_
 refine (bind_ok (m := evList _ [ce]) ((bind_ok h).trans (bind_ok (m := M.pure []) rfl))).trans ?_
 show (if callable G (.ty "tuple") b1 then callF G F (n + 1) q (.ty "tuple") ([] ++ [V.hnd (e k)]) b1 else none) = _
 rw [if_pos (show callable G (.ty "tuple") b1 = true from rfl)]
 have h2 : tupP (.hnd (e k)) b1 = some (.tup (V.mps e l)) := by
  show ((lstAt b1 (e k)).bind fun l => if l.length ≤ 16384 then some (V.tup l) else none) = _
  unfold lstAt
  rw [S.get _ _ hk]
  show (if (V.mps e l).length ≤ 16384 then _ else none) = _
  rw [mps_length, if_pos hl]
 show callC q (.ty "tuple") [.hnd (e k)] b1 = _
 have h3 : callD q (.ty "tuple") [.hnd (e k)] b1 = some (.tup (V.mps e l), b1) := by
  show (tyP "tuple" [.hnd (e k)] b1).map _ = _
  show ((tupP (.hnd (e k)) b1)).map _ = _
  rw [h2]; rfl
 unfold callC
 rw [h3]; rfl
theorem BlkR.asN {s : Stmt} {x : Str} {ex : Expr} {y : V} (hp : planS fn q s = .asN x ex) (hs : fn.sc.names.lookup x = some .local) (h : ExR G F n fn q CL deep ex ρ a (.ok y) a1) : BlkR G F n fn q CL (d + 1) [s] ρ a (.ok (.next, putF x y ρ)) a1 :=
 h.as fun e b b1 _ h => by
  refine seq_one (f := stS G fn (fun q => evS G (callF G F n) fn q deep) (mpC e CL) (d + 1) q) ?_
  show smdS G fn.sc q _ (mpC e CL) _ _ (planS fn q s) (mpP e ρ) b = _
  rw [hp]
  refine (bind_ok h).trans ((bind_ok (b1 := b1) (y := putF x (y.mp e) (mpP e ρ)) ?_).trans ?_)
  ·unfold storeM; rw [hs]
  ·rw [← putF_mp]; rfl
theorem evl_cons {f : Expr → M V} {x : Expr} {l : List Expr} {y : V} {ys : List V} {b b1 b2 : Sto} (h1 : f x b = some (.ok y, b1)) (h2 : evList f l b1 = some (.ok ys, b2)) : evList f (x :: l) b = some (.ok (y :: ys), b2) := (bind_ok h1).trans ((bind_ok h2).trans rfl)
theorem BlkR.ret {s : Stmt} {ex : Expr} {r : Except Addr V} (hp : planS fn q s = .ret ex) (h : ExR G F n fn q CL deep ex ρ a r a1) : BlkR G F n fn q CL (d + 1) [s] ρ a (r.map fun y => (.ret y, ρ)) a1 :=
 h.as fun e b b1 _ h => by
  refine seq_one (f := stS G fn (fun q => evS G (callF G F n) fn q deep) (mpC e CL) (d + 1) q) ?_
  show smdS G fn.sc q _ (mpC e CL) _ _ (planS fn q s) (mpP e ρ) b = _
  rw [hp]
  cases r with
  | ok y => exact bind_ok h
  | error C => exact bind_err h
theorem CallR.bodyC {f : Addr} {k : Nat} {vs : List V} {r : Except Addr (Fl × Loc)} {cs : List Str} {cv : Sto} (h : F.fns f = some fn) (hc : (cellsFrom 0 fn.sc.names []).map (·.1) = cs) (hl : vs.length = fn.names.length) (hρ : bindLV fn.sc (fn.names.zip vs) [] = ρ) (hcv : cellsV cs (bindCV fn.sc (fn.names.zip vs) []) = cv)
  {bd : List Stmt} (hbd : fn.body = bd) (hb : ∀ n, BlkR G F (n + k) fn q (clV cs a.length) deep bd ρ (a ++ cv) r a1) : CallR G F (k + 1) q f vs a (r.map fun p => retV p.1) a1 := fun n => by
 have hle := (hb n).le
 refine ⟨fun e b S => ?_, Nat.le_trans (by simp) hle⟩
 have N1 := S.adds cv hle (hcv ▸ cellsV_tab)
 obtain ⟨b2, e3, N2⟩ := (hb n).ms e _ N1.S
 refine ⟨b2, ?_, N1.trans S N2⟩
 subst hbd
 show callF G F (n + k + 1) q (.glob f) (V.mps e vs) b = _
 unfold callF
 dsimp only
 rw [h]
 show fnM fn (bodyM G (callF G F (n + k)) fn q) (V.mps e vs) b = _
 unfold fnM
 rw [if_pos (by rw [mps_length]; lia)]
 have hd : fn.dfl.drop ((V.mps e vs).length + fn.dfl.length - fn.names.length) = [] := by rw [mps_length, hl, Nat.add_sub_cancel_left, List.drop_length]
 simp only [hd, List.append_nil]
 rw [← zip_mp, hc]
 rw [← hcv, cellsV_mp, bindCV_mp] at e3
 dsimp only at e3
 rw [← hρ, bindLV_mp] at e3
 rw [clV_mp _ _ b.length fun i hi => by
  have := S.nxt (a.length + i) (by lia) (by rw [← hcv] at hle; simp only [List.length_append, cellsV, List.length_map] at hle; lia)
  rw [this]; lia] at e3
 have e3 : bodyM G (callF G F (n + k)) fn q (clV cs b.length) (bindLV fn.sc (mpP e (fn.names.zip vs)) []) (b ++ cellsV cs (bindCV fn.sc (mpP e (fn.names.zip vs)) [])) = _ := e3
 rw [e3]
 cases r with
 | ok p => exact congrArg some (congrArg (·, b2) (congrArg Except.ok (retV_mp p.1)))
 | error C => rfl
theorem TurnR.app {x : Str} {l r : List Stmt} {y : V} {ρ1 : Loc} {z : Except Addr (Fl × Loc)} (h1 : TurnR G F n fn q CL d x l y ρ a (.ok (.next, ρ1)) a1) (h2 : BlkR G F n fn q CL d r ρ1 a1 z a2) : TurnR G F n fn q CL d x (l ++ r) y ρ a z a2 :=
 h1.step h2 fun e b b1 _ _ h => by
  refine M.elim h (fun ρ2 b2 e1 e2 => ?_) fun C b2 _ e2 => by cases e2
  exact (bind_ok e1).trans (seq_app e2)
theorem jof_id {k n : Nat} (hk : k < far) : jof (List.range' 0 n) n k = k := by
 by_cases h : k < n
 ·exact (jof_in (show (List.range' 0 n)[k]? = some k by rw [List.getElem?_range' h]; simp))
 ·rw [jof_new (by rw [List.length_range']; lia) hk, List.length_range']; lia
theorem jof_idf (n : Nat) (hn : n ≤ far) : jof (List.range' 0 n) n = id := funext fun k => by
 by_cases h : k < far
 ·exact jof_id h
 ·have := jof_far (jl := List.range' 0 n) (n := n) (h := k - far) (by rw [List.length_range']; exact hn)
  rw [show far + (k - far) = k by lia] at this
  exact this
mutual
theorem mp_id : ∀ y : V, y.mp id = y
 | .tup l => by rw [V.mp, mps_id l]
 | .lstK l => by rw [V.mp, mps_id l]
 | .hnd _ => rfl
 | .none => rfl
 | .bool _ => rfl
 | .int _ => rfl
 | .str _ => rfl
 | .glob _ => rfl
 | .bi _ => rfl
 | .ty _ => rfl
 | .rng _ _ _ => rfl
theorem mps_id : ∀ l : List V, V.mps id l = l
 | [] => rfl
 | y :: r => by rw [V.mps, mp_id y, mps_id r]
end
theorem mpP_id {κ : Type} (l : List (κ × V)) : mpP id l = l := by
 unfold mpP
 conv => rhs; rw [← List.map_id l]
 exact List.map_congr_left fun p _ => by rw [mp_id]; rfl
theorem omp_id (o : O) : o.mp id = o := by
 cases o with
 | list l => exact congrArg O.list (mps_id l)
 | sdict l => exact congrArg O.sdict (mpP_id l)
 | inst C l => exact congrArg (O.inst C) (mpP_id l)
 | cell v => exact congrArg O.cell (by cases v <;> first | rfl | exact congrArg some (mp_id _))
 | lam p b s q cl => exact congrArg (O.lam p b s q) (List.map_id cl)
 | tab q => rfl
theorem sto_id (a : Sto) : a.map (O.mp id) = a := by
 conv => rhs; rw [← List.map_id a]
 exact List.map_congr_left fun o _ => omp_id o
theorem calC_id {jl : List Nat} {m : Nat} {o : Orc} (hj : jl = List.range' 0 m) (hm : m ≤ far) (hb : (Nat.ble o.a'.length far && tabsFix 0 jl o.a') = true) : CalC jl m o o.vs o.a o.r o.a' := by
 subst hj
 refine ⟨?_, ?_, ?_, ?_, hb⟩
 ·rw [jof_idf m hm, mps_id]
 ·rw [jof_idf m hm, sto_id]
 ·rw [jof_idf m hm]
  cases o.r with
  | ok y => exact congrArg Except.ok (mp_id y)
  | error C => rfl
 ·rw [jof_idf m hm, sto_id]
end
theorem log2_lt {n k : Nat} (hk : 0 < k) (h : n < 2 ^ k) : n.log2 < k := by
 by_cases hn : n = 0
 ·subst hn; simpa using hk
 ·exact (Nat.log2_lt hn).mpr h
theorem bits_le {x : Int} {k : Nat} (hk : 0 < k) (h : x.natAbs < 2 ^ k) : Builtin.Int.intBits x ≤ k := by
 unfold Builtin.Int.intBits
 split
 ·lia
 ·exact log2_lt hk h
theorem powOk_of {a n : Int} {k : Nat} (hn : 0 ≤ n) (hk : 0 < k) (h : a.natAbs < 2 ^ k) (hb : (k : Int) * n ≤ 2 ^ 27) : powOk a n = true := by
 unfold powOk
 rw [Bool.and_eq_true, decide_eq_true_iff, decide_eq_true_iff]
 refine ⟨hn, Int.le_trans (Int.mul_le_mul_of_nonneg_right (Int.ofNat_le.mpr (bits_le hk h)) hn) hb⟩
theorem mulOk_k {a b : Int} {i j : Nat} (h : a.natAbs < 2 ^ i) (h' : b.natAbs < 2 ^ j) (h1 : 0 < i ∧ 0 < j ∧ i + j < 20000) : mulOk a b = true := by
 have ha := bits_le h1.1 h
 have hb := bits_le h1.2.1 h'
 unfold mulOk
 have : Builtin.Int.intTooBig (Builtin.Int.intBits a + Builtin.Int.intBits b) = false := decide_eq_false (by unfold bitsLine; lia)
 rw [this, Bool.and_false]; rfl
theorem pylF {x m : Int} {k : Nat} (h0 : 0 < k) (h : m.natAbs < 2 ^ k) (hk : k ≤ 8000) : Builtin.divisionGoesByPylong x m = false := by
 have hl := log2_lt h0 h
 unfold Builtin.divisionGoesByPylong
 rw [Bool.and_eq_false_iff]
 refine .inl (decide_eq_false ?_)
 cases m == 0 <;> simp <;> lia
theorem fmod_bd {a m : Int} (h : 0 < m) : 0 ≤ a.fmod m ∧ a.fmod m < m := ⟨Int.fmod_nonneg_of_pos a h, Int.fmod_lt_of_pos a h⟩
theorem mul_bd {x y : Int} {i j : Nat} (hx : x.natAbs < 2 ^ i) (hy : y.natAbs ≤ 2 ^ j) : (x * y).natAbs < 2 ^ (i + j) := by
 rw [Int.natAbs_mul, Nat.pow_add]
 exact Nat.lt_of_le_of_lt (Nat.mul_le_mul_left _ hy) (Nat.mul_lt_mul_of_pos_right hx (Nat.two_pow_pos j))
theorem tp {m : Int} {k : Nat} (h : m ≤ k) : ((10 : Int) ^ m.toNat).natAbs ≤ 2 ^ (4 * k) := by
 rw [Int.natAbs_pow, Nat.pow_mul]
 exact Nat.le_trans (Nat.pow_le_pow_left (by decide : (10 : Int).natAbs ≤ 2 ^ 4) _) (Nat.pow_le_pow_right (by decide) (by lia))
theorem tpp {m : Int} {k : Nat} (h : m ≤ k) : ((10 : Int) ^ m.toNat).natAbs < 2 ^ (4 * k + 1) := Nat.lt_of_le_of_lt (tp h) (Nat.pow_lt_pow_right (by decide) (Nat.lt_succ_self _))
theorem tpok {m : Int} (h0 : 0 ≤ m) (h : m ≤ 200) : powOk 10 m = true := powOk_of (k := 4) h0 (by decide) (by decide) (by lia)
theorem tppos {m : Int} : (10 : Int) ^ m.toNat ≠ 0 := Int.ne_of_gt (Int.pow_pos (by decide))
theorem up2 {x : Int} {i j : Nat} (h : x.natAbs < 2 ^ i) (hij : i ≤ j) : x.natAbs < 2 ^ j := Nat.lt_of_lt_of_le h (Nat.pow_le_pow_right (by decide) hij)
theorem add_bd {x y : Int} {i : Nat} (hx : x.natAbs < 2 ^ i) (hy : y.natAbs < 2 ^ i) : (x + y).natAbs < 2 ^ (i + 1) ∧ (x - y).natAbs < 2 ^ (i + 1) := by
 have h : ∀ {y : Int}, y.natAbs < 2 ^ i → (x + y).natAbs < 2 ^ (i + 1) := fun hy => by
  rw [Nat.pow_succ, Nat.mul_two]
  exact Nat.lt_of_le_of_lt (Int.natAbs_add_le _ _) (Nat.add_lt_add hx hy)
 exact ⟨h hy, h (by rw [Int.natAbs_neg]; exact hy)⟩
noncomputable def ab (x : Int) : Int := if x < 0 then -x else x
theorem ab_nat (x : Int) : ab x = (x.natAbs : Int) := by unfold ab; split <;> lia
theorem ab_abs (x : Int) : (ab x).natAbs = x.natAbs := by rw [ab_nat]; rfl
theorem fdiv_le {x y : Int} (hx : 0 ≤ x) (hy : 0 < y) : (x.fdiv y).natAbs ≤ x.natAbs := by
 have h1 := Int.fdiv_nonneg hx (Int.le_of_lt hy)
 have h2 : x.fdiv y ≤ x := by
  rw [Int.fdiv_eq_ediv_of_nonneg _ (Int.le_of_lt hy)]
  exact Int.ediv_le_self _ hx
 exact Int.ofNat_le.mp (by rw [Int.natAbs_of_nonneg h1, Int.natAbs_of_nonneg hx]; exact h2)
noncomputable def pr (u s : Int) : V := .tup [.int u, .int s]
noncomputable def mx (s t : Int) : Int := if t > s then t else s
section
variable (lo : List Str) (K : Params → Frag)
theorem cutX (n : Nat) (u s : Int) (b : Bool) : callX (GG lo K) FF (n + 2) true (.glob 410) [.int u, .int s] ⟨[], [(3, .b b), (2, .b true)], [], True⟩ =
  some (.ok (.int (cond b (-(ab u).fdiv (ab s)) ((ab u).fdiv (ab s)))), ⟨[], [], [], (!decide (ab s = 0 ∨ Builtin.divisionGoesByPylong (ab u) (ab s) = true)) = true ∧ (!(PyData.bool (decide (u < 0))).eqv (PyData.bool (decide (s < 0)))) = b ∧ True⟩) := by cases b <;> kernel_rfl
def decW : Stmt := f418.body.getD 1 (.Pass pz)
noncomputable def bodyOf : Stmt → List Stmt
 | .For _ _ b _ _ => b
 | .While _ b _ _ => b
 | .If _ b _ _ => b
 | _ => []
noncomputable def testOf : Stmt → Expr
 | .While t _ _ _ => t
 | .If t _ _ _ => t
 | _ => default
def decR (u s : Int) : Loc := [(S "units", .int u), (S "scale", .int s)]
theorem dec_go (n : Nat) (u s : Int) : whX (GG lo K) FF n f418 true [] 19 (testOf decW) (bodyOf decW) (decR u s) ⟨[], [(1, .b true), (2, .b true)], [], True⟩ = some (.ok (.next, decR (u.fdiv 10) (s - 1)), ⟨[], [], [], (u.fmod 10 == 0) = true ∧ decide (0 < s) = true ∧ True⟩) := by kernel_rfl
theorem dec_end (n : Nat) (u s : Int) : tstsX (GG lo K) FF n f418 true [] (testOf decW) (decR u s) ⟨[], [(1, .b true), (2, .b false)], [], True⟩ = some (.ok false, ⟨[], [], [], (u.fmod 10 == 0) = false ∧ decide (0 < s) = true ∧ True⟩) := by kernel_rfl
theorem dec_end0 (n : Nat) (u s : Int) : tstsX (GG lo K) FF n f418 true [] (testOf decW) (decR u s) ⟨[], [(1, .b false)], [], True⟩ = some (.ok false, ⟨[], [], [], decide (0 < s) = false ∧ True⟩) := by kernel_rfl
theorem dec_a (n : Nat) (u s : Int) : blkX (GG lo K) FF n f418 true [] deep (f418.body.take 1) (decR u s) ⟨[], [(1, .b false)], [], True⟩ = some (.ok (.next, decR u s), ⟨[], [], [], decide (s < 0) = false ∧ True⟩) := by kernel_rfl
theorem dec_z (n : Nat) (u s : Int) : blkX (GG lo K) FF n f418 true [] deep (f418.body.drop 2) (decR u s) ⟨[], [], [], True⟩ = some (.ok (.ret (pr u s), decR u s), ⟨[], [], [], True⟩) := by kernel_rfl
def Cal.fits (k : Cal) (n : Nat) (objs : Sto) : Prop := CalC k.jl n k.o k.o.vs objs k.r k.a
def Cal.p (k : Cal) (n : Nat) : Prop := CalC [] n k.o k.o.vs [] k.r []
noncomputable def pure_ (k : Nat) (f : Addr) (vs : List V) (r : Except Addr V) : Cal := ⟨⟨k, true, f, vs, [], r, []⟩, [], r, []⟩
def cutO (u s c : Int) : Cal := pure_ 2 410 [.int u, .int s] (.ok (.int c))
def decO (u s u' s' : Int) : Cal := pure_ 1 418 [.int u, .int s] (.ok (pr u' s'))
theorem kept_a (n : Nat) (u s v u' s' : Int) : callX (GG lo K) FF (n + 5) true (.glob 425) [.int u, .int s] ⟨[], [(1, .b true), (0, .b true), (3, .b false)], [cutO u (10 ^ (s - 30).toNat) v, decO v 30 u' s'], True⟩ =
  some (.ok (pr u' s'), ⟨[], [], [], (decO v 30 u' s').p 0 ∧ (!decide (ab v < 10 ^ Int.toNat 120)) = false ∧ (cutO u (10 ^ (s - 30).toNat) v).p 0 ∧ powOk 10 (s - 30) = true ∧ decide (30 < s) = true ∧ True⟩) := by kernel_rfl
theorem kept_b (n : Nat) (u s v : Int) : callX (GG lo K) FF (n + 5) true (.glob 425) [.int u, .int s] ⟨[], [(1, .b true), (0, .b true), (3, .b true)], [cutO u (10 ^ (s - 30).toNat) v], True⟩ =
  some (.error 389, ⟨[], [], [], (!decide (ab v < 10 ^ Int.toNat 120)) = true ∧ (cutO u (10 ^ (s - 30).toNat) v).p 0 ∧ powOk 10 (s - 30) = true ∧ decide (30 < s) = true ∧ True⟩) := by kernel_rfl
theorem kept_c (n : Nat) (u s u' s' : Int) : callX (GG lo K) FF (n + 5) true (.glob 425) [.int u, .int s] ⟨[], [(1, .b false), (3, .b false)], [decO u s u' s'], True⟩ =
  some (.ok (pr u' s'), ⟨[], [], [], (decO u s u' s').p 0 ∧ (!decide (ab u < 10 ^ Int.toNat 120)) = false ∧ decide (30 < s) = false ∧ True⟩) := by kernel_rfl
theorem kept_d (n : Nat) (u s : Int) : callX (GG lo K) FF (n + 5) true (.glob 425) [.int u, .int s] ⟨[], [(1, .b false), (3, .b true)], [], True⟩ =
  some (.error 389, ⟨[], [], [], (!decide (ab u < 10 ^ Int.toNat 120)) = true ∧ decide (30 < s) = false ∧ True⟩) := by kernel_rfl
def besC (u s v t : Int) (m : Prop) : Prop := mulOk v (10 ^ (mx s t - t).toNat) = true ∧ powOk 10 (mx s t - t) = true ∧ mulOk u (10 ^ (mx s t - s).toNat) = true ∧ powOk 10 (mx s t - s) = true ∧ m
theorem plusX (n : Nat) (u s v t u' s' : Int) : callX (GG lo K) FF (n + 5) true (.glob 439) [pr u s, pr v t] ⟨[], [(5, .b true), (0, .b true), (2, .b true), (0, .b true)], [decO (u * 10 ^ (mx s t - s).toNat + v * 10 ^ (mx s t - t).toNat) (mx s t) u' s'], True⟩ =
  some (.ok (pr u' s'), ⟨[], [], [], (decO (u * 10 ^ (mx s t - s).toNat + v * 10 ^ (mx s t - t).toNat) (mx s t) u' s').p 0 ∧ besC u s v t True⟩) := by kernel_rfl
theorem minusX (n : Nat) (u s v t u' s' : Int) : callX (GG lo K) FF (n + 5) true (.glob 446) [pr u s, pr v t] ⟨[], [(5, .b true), (0, .b true), (2, .b true), (0, .b true)], [decO (u * 10 ^ (mx s t - s).toNat - v * 10 ^ (mx s t - t).toNat) (mx s t) u' s'], True⟩ =
  some (.ok (pr u' s'), ⟨[], [], [], (decO (u * 10 ^ (mx s t - s).toNat - v * 10 ^ (mx s t - t).toNat) (mx s t) u' s').p 0 ∧ besC u s v t True⟩) := by kernel_rfl
theorem timesX (n : Nat) (u s v t : Int) (r : Except Addr V) : callX (GG lo K) FF (n + 6) true (.glob 453) [pr u s, pr v t] ⟨[], [(2, .b true)], [pure_ 5 425 [.int (u * v), .int (s + t)] r], True⟩ =
  some (r, ⟨[], [], [], (pure_ 5 425 [.int (u * v), .int (s + t)] r).p 0 ∧ mulOk u v = true ∧ True⟩) := by cases r <;> kernel_rfl
theorem negX (n : Nat) (u s : Int) : callX (GG lo K) FF (n + 1) true (.glob 460) [pr u s] ⟨[], [], [], True⟩ = some (.ok (pr (-u) s), ⟨[], [], [], True⟩) := by kernel_rfl
theorem quoX (n : Nat) (u s v t c u' s' : Int) : callX (GG lo K) FF (n + 6) true (.glob 468) [pr u s, pr v t] ⟨[], [(2, .b false), (2, .b true), (0, .b true), (2, .b true), (0, .b true)], [cutO (u * 10 ^ (30 + t).toNat) (v * 10 ^ s.toNat) c, decO c 30 u' s'], True⟩ =
  some (.ok (pr u' s'), ⟨[], [], [], (decO c 30 u' s').p 0 ∧ (cutO (u * 10 ^ (30 + t).toNat) (v * 10 ^ s.toNat) c).p 0 ∧ mulOk v (10 ^ s.toNat) = true ∧ powOk 10 s = true ∧ mulOk u (10 ^ (30 + t).toNat) = true ∧ powOk 10 (30 + t) = true ∧ (v == 0) = false ∧ True⟩) := by kernel_rfl
theorem quo0X (n : Nat) (u s v t : Int) : callX (GG lo K) FF (n + 6) true (.glob 468) [pr u s, pr v t] ⟨[], [(2, .b true)], [], True⟩ = some (.error 389, ⟨[], [], [], (v == 0) = true ∧ True⟩) := by kernel_rfl
end
section
variable {lo : List Str} {K : Params → Frag}
theorem cut_ok (u s : Int) {k : Nat} (hs : s ≠ 0) (h0 : 0 < k) (h : s.natAbs < 2 ^ k) (hk : k ≤ 8000) : ∃ c, CallR (GG lo K) FF 2 true 410 [.int u, .int s] [] (.ok (.int c)) [] ∧ c.natAbs ≤ u.natAbs := by
 have hs' : 0 < ab s := by unfold ab; split <;> lia
 refine ⟨_, CallR.of G0_plain (fun n => cutX lo K n u s _) ⟨?_, rfl, trivial⟩ trivial, ?_⟩
 ·rw [pylF h0 (by rw [ab_abs]; exact h) hk]; simp; lia
 ·have h1 := fdiv_le (x := ab u) (y := ab s) (by unfold ab; split <;> lia) hs'
  rw [ab_abs] at h1
  cases !(PyData.bool (decide (u < 0))).eqv (PyData.bool (decide (s < 0))) with
  | true => rw [cond_true, Int.natAbs_neg]; exact h1
  | false => exact h1
theorem dec_loop : ∀ (m : Nat) (u : Int), ∃ u' s', (∀ n k, LoopR (GG lo K) FF n f418 true [] 19 (testOf decW) (bodyOf decW) (k + (m + 1)) (decR u m) [] (.ok (.next, decR u' s')) []) ∧ u'.natAbs ≤ u.natAbs ∧ 0 ≤ s' ∧ s' ≤ m
 | 0, u => ⟨u, 0, fun n k => .over (.of (fun N e => tsts_tr G0_plain n f418 true [] _ _) (dec_end0 lo K n u 0) ⟨rfl, trivial⟩ trivial), Nat.le_refl _, Int.le_refl _, Int.le_refl _⟩
 | m + 1, u => by
  have h2 : decide ((0 : Int) < (m + 1 : Nat)) = true := decide_eq_true (Int.ofNat_lt.mpr (Nat.succ_pos m))
  cases h1 : u.fmod 10 == 0 with
  | false => exact ⟨u, _, fun n k => .over (.of (fun N e => tsts_tr G0_plain n f418 true [] _ _) (dec_end lo K n u _) ⟨h1, h2, trivial⟩ trivial), Nat.le_refl _, Int.natCast_nonneg _, Int.le_refl _⟩
  | true =>
   obtain ⟨u', s', e1, e2, e3, e4⟩ := dec_loop m (u.fdiv 10)
   refine ⟨u', s', fun n k => ?_, Nat.le_trans e2 ?_, e3, Int.le_trans e4 (Int.ofNat_le.mpr (Nat.le_succ m))⟩
   ·have g := dec_go lo K n u ((m + 1 : Nat) : Int)
    rw [show ((m + 1 : Nat) : Int) - 1 = m by lia] at g
    exact .go (.of (fun N e => wh_tr G0_plain n f418 true [] 19 _ _ _) g ⟨h1, h2, trivial⟩ trivial) (e1 n k)
   ·have h3 := Int.mul_fdiv_add_fmod u 10
    rw [eq_of_beq h1, Int.add_zero] at h3
    conv => rhs; rw [← h3, Int.natAbs_mul]
    exact Nat.le_mul_of_pos_left _ (by decide)
inductive DecR (lo : List Str) (K : Params → Frag) (u s : Int) : Prop
 | mk (u' s' : Int) : CallR (GG lo K) FF 1 true 418 [.int u, .int s] [] (.ok (pr u' s')) [] → u'.natAbs ≤ u.natAbs → 0 ≤ s' → s' ≤ s → DecR lo K u s
theorem dec_ok' (u s : Int) (h0 : 0 ≤ s) (h1 : s ≤ 100) : DecR lo K u s := by
 obtain ⟨m, rfl⟩ := Int.eq_ofNat_of_zero_le h0
 have hm : m + 1 ≤ turns := Nat.le_trans (Nat.succ_le_succ (Int.ofNat_le.mp h1)) (by decide)
 obtain ⟨u', s', e1, e2, e3, e4⟩ := dec_loop (lo := lo) (K := K) m u
 refine ⟨u', s', ?_, e2, e3, e4⟩
 refine CallR.body (k := 0) (fl := .ret (pr u' s')) (ρ := decR u m) (ρ' := decR u' s') (fn := f418) (by kernel_rfl) (by kernel_rfl) rfl (by kernel_rfl) (show f418.body = f418.body.take 1 ++ ([decW] ++ f418.body.drop 2) by kernel_rfl) fun n => ?_
 refine .app (.of G0_plain (dec_a lo K n u m) ⟨decide_eq_false (Int.not_lt.mpr h0), trivial⟩ trivial) (.app (.loop (c := testOf decW) (l := bodyOf decW) (by kernel_rfl) ?_) (.of G0_plain (dec_z lo K n u' s') trivial trivial))
 have := e1 (n + 0) (turns - (m + 1))
 rw [Nat.sub_add_cancel hm] at this
 exact this
abbrev Dc := Int × Int
def pv (x : Dc) : V := pr x.1 x.2
structure Bd (k : Nat) (x : Dc) : Prop where
 u : x.1.natAbs < 2 ^ k
 s0 : 0 ≤ x.2
 s1 : x.2 ≤ 30
theorem Bd.up {i j : Nat} {x : Dc} (h : Bd i x) (hij : i ≤ j) : Bd j x := ⟨up2 h.u hij, h.s0, h.s1⟩
inductive Res (k : Nat) : Except Addr V → Prop
 | bad : Res k (.error 389)
 | ok {x : Dc} : Bd k x → Res k (.ok (pv x))
theorem Res.up {i j : Nat} {r : Except Addr V} (h : Res i r) (hij : i ≤ j) : Res j r := by
 cases h with
 | bad => exact .bad
 | ok h => exact .ok (h.up hij)
theorem Res.mp {i : Nat} {r : Except Addr V} (h : Res i r) (e : Nat → Nat) : r.map (V.mp e) = r := by cases h <;> rfl
set_option exponentiation.threshold 1000 in
theorem lim_bd {x : Int} (h : ab x < 10 ^ Int.toNat 120) : x.natAbs < 2 ^ 480 := by
 have h2 := Int.lt_trans h (by decide +kernel : (10 : Int) ^ Int.toNat 120 < 2 ^ 480)
 rw [ab_nat, show (2 : Int) ^ 480 = ((2 ^ 480 : Nat) : Int) by rw [Int.natCast_pow]; rfl] at h2
 exact Int.ofNat_lt.mp h2
theorem kept_ok (u s : Int) (h0 : 0 ≤ s) (h1 : s ≤ 60) : ∃ r, CallR (GG lo K) FF 5 true 425 [.int u, .int s] [] r [] ∧ Res 480 r := by
 by_cases hs : 30 < s
 ·have d1 : decide (30 < s) = true := decide_eq_true hs
  have p := tpok (m := s - 30) (by lia) (by lia)
  obtain ⟨v, c1, c2⟩ := cut_ok (lo := lo) (K := K) u (10 ^ (s - 30).toNat) tppos (by decide : 0 < 121) (tpp (k := 30) (by lia)) (by decide)
  by_cases hf : ab v < 10 ^ Int.toNat 120
  ·obtain ⟨u', s', e1, e2, e3, e4⟩ := dec_ok' (lo := lo) (K := K) v 30 (by lia) (by lia)
   exact ⟨_, .of G0_plain (fun n => kept_a lo K n u s v u' s') ⟨⟨rfl, rfl, rfl, rfl, rfl⟩, by rw [decide_eq_true hf]; rfl, ⟨rfl, rfl, rfl, rfl, rfl⟩, p, d1, trivial⟩ ⟨c1.orc, e1.orc, trivial⟩, .ok (x := (u', s')) ⟨Nat.lt_of_le_of_lt e2 (lim_bd hf), e3, e4⟩⟩
  ·exact ⟨_, .of G0_plain (fun n => kept_b lo K n u s v) ⟨by rw [decide_eq_false hf]; rfl, ⟨rfl, rfl, rfl, rfl, rfl⟩, p, d1, trivial⟩ ⟨c1.orc, trivial⟩, .bad⟩
 ·have d1 : decide (30 < s) = false := decide_eq_false hs
  by_cases hf : ab u < 10 ^ Int.toNat 120
  ·obtain ⟨u', s', e1, e2, e3, e4⟩ := dec_ok' (lo := lo) (K := K) u s (by lia) (by lia)
   exact ⟨_, .of G0_plain (fun n => kept_c lo K n u s u' s') ⟨⟨rfl, rfl, rfl, rfl, rfl⟩, by rw [decide_eq_true hf]; rfl, d1, trivial⟩ ⟨e1.orc, trivial⟩, .ok (x := (u', s')) ⟨Nat.lt_of_le_of_lt e2 (lim_bd hf), e3, Int.le_trans e4 (by lia)⟩⟩
  ·exact ⟨_, .of G0_plain (fun n => kept_d lo K n u s) ⟨by rw [decide_eq_false hf]; rfl, d1, trivial⟩ trivial, .bad⟩
theorem mx_le {s t : Int} : s ≤ mx s t ∧ t ≤ mx s t := by unfold mx; split <;> lia
theorem mx_30 {s t : Int} (h : s ≤ 30) (h' : t ≤ 30) : mx s t ≤ 30 := by unfold mx; split <;> lia
variable {x y : Dc} {k : Nat}
theorem bes_ok (hx : Bd k x) (hy : Bd k y) (hk : 0 < k ∧ k ≤ 4000) : besC x.1 x.2 y.1 y.2 True ∧ (x.1 * 10 ^ (mx x.2 y.2 - x.2).toNat).natAbs < 2 ^ (k + 120) ∧ (y.1 * 10 ^ (mx x.2 y.2 - y.2).toNat).natAbs < 2 ^ (k + 120) := by
 have h1 := mx_le (s := x.2) (t := y.2)
 have h2 := mx_30 hx.s1 hy.s1
 have h3 := hx.s0
 have h4 := hy.s0
 refine ⟨⟨mulOk_k hy.u (tpp (k := 30) (by lia)) (by lia), tpok (by lia) (by lia), mulOk_k hx.u (tpp (k := 30) (by lia)) (by lia), tpok (by lia) (by lia), trivial⟩, mul_bd (j := 120) hx.u (tp (k := 30) (by lia)), mul_bd (j := 120) hy.u (tp (k := 30) (by lia))⟩
theorem plus_ok (hx : Bd k x) (hy : Bd k y) (hk : 0 < k ∧ k ≤ 4000) : ∃ r, CallR (GG lo K) FF 5 true 439 [pv x, pv y] [] r [] ∧ Res (k + 250) r := by
 obtain ⟨b1, b2, b3⟩ := bes_ok hx hy hk
 obtain ⟨u', s', e1, e2, e3, e4⟩ := dec_ok' (lo := lo) (K := K) (x.1 * 10 ^ (mx x.2 y.2 - x.2).toNat + y.1 * 10 ^ (mx x.2 y.2 - y.2).toNat) (mx x.2 y.2) (Int.le_trans hx.s0 mx_le.1) (Int.le_trans (mx_30 hx.s1 hy.s1) (by lia))
 exact ⟨_, .of G0_plain (fun n => plusX lo K n x.1 x.2 y.1 y.2 u' s') ⟨⟨rfl, rfl, rfl, rfl, rfl⟩, b1⟩ ⟨e1.orc, trivial⟩, .ok (x := (u', s')) ⟨up2 (Nat.lt_of_le_of_lt e2 (add_bd b2 b3).1) (by lia), e3, Int.le_trans e4 (mx_30 hx.s1 hy.s1)⟩⟩
theorem minus_ok (hx : Bd k x) (hy : Bd k y) (hk : 0 < k ∧ k ≤ 4000) : ∃ r, CallR (GG lo K) FF 5 true 446 [pv x, pv y] [] r [] ∧ Res (k + 250) r := by
 obtain ⟨b1, b2, b3⟩ := bes_ok hx hy hk
 obtain ⟨u', s', e1, e2, e3, e4⟩ := dec_ok' (lo := lo) (K := K) (x.1 * 10 ^ (mx x.2 y.2 - x.2).toNat - y.1 * 10 ^ (mx x.2 y.2 - y.2).toNat) (mx x.2 y.2) (Int.le_trans hx.s0 mx_le.1) (Int.le_trans (mx_30 hx.s1 hy.s1) (by lia))
 exact ⟨_, .of G0_plain (fun n => minusX lo K n x.1 x.2 y.1 y.2 u' s') ⟨⟨rfl, rfl, rfl, rfl, rfl⟩, b1⟩ ⟨e1.orc, trivial⟩, .ok (x := (u', s')) ⟨up2 (Nat.lt_of_le_of_lt e2 (add_bd b2 b3).2) (by lia), e3, Int.le_trans e4 (mx_30 hx.s1 hy.s1)⟩⟩
theorem times_ok (hx : Bd k x) (hy : Bd k y) (hk : 0 < k ∧ k ≤ 4000) : ∃ r, CallR (GG lo K) FF 6 true 453 [pv x, pv y] [] r [] ∧ Res 480 r := by
 obtain ⟨r, e1, e2⟩ := kept_ok (lo := lo) (K := K) (x.1 * y.1) (x.2 + y.2) (Int.add_nonneg hx.s0 hy.s0) (Int.le_trans (Int.add_le_add hx.s1 hy.s1) (by decide))
 exact ⟨_, .of G0_plain (fun n => timesX lo K n x.1 x.2 y.1 y.2 r) ⟨⟨rfl, rfl, e2.mp _, rfl, rfl⟩, mulOk_k hx.u hy.u (by lia), trivial⟩ ⟨e1.orc, trivial⟩, e2⟩
theorem neg_ok (hx : Bd k x) : CallR (GG lo K) FF 1 true 460 [pv x] [] (.ok (pv (-x.1, x.2))) [] ∧ Bd k (-x.1, x.2) := ⟨.of G0_plain (fun n => negX lo K n x.1 x.2) trivial trivial, ⟨by rw [Int.natAbs_neg]; exact hx.u, hx.s0, hx.s1⟩⟩
theorem quo_ok' (hx : Bd k x) (hy : Bd k y) (hk : 0 < k ∧ k ≤ 4000) : ∃ r, CallR (GG lo K) FF 6 true 468 [pv x, pv y] [] r [] ∧ Res (k + 250) r := by
 have h3 := hx.s0
 have h4 := hy.s0
 have h5 := hx.s1
 have h6 := hy.s1
 cases hz : y.1 == 0 with
 | true => exact ⟨_, .of G0_plain (fun n => quo0X lo K n x.1 x.2 y.1 y.2) ⟨hz, trivial⟩ trivial, .bad⟩
 | false =>
  have hy0 : y.1 ≠ 0 := fun h => by rw [h] at hz; cases hz
  have b1 := mul_bd (j := 120) hy.u (tp (m := x.2) (k := 30) h5)
  have b2 := mul_bd (j := 240) hx.u (tp (m := 30 + y.2) (k := 60) (by lia))
  obtain ⟨c, c1, c2⟩ := cut_ok (lo := lo) (K := K) (x.1 * 10 ^ (30 + y.2).toNat) (y.1 * 10 ^ x.2.toNat) (Int.mul_ne_zero hy0 tppos) (by lia : 0 < k + 120) b1 (by lia)
  obtain ⟨u', s', e1, e2, e3, e4⟩ := dec_ok' (lo := lo) (K := K) c 30 (by lia) (by lia)
  exact ⟨_, .of G0_plain (fun n => quoX lo K n x.1 x.2 y.1 y.2 c u' s') ⟨⟨rfl, rfl, rfl, rfl, rfl⟩, ⟨rfl, rfl, rfl, rfl, rfl⟩, mulOk_k hy.u (tpp (k := 30) h5) (by lia), tpok h3 (by lia), mulOk_k hx.u (tpp (k := 60) (by lia)) (by lia), tpok (by lia) (by lia), hz, trivial⟩ ⟨c1.orc, e1.orc, trivial⟩,
   .ok (x := (u', s')) ⟨up2 (Nat.lt_of_le_of_lt (Nat.le_trans e2 c2) b2) (by lia), e3, e4⟩⟩
end
def powS : Stmt := f475.body.getD 2 (.Pass pz)
noncomputable def iterOf : Stmt → Expr
 | .For _ i _ _ _ => i
 | _ => default
def rhoP (x y g : Dc) : Option Int → Loc
 | none => [(S "a", pv x), (S "b", pv y), (S "found", pv g)]
 | some t => [(S "a", pv x), (S "b", pv y), (S "found", pv g), (S "turn", .int t)]
section
variable (lo : List Str) (K : Params → Frag)
theorem pow_a (n : Nat) (x y : Dc) : blkX (GG lo K) FF (n + 6) f475 true [] deep (f475.body.take 2) [(S "a", pv x), (S "b", pv y)] ⟨[], [(2, .b false), (3, .b false), (2, .b false)], [], True⟩ =
  some (.ok (.next, rhoP x y (1, 0) none), ⟨[], [], [], (x.1 == 0) = false ∧ decide (99 < ab y.1) = false ∧ (y.2 != 0) = false ∧ True⟩) := by kernel_rfl
theorem pow_b (n : Nat) (x y : Dc) : blkX (GG lo K) FF (n + 6) f475 true [] deep (f475.body.take 2) [(S "a", pv x), (S "b", pv y)] ⟨[], [(2, .b false), (3, .b false), (2, .b true), (2, .b false)], [], True⟩ =
  some (.ok (.next, rhoP x y (1, 0) none), ⟨[], [], [], decide (y.1 < 1) = false ∧ (x.1 == 0) = true ∧ decide (99 < ab y.1) = false ∧ (y.2 != 0) = false ∧ True⟩) := by kernel_rfl
theorem pow_c (n : Nat) (x y : Dc) : callX (GG lo K) FF (n + 8) true (.glob 475) [pv x, pv y] ⟨[], [(2, .b true)], [], True⟩ = some (.error 389, ⟨[], [], [], (y.2 != 0) = true ∧ True⟩) := by kernel_rfl
theorem pow_d (n : Nat) (x y : Dc) : callX (GG lo K) FF (n + 8) true (.glob 475) [pv x, pv y] ⟨[], [(2, .b false), (3, .b true)], [], True⟩ = some (.error 389, ⟨[], [], [], decide (99 < ab y.1) = true ∧ (y.2 != 0) = false ∧ True⟩) := by kernel_rfl
theorem pow_e (n : Nat) (x y : Dc) : callX (GG lo K) FF (n + 8) true (.glob 475) [pv x, pv y] ⟨[], [(2, .b false), (3, .b false), (2, .b true), (2, .b true)], [], True⟩ = some (.error 389, ⟨[], [], [], decide (y.1 < 1) = true ∧ (x.1 == 0) = true ∧ decide (99 < ab y.1) = false ∧ (y.2 != 0) = false ∧ True⟩) := by kernel_rfl
theorem pow_it (n : Nat) (x y : Dc) : exX (GG lo K) FF (n + 6) f475 true [] (iterOf powS) (rhoP x y (1, 0) none) ⟨[], [], [], True⟩ = some (.ok (.rng 0 (ab y.1) 1), ⟨[], [], [], True⟩) := by kernel_rfl
def timO (x y : Dc) (r : Except Addr V) : Cal := pure_ 6 453 [pv x, pv y] r
theorem pow_t (n : Nat) (x y g z : Dc) (i : Int) (t : Option Int) : turnX (GG lo K) FF (n + 6) f475 true [] 19 (S "turn") (bodyOf powS) (.int i) (rhoP x y g t) ⟨[], [], [timO g x (.ok (pv z))], True⟩ = some (.ok (.next, rhoP x y z (some i)), ⟨[], [], [], (timO g x (.ok (pv z))).p 0 ∧ True⟩) := by cases t <;> kernel_rfl
theorem pow_u (n : Nat) (x y g : Dc) (i : Int) (t : Option Int) : turnX (GG lo K) FF (n + 6) f475 true [] 19 (S "turn") (bodyOf powS) (.int i) (rhoP x y g t) ⟨[], [], [timO g x (.error 389)], True⟩ = some (.error 389, ⟨[], [], [], (timO g x (.error 389)).p 0 ∧ True⟩) := by cases t <;> kernel_rfl
theorem pow_z (n : Nat) (x y g : Dc) (t : Option Int) : blkX (GG lo K) FF (n + 6) f475 true [] deep (f475.body.drop 3) (rhoP x y g t) ⟨[], [(2, .b false)], [], True⟩ = some (.ok (.ret (pv g), rhoP x y g t), ⟨[], [], [], decide (y.1 < 0) = false ∧ True⟩) := by cases t <;> kernel_rfl
theorem pow_y (n : Nat) (x y g : Dc) (t : Option Int) (r : Except Addr V) : blkX (GG lo K) FF (n + 6) f475 true [] deep (f475.body.drop 3) (rhoP x y g t) ⟨[], [(2, .b true)], [pure_ 6 468 [pv (1, 0), pv g] r], True⟩ = some (r.map fun v => (.ret v, rhoP x y g t), ⟨[], [], [], (pure_ 6 468 [pv (1, 0), pv g] r).p 0 ∧ decide (y.1 < 0) = true ∧ True⟩) := by cases t <;> cases r <;> kernel_rfl
end
section
variable {lo : List Str} {K : Params → Frag} {x y : Dc} {k : Nat}
theorem rng_it {N : Int} {st : Sto} (h0 : 0 ≤ N) (h1 : N ≤ 1000000) : itOf (.rng 0 N 1) st = some (.rng 0 N 1) := by
 have h2 : Builtin.Range.rangeSize 0 N 1 = N := by
  unfold Builtin.Range.rangeSize
  rw [if_pos (by decide)]
  split
  ·rw [Int.ediv_one]; lia
  ·lia
 show (if Builtin.Range.small 0 N 1 then some (It.rng 0 (Builtin.Range.rangeSize 0 N 1) 1) else none) = _
 have f : ∀ x : Int, 0 ≤ x → x ≤ 1000000 → Builtin.Range.rangeFitsLong x = true := fun x h3 h4 => by unfold Builtin.Range.rangeFitsLong; simp; lia
 rw [h2, if_pos (by unfold Builtin.Range.small; rw [h2, f N h0 h1, f 0 (by decide) (by decide), f 1 (by decide) (by decide), if_pos (by decide), show N + (1 - 1) = N by lia, f N h0 h1, Bool.or_true]; rfl)]
inductive PowO (x y : Dc) : Except Addr (Fl × Loc) → Prop
 | bad : PowO x y (.error 389)
 | ok {g : Dc} {t : Option Int} : Bd 480 g → PowO x y (.ok (.next, rhoP x y g t))
theorem pow_loop (hx : Bd k x) (hk : 480 ≤ k ∧ k ≤ 4000) : ∀ (m i : Nat) (g : Dc) (t : Option Int), Bd 480 g → (i + m : Int) = ab y.1 → ∃ r, PowO x y r ∧ ∀ n j, ForR (GG lo K) FF (n + 6) f475 true [] 19 (S "turn") (bodyOf powS) (.rng 0 (ab y.1) 1) (m + 1 + j) i (rhoP x y g t) [] r []
 | 0, i, g, t, hg, hm => ⟨_, .ok hg, fun n j => by
   rw [show 0 + 1 + j = j + 1 by lia]
   have h0 : itM (.rng 0 (ab y.1) 1) i [] = some none := show some (if ((i : Nat) : Int) < ab y.1 then some (V.int (0 + (i : Int) * 1)) else none) = some none by rw [if_neg (by lia)]
   exact .over h0⟩
 | m + 1, i, g, t, hg, hm => by
  obtain ⟨r, e1, e2⟩ := times_ok (lo := lo) (K := K) (hg.up hk.1) hx (by lia)
  have h0 : itM (.rng 0 (ab y.1) 1) i [] = some (some (.int (0 + (i : Int) * 1))) := show some (if ((i : Nat) : Int) < ab y.1 then some (V.int (0 + (i : Int) * 1)) else none) = _ by rw [if_pos (by lia)]
  cases e2 with
  | bad => exact ⟨_, .bad, fun n j => by
    rw [show m + 1 + 1 + j = m + 1 + j + 1 by lia]
    exact .err h0 (.of (fun N e => turn_tr G0_plain _ _ _ [] _ _ _ _ _) (pow_u lo K n x y g _ t) ⟨⟨rfl, rfl, rfl, rfl, rfl⟩, trivial⟩ ⟨e1.orc, trivial⟩)⟩
  | @ok z hz =>
   obtain ⟨r, f1, f2⟩ := pow_loop hx hk m (i + 1) z (some (0 + (i : Int) * 1)) hz (by lia)
   exact ⟨r, f1, fun n j => by
    rw [show m + 1 + 1 + j = m + 1 + j + 1 by lia]
    exact .go h0 (.of (fun N e => turn_tr G0_plain _ _ _ [] _ _ _ _ _) (pow_t lo K n x y g z _ t) ⟨⟨rfl, rfl, rfl, rfl, rfl⟩, trivial⟩ ⟨e1.orc, trivial⟩) (f2 n j)⟩
theorem one_bd : Bd 480 (1, 0) := ⟨Nat.one_lt_two_pow (by decide), by decide, by decide⟩
theorem pow_ok (hx : Bd k x) (hy : Bd k y) (hk : 480 ≤ k ∧ k ≤ 4000) : ∃ r, CallR (GG lo K) FF 8 true 475 [pv x, pv y] [] r [] ∧ Res (k + 250) r := by
 cases h1 : y.2 != 0 with
 | true => exact ⟨_, .of G0_plain (fun n => pow_c lo K n x y) ⟨h1, trivial⟩ trivial, .bad⟩
 | false =>
 by_cases h2 : 99 < ab y.1
 ·exact ⟨_, .of G0_plain (fun n => pow_d lo K n x y) ⟨decide_eq_true h2, h1, trivial⟩ trivial, .bad⟩
 have d2 := decide_eq_false h2
 have key : (∀ n, BlkR (GG lo K) FF (n + 6) f475 true [] deep (f475.body.take 2) [(S "a", pv x), (S "b", pv y)] [] (.ok (.next, rhoP x y (1, 0) none)) []) → ∃ r, CallR (GG lo K) FF 8 true 475 [pv x, pv y] [] r [] ∧ Res (k + 250) r := fun h0 => by
  obtain ⟨r, e1, e2⟩ := pow_loop (lo := lo) (K := K) (y := y) hx hk (ab y.1).toNat 0 (1, 0) none one_bd (by unfold ab; split <;> lia)
  have hf : ∀ n, BlkR (GG lo K) FF (n + 6) f475 true [] deep [powS] (rhoP x y (1, 0) none) [] r [] := fun n => by
   refine .for (x := S "turn") (ie := iterOf powS) (l := bodyOf powS) (by kernel_rfl) (.of (fun N e => ex_tr G0_plain _ _ _ [] _ _) (pow_it lo K n x y) trivial trivial) (rng_it (by unfold ab; split <;> lia) (by lia)) ?_
   have := e2 n (turns - ((ab y.1).toNat + 1))
   rw [Nat.add_sub_of_le (Nat.le_trans (Nat.succ_le_succ (Int.toNat_le.mpr (Int.not_lt.mp h2))) (by decide : 99 + 1 ≤ turns))] at this
   exact this
  have hbd : f475.body = f475.body.take 2 ++ ([powS] ++ f475.body.drop 3) := by kernel_rfl
  have fin : ∀ {r : Except Addr (Fl × Loc)}, (∀ n, BlkR (GG lo K) FF (n + 6) f475 true [] deep (f475.body.take 2 ++ ([powS] ++ f475.body.drop 3)) [(S "a", pv x), (S "b", pv y)] [] r []) → CallR (GG lo K) FF 8 true 475 [pv x, pv y] [] (r.map fun p => retV p.1) [] := fun h =>
   (CallR.bodyR (k := 6) (fn := f475) (by kernel_rfl) (by kernel_rfl) rfl (by kernel_rfl) hbd h).more (by decide)
  cases e1 with
  | bad => exact ⟨_, fin fun n => (h0 n).app (hf n).bad, .bad⟩
  | @ok g t hg =>
   by_cases h3 : y.1 < 0
   ·obtain ⟨r, f1, f2⟩ := quo_ok' (lo := lo) (K := K) (one_bd.up hk.1) (hg.up hk.1) (by lia)
    have h4 := fin fun n => (h0 n).app ((hf n).app (.of G0_plain (pow_y lo K n x y g t r) ⟨⟨rfl, rfl, f2.mp _, rfl, rfl⟩, decide_eq_true h3, trivial⟩ ⟨f1.orc, trivial⟩))
    cases f2 with
    | bad => exact ⟨_, h4, .bad⟩
    | ok h => exact ⟨_, h4, .ok h⟩
   ·exact ⟨_, fin fun n => (h0 n).app ((hf n).app (.of G0_plain (pow_z lo K n x y g t) ⟨decide_eq_false h3, trivial⟩ trivial)), .ok (hg.up (by lia))⟩
 cases h3 : x.1 == 0 with
 | false => exact key fun n => .of G0_plain (pow_a lo K n x y) ⟨h3, d2, h1, trivial⟩ trivial
 | true =>
  by_cases h4 : y.1 < 1
  ·exact ⟨_, .of G0_plain (fun n => pow_e lo K n x y) ⟨decide_eq_true h4, h3, d2, h1, trivial⟩ trivial, .bad⟩
  ·exact key fun n => .of G0_plain (pow_b lo K n x y) ⟨decide_eq_false h4, h3, d2, h1, trivial⟩ trivial
set_option genCtorIdx true in
inductive Bo where
 | add
 | sub
 | mul
 | div
 | pow
noncomputable def Bo.str : Bo → String
 | .add => "+"
 | .sub => "-"
 | .mul => "*"
 | .div => "/"
 | .pow => "**"
noncomputable def Bo.fn : Bo → Addr
 | .add => 439
 | .sub => 446
 | .mul => 453
 | .div => 468
 | .pow => 475
theorem op_ok (o : Bo) (hx : Bd k x) (hy : Bd k y) (hk : 480 ≤ k ∧ k ≤ 4000) : ∃ r, CallR (GG lo K) FF 8 true o.fn [pv x, pv y] [] r [] ∧ Res (k + 250) r := by
 have hk' : 0 < k ∧ k ≤ 4000 := by lia
 cases o with
 | add => obtain ⟨r, h1, h2⟩ := plus_ok (lo := lo) (K := K) hx hy hk'; exact ⟨r, h1.more (by decide), h2⟩
 | sub => obtain ⟨r, h1, h2⟩ := minus_ok (lo := lo) (K := K) hx hy hk'; exact ⟨r, h1.more (by decide), h2⟩
 | mul => obtain ⟨r, h1, h2⟩ := times_ok (lo := lo) (K := K) hx hy hk'; exact ⟨r, h1.more (by decide), h2.up (by lia)⟩
 | div => obtain ⟨r, h1, h2⟩ := quo_ok' (lo := lo) (K := K) hx hy hk'; exact ⟨r, h1.more (by decide), h2⟩
 | pow => exact pow_ok hx hy hk
end
section
variable (lo : List Str) (K : Params → Frag)
noncomputable abbrev penO (spot rest : Int) : O := .list [.hnd 1, .int spot, .int rest]
def drawR (many spot rest : Int) (cells : List V) (ds : List (Nat × Dec)) (n : Nat) := callX (GG lo K) FF (n + 5) true (.glob 744) [.hnd 0, .int many] ⟨[penO spot rest, .list cells], ds, [], True⟩
theorem draw_a (many spot rest : Int) (cells : List V) (n : Nat) : drawR lo K many spot rest cells [(2, .b true), (2, .b true), (2, .b true)] n =
  some (.ok (.int (rest.fmod many)), ⟨[penO spot (rest.fdiv many), .list cells], [], [],
   (!decide (many = 0 ∨ Builtin.divisionGoesByPylong rest many = true)) = true ∧ (!decide (many = 0)) = true ∧ decide (0 < rest) = true ∧ True⟩) := by kernel_rfl
noncomputable def churn1 (cell spot : Int) : Int := (cell.fmod 2147483587 + 80051 * spot + 6007)
def churn2 (cell spot : Int) : Int := ((churn1 cell spot) ^ (5 : Int).toNat).fmod 2147483629
def churn3 (cell spot : Int) : Int := churn2 cell spot * (2 * spot + 3011) + 701 * spot * spot + 37
def churn (many cell spot : Int) : Int := ((((churn3 cell spot) ^ (3 : Int).toNat).fmod 2147483579).fdiv 32).fmod many
theorem draw_b (many spot rest : Int) (n : Nat) : drawR lo K many spot rest [] [(2, .b false), (7, .b false), (4, .b true), (3, .b true), (1, .b true), (0, .b true), (4, .b true)] n =
  some (.ok (.int (churn many 0 spot)), ⟨[penO (spot + 1) rest, .list []], [], [],
   (!decide (many = 0)) = true ∧ powOk (churn3 0 spot) 3 = true ∧ mulOk (701 * spot) spot = true ∧ mulOk (churn2 0 spot) (2 * spot + 3011) = true ∧ powOk (churn1 0 spot) 5 = true ∧
   decide (spot < 0) = false ∧ decide (0 < rest) = false ∧ True⟩) := by kernel_rfl
def cellsC (many spot rest L c : Int) (cells : List V) : Prop :=
 (biV true (.bi "len") [.hnd 1] [penO (spot + 1) rest, .list cells] = some (.int L)) ∧ getItV (.hnd 1) (.int (spot.fmod L)) [penO (spot + 1) rest, .list cells] = some (.int c) ∧ (!decide (L = 0)) = true ∧
 (biV true (.bi "len") [.hnd 1] [penO (spot + 1) rest, .list cells] = some (.int L)) ∧ ((ne0V (.hnd 1) [penO (spot + 1) rest, .list cells]).map V.bool = some (.bool true)) ∧ decide (0 < rest) = false ∧ True
theorem draw_c (many spot rest L c : Int) (cells : List V) (n : Nat) : drawR lo K many spot rest cells [(2, .b false), (2, .v (V.bool true)), (4, .v (V.int L)), (0, .b true), (0, .v (V.int c)), (1, .v (V.int L)), (1, .b true), (3, .b false), (4, .b true), (3, .b true), (1, .b true), (0, .b true), (4, .b true)] n =
  some (.ok (.int (churn many c spot)), ⟨[penO (spot + 1) rest, .list cells], [], [],
   (!decide (many = 0)) = true ∧ powOk (churn3 c spot) 3 = true ∧ mulOk (701 * spot) spot = true ∧ mulOk (churn2 c spot) (2 * spot + 3011) = true ∧ powOk (churn1 c spot) 5 = true ∧
   decide ((10 : Int) ^ (18 : Int).toNat ≤ if c < 0 then -c else c) = false ∧ decide (spot < L) = true ∧ cellsC many spot rest L c cells⟩) := by kernel_rfl
theorem draw_e (many spot rest L c : Int) (cells : List V) (n : Nat) : drawR lo K many spot rest cells [(2, .b false), (2, .v (V.bool true)), (4, .v (V.int L)), (0, .b true), (0, .v (V.int c)), (1, .v (V.int L)), (1, .b false), (4, .b true), (3, .b true), (1, .b true), (0, .b true), (4, .b true)] n =
  some (.ok (.int (churn many c spot)), ⟨[penO (spot + 1) rest, .list cells], [], [],
   (!decide (many = 0)) = true ∧ powOk (churn3 c spot) 3 = true ∧ mulOk (701 * spot) spot = true ∧ mulOk (churn2 c spot) (2 * spot + 3011) = true ∧ powOk (churn1 c spot) 5 = true ∧
   decide (spot < L) = false ∧ cellsC many spot rest L c cells⟩) := by kernel_rfl
theorem draw_d (many spot rest L c : Int) (cells : List V) (n : Nat) : drawR lo K many spot rest cells [(2, .b false), (2, .v (V.bool true)), (4, .v (V.int L)), (0, .b true), (0, .v (V.int c)), (1, .v (V.int L)), (1, .b true), (3, .b true), (4, .b true), (1, .b true)] n =
  some (.ok (.int (((if c < 0 then -c else c) - (10 : Int) ^ (18 : Int).toNat).fmod many)), ⟨[penO (spot + 1) (((if c < 0 then -c else c) - (10 : Int) ^ (18 : Int).toNat).fdiv many), .list cells], [], [],
   (!decide (many = 0)) = true ∧ (!decide (many = 0 ∨ Builtin.divisionGoesByPylong ((if c < 0 then -c else c) - (10 : Int) ^ (18 : Int).toNat) many = true)) = true ∧
   decide ((10 : Int) ^ (18 : Int).toNat ≤ if c < 0 then -c else c) = true ∧ decide (spot < L) = true ∧ cellsC many spot rest L c cells⟩) := by kernel_rfl
end
theorem churn1_bd {c s : Int} (h0 : 0 ≤ s) (h1 : s ≤ 1000) : (churn1 c s).natAbs < 2 ^ 33 := by
 have := fmod_bd (a := c) (m := 2147483587) (by lia)
 unfold churn1
 lia
theorem churn2_bd {c s : Int} : 0 ≤ churn2 c s ∧ churn2 c s < 2147483629 := fmod_bd (by lia)
theorem churn3_bd {c s : Int} (h0 : 0 ≤ s) (h1 : s ≤ 1000) : (churn3 c s).natAbs < 2 ^ 60 := by
 have h2 := churn2_bd (c := c) (s := s)
 unfold churn3
 generalize churn2 c s = x at h2 ⊢
 have h3 : 0 ≤ x * (2 * s + 3011) := Int.mul_nonneg h2.1 (by lia)
 have h4 : x * (2 * s + 3011) ≤ 2147483629 * 5011 := Int.mul_le_mul (by lia) (by lia) (by lia) (by lia)
 have h5 : 0 ≤ 701 * s * s := Int.mul_nonneg (by lia) h0
 have h6 : 701 * s * s ≤ 701000 * 1000 := Int.mul_le_mul (by lia) (by lia) (by lia) (by lia)
 lia
theorem biV_len {q : Bool} {y : V} {st : Sto} {n : Int} (h : lenV y st = some n) : biV q (.bi "len") [y] st = some (.int n) := by
 show biP q "len" [y] st = _
 unfold biP
 rw [if_pos rfl]
 show (lenV y st).map V.int = _
 rw [h]; rfl
theorem lget_in {l : List V} {j : Int} (h0 : 0 ≤ j) (h1 : j < l.length) (hl : l.length ≤ 1000) : lget j l = l[j.toNat]? := by
 unfold lget
 rw [if_pos (by lia)]
 have : seqIndex? j l.length = some j.toNat := by
  unfold seqIndex?
  rw [if_neg (Int.not_lt.mpr h0)]
  dsimp only
  rw [if_pos (by rw [decide_eq_true h0, decide_eq_true h1]; rfl)]
 rw [this]; rfl
theorem dats_ints : ∀ l : List Int, dats0 (l.map V.int) = some (l.map PyData.int)
 | [] => rfl
 | i :: r => by
  rw [List.map_cons, dats0, dats_ints r]; rfl
theorem canLay_ints : ∀ l : List Int, PyData.canLayAll0 (l.map PyData.int) = true
 | [] => rfl
 | i :: r => by rw [List.map_cons, PyData.canLayAll0, canLay_ints r]; rfl
theorem depth_ints : ∀ l : List Int, PyData.depthAll (l.map PyData.int) = 0
 | [] => rfl
 | i :: r => by rw [List.map_cons, PyData.depthAll, depth_ints r]; rfl
theorem shaped_ints (l : List Int) : SeqAt.shaped (.list (l.map PyData.int)) = true := by
 unfold SeqAt.shaped
 rw [PyData.canLay0, canLay_ints, PyData.depth, depth_ints]; rfl
theorem eqv_ints_nil (i : Int) (l : List Int) : PyData.eqv (.list ((i :: l).map PyData.int)) (.list []) = false := by
 rfl
section
variable {lo : List Str} {K : Params → Frag}
theorem draw_conds {many c spot : Int} (h0 : 0 ≤ spot) (h1 : spot ≤ 1000) (hm : 0 < many) : (!decide (many = 0)) = true ∧ powOk (churn3 c spot) 3 = true ∧ mulOk (701 * spot) spot = true ∧ mulOk (churn2 c spot) (2 * spot + 3011) = true ∧ powOk (churn1 c spot) 5 = true :=
 ⟨by simp; lia, powOk_of (k := 60) (by lia) (by lia) (churn3_bd h0 h1) (by lia), mulOk_k (i := 40) (j := 40) (by lia) (by lia) (by decide), mulOk_k (i := 40) (j := 40) (by have := churn2_bd (c := c) (s := spot); lia) (by lia) (by decide), powOk_of (k := 33) (by lia) (by lia) (churn1_bd h0 h1) (by lia)⟩
theorem cells_ok {many spot rest : Int} {zs : List Int} (h0 : 0 ≤ spot) (hr : ¬ 0 < rest) (hne : zs ≠ []) (hlen : zs.length ≤ 63) : ∃ c, cellsC many spot rest zs.length c (zs.map V.int) := by
 have hL : 0 < (zs.length : Int) := by
  have := List.length_pos_iff.mpr hne; lia
 have hb := fmod_bd (a := spot) hL
 have hlt : (spot.fmod zs.length).toNat < zs.length := by lia
 have hlenE : biV true (.bi "len") [.hnd 1] [penO (spot + 1) rest, .list (zs.map V.int)] = some (.int zs.length) := by
  refine biV_len ?_
  show (if (zs.map V.int).length ≤ sizeLine then some ((zs.map V.int).length : Int) else none) = _
  rw [List.length_map, if_pos (by unfold sizeLine; lia)]
 refine ⟨zs[(spot.fmod zs.length).toNat], hlenE, ?_, by simp; lia, hlenE, ?_, decide_eq_false hr, trivial⟩
 ·show lget (spot.fmod zs.length) (zs.map V.int) = _
  rw [lget_in hb.1 (by rw [List.length_map]; exact hb.2) (by rw [List.length_map]; lia), List.getElem?_map, List.getElem?_eq_getElem hlt]; rfl
 ·unfold ne0V
  have : datV (.hnd 1) [penO (spot + 1) rest, .list (zs.map V.int)] = some (.list (zs.map PyData.int)) := by
   show (dats0 (zs.map V.int)).map PyData.list = _
   rw [dats_ints]; rfl
  rw [this]
  dsimp only [Option.bind_some]
  rw [shaped_ints]
  obtain ⟨i, r, rfl⟩ := List.exists_cons_of_ne_nil hne
  rw [eqv_ints_nil]
  rfl
structure Pen (n : Nat) (p : Dc) : Prop where
 a : 0 ≤ p.1
 b : p.1 ≤ n
 c : 0 ≤ p.2
abbrev penS (zs : List V) (p : Dc) : Sto := [penO p.1 p.2, .list zs]
theorem pyl_ok {x m : Int} (h1 : 0 < m) (h2 : m ≤ 1000) : (!decide (m = 0 ∨ Builtin.divisionGoesByPylong x m = true)) = true := by
 rw [pylF (k := 10) (by decide) (by lia) (by decide)]; simp; lia
def Cells (zs : List V) : Prop := ∃ l : List Int, l.length ≤ 63 ∧ zs = l.map V.int
inductive DrwR (lo : List Str) (K : Params → Frag) (zs : List V) (many : Int) (n : Nat) (p : Dc) : Prop
 | mk (d : Int) (p' : Dc) : 0 ≤ d → d < many → Pen (n + 1) p' → CallR (GG lo K) FF 5 true 744 [.hnd 0, .int many] (penS zs p) (.ok (.int d)) (penS zs p') → DrwR lo K zs many n p
theorem draw_ok {zs : List V} (hz : Cells zs) {n : Nat} {p : Dc} (hp : Pen n p) (hn : n ≤ 1000) {many : Int} (hm : 0 < many) (hm2 : many ≤ 1000) :
  DrwR lo K zs many n p := by
 obtain ⟨zs, hlen, rfl⟩ := hz
 obtain ⟨spot, rest⟩ := p
 obtain ⟨h0, h1, hr⟩ := hp
 dsimp only at h0 h1 hr
 have h1' : spot ≤ 1000 := by lia
 by_cases hp : 0 < rest
 ·have hd := fmod_bd (a := rest) hm
  exact ⟨_, (_, _), hd.1, hd.2, ⟨h0, by dsimp only; lia, Int.fdiv_nonneg hr (by lia)⟩, .of G0_plain (fun n => draw_a lo K many spot rest (zs.map V.int) n) ⟨pyl_ok hm hm2, by simp; lia, by simpa using hp, trivial⟩ trivial⟩
 ·obtain ⟨c1, c2, c3, c4, c5⟩ := draw_conds (c := 0) h0 h1' hm
  by_cases hne : zs = []
  ·subst hne
   have hd : 0 ≤ churn many 0 spot ∧ churn many 0 spot < many := fmod_bd hm
   exact ⟨_, (_, _), hd.1, hd.2, ⟨by dsimp only; lia, by dsimp only; lia, hr⟩, .of G0_plain (fun n => draw_b lo K many spot rest n) ⟨c1, c2, c3, c4, c5, by simpa using h0, by simpa using hp, trivial⟩ trivial⟩
  ·obtain ⟨c, hc⟩ := cells_ok (many := many) h0 hp hne hlen
   obtain ⟨c1, c2, c3, c4, c5⟩ := draw_conds (c := c) h0 h1' hm
   have hd : 0 ≤ churn many c spot ∧ churn many c spot < many := fmod_bd hm
   by_cases hs : spot < zs.length
   ·by_cases hg : (10 : Int) ^ (18 : Int).toNat ≤ if c < 0 then -c else c
    ·have hd := fmod_bd (a := (if c < 0 then -c else c) - (10 : Int) ^ (18 : Int).toNat) hm
     exact ⟨_, (_, _), hd.1, hd.2, ⟨by dsimp only; lia, by dsimp only; lia, Int.fdiv_nonneg (by lia) (by lia)⟩, .of G0_plain (fun n => draw_d lo K many spot rest zs.length c (zs.map V.int) n) ⟨c1, pyl_ok hm hm2, decide_eq_true hg, decide_eq_true hs, hc⟩ trivial⟩
    ·exact ⟨_, (_, _), hd.1, hd.2, ⟨by dsimp only; lia, by dsimp only; lia, hr⟩, .of G0_plain (fun n => draw_c lo K many spot rest zs.length c (zs.map V.int) n) ⟨c1, c2, c3, c4, c5, decide_eq_false hg, decide_eq_true hs, hc⟩ trivial⟩
   ·exact ⟨_, (_, _), hd.1, hd.2, ⟨by dsimp only; lia, by dsimp only; lia, hr⟩, .of G0_plain (fun n => draw_e lo K many spot rest zs.length c (zs.map V.int) n) ⟨c1, c2, c3, c4, c5, decide_eq_false hs, hc⟩ trivial⟩
end
set_option genCtorIdx true in
inductive Nm where
 | A
 | B
 | C
 | D
noncomputable def Nm.str : Nm → String
 | .A => "A"
 | .B => "B"
 | .C => "C"
 | .D => "D"
inductive Ex where
 | num (x : Dc)
 | ref (x : Nm)
 | neg (a : Ex)
 | bin (o : Bo) (a b : Ex)
def numV (x : Dc) : V := .tup [s_ "number", pv x]
def refV (x : String) : V := .tup [s_ "ref", s_ x, .tup [], .tup [], .none]
noncomputable def vE : Ex → V
 | .num x => numV x
 | .ref x => refV x.str
 | .neg a => .tup [s_ "neg", vE a]
 | .bin o a b => .tup [s_ o.str, vE a, vE b]
noncomputable def Ex.ht : Ex → Nat
 | .num _ => 0
 | .ref _ => 0
 | .neg a => a.ht + 1
 | .bin _ a b => max a.ht b.ht + 1
def Ex.Ok : Ex → Prop
 | .num x => Bd 480 x
 | .ref _ => True
 | .neg a => a.Ok
 | .bin _ a b => a.Ok ∧ b.Ok
theorem vE_flat : ∀ e : Ex, flatV (vE e) = true
 | .num _ => rfl
 | .ref _ => rfl
 | .neg a => by show (flatV (vE a) && true) = true; rw [vE_flat a]; rfl
 | .bin o a b => by show (flatV (vE a) && (flatV (vE b) && true)) = true; rw [vE_flat a, vE_flat b]; rfl
def penCal (k : Nat) (f : Addr) (x : Int) (v : V) (zs : List V) (p p' : Dc) : Cal := ⟨⟨k, true, f, [.hnd 0, .int x], penS zs p, .ok v, penS zs p'⟩, [0, 1], .ok v, penS zs p'⟩
def drawO (many d : Int) (zs : List V) (p p' : Dc) : Cal := penCal 5 744 many (.int d) zs p p'
def exprO (k : Nat) (dp : Int) (v : V) (zs : List V) (p p' : Dc) : Cal := penCal k 751 dp v zs p p'
theorem pen_mp {zs : List V} (hz : flatVs zs = true) (p : Dc) (l : List Nat) (n : Nat) : (penS zs p).map (O.mp (jof (0 :: 1 :: l) n)) = penS zs p := by
 show [penO p.1 p.2, O.list (V.mps _ zs)] = _
 rw [flat_mps hz]
theorem pen_fits {zs : List V} (hz : flatVs zs = true) {k : Nat} {f : Addr} {x : Int} {v : V} (hv : flatV v = true) {p p' : Dc} {n : Nat} : (penCal k f x v zs p p').fits n (penS zs p) :=
 ⟨rfl, pen_mp hz p [] n, congrArg Except.ok (flat_mp hv), pen_mp hz p' [] n, rfl⟩
section
variable (lo : List Str) (K : Params → Frag)
theorem ex_num (n : Nat) (g : Bool) (dp way d1 d2 u s : Int) (zs : List V) (p p1 p2 p3 : Dc) : callX (GG lo K) FF (n + 6) true (.glob 751) [.hnd 0, .int dp] ⟨penS zs p, [(1, .b g), (1, .b true)], [drawO (cond g 8 2) way zs p p1, drawO 30 d1 zs p1 p2, drawO 3 d2 zs p2 p3, decO (d1 - 9) d2 u s], True⟩ =
  some (.ok (numV (u, s)), ⟨penS zs p3, [], [], (decO (d1 - 9) d2 u s).p 2 ∧ (drawO 3 d2 zs p2 p3).fits 2 (penS zs p2) ∧ (drawO 30 d1 zs p1 p2).fits 2 (penS zs p1) ∧ (way == 0) = true ∧ (drawO (cond g 8 2) way zs p p1).fits 2 (penS zs p) ∧ decide (0 < dp) = g ∧ True⟩) := by cases g <;> kernel_rfl
def pick (d : Int) (l : List V) (y : V) : Prop := ((V.int d).int?.bind fun j => lget j l) = some y
def namL : List V := [s_ "A", s_ "B", s_ "C", s_ "D"]
def opL : List V := [s_ "+", s_ "-", s_ "*", s_ "/"]
theorem ex_ref (n : Nat) (g : Bool) (x : String) (dp way d1 : Int) (zs : List V) (p p1 p2 : Dc) : callX (GG lo K) FF (n + 6) true (.glob 751) [.hnd 0, .int dp] ⟨penS zs p, [(1, .b g), (1, .b false), (1, .b true), (0, .v (s_ x))], [drawO (cond g 8 2) way zs p p1, drawO 4 d1 zs p1 p2], True⟩ =
  some (.ok (refV x), ⟨penS zs p2, [], [], pick d1 namL (s_ x) ∧ (drawO 4 d1 zs p1 p2).fits 2 (penS zs p1) ∧ decide (way < 3) = true ∧ (way == 0) = false ∧ (drawO (cond g 8 2) way zs p p1).fits 2 (penS zs p) ∧ decide (0 < dp) = g ∧ True⟩) := by cases g <;> kernel_rfl
theorem ex_neg (d : Nat) (hd : d < 3) (n : Nat) (v : V) (dp way : Int) (zs : List V) (p p1 p2 : Dc) : callX (GG lo K) FF (n + (7 + d)) true (.glob 751) [.hnd 0, .int dp] ⟨penS zs p, [(1, .b true), (1, .b false), (1, .b false), (1, .b true)], [drawO 8 way zs p p1, exprO (6 + d) (dp - 1) v zs p1 p2], True⟩ =
  some (.ok (.tup [s_ "neg", v]), ⟨penS zs p2, [], [], (exprO (6 + d) (dp - 1) v zs p1 p2).fits 2 (penS zs p1) ∧ (way == 3) = true ∧ decide (way < 3) = false ∧ (way == 0) = false ∧ (drawO 8 way zs p p1).fits 2 (penS zs p) ∧ decide (0 < dp) = true ∧ True⟩) := by
 match d, hd with
 | 0, _ => kernel_rfl
 | 1, _ => kernel_rfl
 | 2, _ => kernel_rfl
theorem ex_pow (d : Nat) (hd : d < 3) (n : Nat) (v : V) (dp way d1 d2 : Int) (zs : List V) (p p1 p2 p3 p4 : Dc) : callX (GG lo K) FF (n + (7 + d)) true (.glob 751) [.hnd 0, .int dp] ⟨penS zs p, [(1, .b true), (1, .b false), (1, .b false), (1, .b false), (1, .b true), (1, .b true)], [drawO 8 way zs p p1, drawO 2 d1 zs p1 p2, exprO (6 + d) (dp - 1) v zs p2 p3, drawO 4 d2 zs p3 p4], True⟩ =
  some (.ok (.tup [s_ "**", v, numV (d2, 0)]), ⟨penS zs p4, [], [], (drawO 4 d2 zs p3 p4).fits 2 (penS zs p3) ∧ (exprO (6 + d) (dp - 1) v zs p2 p3).fits 2 (penS zs p2) ∧ (d1 == 0) = true ∧ (drawO 2 d1 zs p1 p2).fits 2 (penS zs p1) ∧ (way == 7) = true ∧ (way == 3) = false ∧ decide (way < 3) = false ∧ (way == 0) = false ∧ (drawO 8 way zs p p1).fits 2 (penS zs p) ∧ decide (0 < dp) = true ∧ True⟩) := by
 match d, hd with
 | 0, _ => kernel_rfl
 | 1, _ => kernel_rfl
 | 2, _ => kernel_rfl
theorem ex_bin (d : Nat) (hd : d < 3) (n : Nat) (o : String) (v w : V) (dp way : Int) (zs : List V) (p p1 p2 p3 : Dc) : callX (GG lo K) FF (n + (7 + d)) true (.glob 751) [.hnd 0, .int dp] ⟨penS zs p, [(1, .b true), (1, .b false), (1, .b false), (1, .b false), (1, .b false), (1, .v (s_ o))], [drawO 8 way zs p p1, exprO (6 + d) (dp - 1) v zs p1 p2, exprO (6 + d) (dp - 1) w zs p2 p3], True⟩ =
  some (.ok (.tup [s_ o, v, w]), ⟨penS zs p3, [], [], (exprO (6 + d) (dp - 1) w zs p2 p3).fits 2 (penS zs p2) ∧ (exprO (6 + d) (dp - 1) v zs p1 p2).fits 2 (penS zs p1) ∧ pick (way - 4) opL (s_ o) ∧ (way == 7) = false ∧ (way == 3) = false ∧ decide (way < 3) = false ∧ (way == 0) = false ∧ (drawO 8 way zs p p1).fits 2 (penS zs p) ∧ decide (0 < dp) = true ∧ True⟩) := by
 match d, hd with
 | 0, _ => kernel_rfl
 | 1, _ => kernel_rfl
 | 2, _ => kernel_rfl
theorem ex_div (d : Nat) (hd : d < 3) (n : Nat) (o : String) (v w : V) (dp way d1 : Int) (zs : List V) (p p1 p2 p3 p4 : Dc) : callX (GG lo K) FF (n + (7 + d)) true (.glob 751) [.hnd 0, .int dp] ⟨penS zs p, [(1, .b true), (1, .b false), (1, .b false), (1, .b false), (1, .b true), (1, .b false), (1, .v (s_ o))], [drawO 8 way zs p p1, drawO 2 d1 zs p1 p2, exprO (6 + d) (dp - 1) v zs p2 p3, exprO (6 + d) (dp - 1) w zs p3 p4], True⟩ =
  some (.ok (.tup [s_ o, v, w]), ⟨penS zs p4, [], [], (exprO (6 + d) (dp - 1) w zs p3 p4).fits 2 (penS zs p3) ∧ (exprO (6 + d) (dp - 1) v zs p2 p3).fits 2 (penS zs p2) ∧ pick (way - 4) opL (s_ o) ∧ (d1 == 0) = false ∧ (drawO 2 d1 zs p1 p2).fits 2 (penS zs p1) ∧ (way == 7) = true ∧ (way == 3) = false ∧ decide (way < 3) = false ∧ (way == 0) = false ∧ (drawO 8 way zs p p1).fits 2 (penS zs p) ∧ decide (0 < dp) = true ∧ True⟩) := by
 match d, hd with
 | 0, _ => kernel_rfl
 | 1, _ => kernel_rfl
 | 2, _ => kernel_rfl
end
theorem flat_ints : ∀ l : List Int, flatVs (l.map V.int) = true
 | [] => rfl
 | i :: r => flat_ints r
theorem Cells.flat {zs : List V} (h : Cells zs) : flatVs zs = true := by obtain ⟨l, _, rfl⟩ := h; exact flat_ints l
theorem Pen.up {i j : Nat} {p : Dc} (h : Pen i p) (hij : i ≤ j) : Pen j p := ⟨h.a, Int.le_trans h.b (Int.ofNat_le.mpr hij), h.c⟩
theorem pick_nm {d : Int} (h0 : 0 ≤ d) (h1 : d < 4) : ∃ x : Nm, pick d namL (s_ x.str) := by
 have : d = 0 ∨ d = 1 ∨ d = 2 ∨ d = 3 := by lia
 rcases this with rfl | rfl | rfl | rfl
 ·exact ⟨.A, by unfold pick; kernel_rfl⟩
 ·exact ⟨.B, by unfold pick; kernel_rfl⟩
 ·exact ⟨.C, by unfold pick; kernel_rfl⟩
 ·exact ⟨.D, by unfold pick; kernel_rfl⟩
theorem pick_op {d : Int} (h0 : 4 ≤ d) (h1 : d < 8) : ∃ o : Bo, pick (d - 4) opL (s_ o.str) := by
 have : d = 4 ∨ d = 5 ∨ d = 6 ∨ d = 7 := by lia
 rcases this with rfl | rfl | rfl | rfl
 ·exact ⟨.add, by unfold pick; kernel_rfl⟩
 ·exact ⟨.sub, by unfold pick; kernel_rfl⟩
 ·exact ⟨.mul, by unfold pick; kernel_rfl⟩
 ·exact ⟨.div, by unfold pick; kernel_rfl⟩
theorem int_bd {x : Int} {i : Nat} (h : x.natAbs < 2 ^ 10) (hi : 10 ≤ i) : x.natAbs < 2 ^ i := up2 h hi
section
variable {lo : List Str} {K : Params → Frag} {zs : List V}
structure Drawn (lo : List Str) (K : Params → Frag) (zs : List V) (k : Nat) (dp : Int) (h n : Nat) (p : Dc) (e : Ex) (p' : Dc) : Prop where
 pen : Pen n p'
 ht : e.ht ≤ h
 ok : e.Ok
 c : CallR (GG lo K) FF k true 751 [.hnd 0, .int dp] (penS zs p) (.ok (vE e)) (penS zs p')
theorem leaf_ok (hz : Cells zs) {g : Bool} {dp : Int} (hg : decide (0 < dp) = g) {n : Nat} {p p1 : Dc} (hn : n + 3 ≤ 1000) {way : Int} (h0 : 0 ≤ way) (h3 : way < 3) (hp1 : Pen (n + 1) p1) (c1 : CallR (GG lo K) FF 5 true 744 [.hnd 0, .int (cond g 8 2)] (penS zs p) (.ok (.int way)) (penS zs p1)) :
  ∃ e p', Drawn lo K zs 6 dp 0 (n + 3) p e p' := by
 have hf := hz.flat
 cases hw : way == 0 with
 | true =>
  obtain ⟨d1, p2, a1, a2, a3, a4⟩ := draw_ok (lo := lo) (K := K) hz hp1 (by lia) (by decide : 0 < (30 : Int)) (by decide)
  obtain ⟨d2, p3, b1, b2, b3, b4⟩ := draw_ok (lo := lo) (K := K) hz a3 (by lia) (by decide : 0 < (3 : Int)) (by decide)
  obtain ⟨u, s, e1, e2, e3, e4⟩ := dec_ok' (lo := lo) (K := K) (d1 - 9) d2 b1 (by lia)
  exact ⟨.num (u, s), p3, b3, Nat.le_refl _, ⟨int_bd (Nat.lt_of_le_of_lt e2 (by lia)) (by decide), e3, by dsimp only; lia⟩, .of G0_plain (fun n => ex_num lo K n g dp way d1 d2 u s zs p p1 p2 p3) ⟨⟨rfl, rfl, rfl, rfl, rfl⟩, pen_fits hf rfl, pen_fits hf rfl, hw, pen_fits hf rfl, hg, trivial⟩ ⟨c1.orc, a4.orc, b4.orc, e1.orc, trivial⟩⟩
 | false =>
  obtain ⟨d1, p2, a1, a2, a3, a4⟩ := draw_ok (lo := lo) (K := K) hz hp1 (by lia) (by decide : 0 < (4 : Int)) (by decide)
  obtain ⟨x, hx⟩ := pick_nm a1 a2
  exact ⟨.ref x, p2, a3.up (by lia), Nat.le_refl _, trivial, .of G0_plain (fun n => ex_ref lo K n g x.str dp way d1 zs p p1 p2) ⟨hx, pen_fits hf rfl, decide_eq_true h3, hw, pen_fits hf rfl, hg, trivial⟩ ⟨c1.orc, a4.orc, trivial⟩⟩
noncomputable def dr : Nat → Nat
 | 0 => 3
 | d + 1 => 2 * dr d + 2
theorem dr_le : ∀ d, 3 ≤ dr d
 | 0 => Nat.le_refl _
 | d + 1 => by
  have := dr_le d
  show 3 ≤ 2 * dr d + 2
  lia
theorem expr_ok (hz : Cells zs) : ∀ (d : Nat), d ≤ 3 → ∀ {n : Nat} {p : Dc}, Pen n p → n + dr d ≤ 1000 → ∃ e p', Drawn lo K zs (6 + d) d d (n + dr d) p e p'
 | 0, _, n, p, hp, hn => by
  have hn : n + 3 ≤ 1000 := hn
  obtain ⟨way, p1, a1, a2, a3, a4⟩ := draw_ok (lo := lo) (K := K) hz hp (by lia) (by decide : 0 < (2 : Int)) (by decide)
  exact leaf_ok hz (g := false) rfl hn a1 (by lia) a3 a4
 | d + 1, hd, n, p, hp, hn => by
  have hf := hz.flat
  have hn : n + (2 * dr d + 2) ≤ 1000 := hn
  have h3 := dr_le d
  have hg : decide (0 < ((d + 1 : Nat) : Int)) = true := decide_eq_true (by lia)
  have hs : ((d + 1 : Nat) : Int) - 1 = d := by lia
  obtain ⟨way, p1, a1, a2, a3, a4⟩ := draw_ok (lo := lo) (K := K) hz hp (by lia) (by decide : 0 < (8 : Int)) (by decide)
  by_cases hl : way < 3
  ·obtain ⟨e, p', D⟩ := leaf_ok (lo := lo) (K := K) hz (g := true) hg (by lia) a1 hl a3 a4
   exact ⟨e, p', D.pen.up (by show n + 3 ≤ n + (2 * dr d + 2); lia), Nat.le_trans D.ht (Nat.zero_le _), D.ok, D.c.more (by lia)⟩
  have w3 := decide_eq_false hl
  have w0 : (way == 0) = false := by simp; lia
  cases h4 : way == 3 with
  | true =>
   obtain ⟨e, p2, D⟩ := expr_ok hz d (by lia) a3 (by lia)
   exact ⟨.neg e, p2, D.pen.up (by show n + 1 + dr d ≤ n + (2 * dr d + 2); lia), Nat.succ_le_succ D.ht, D.ok, (CallR.of G0_plain (fun n => ex_neg lo K d (by lia) n (vE e) _ way zs p p1 p2) ⟨pen_fits hf (vE_flat e), h4, w3, w0, pen_fits hf rfl, hg, trivial⟩ ⟨a4.orc, by rw [hs]; exact D.c.orc, trivial⟩).more (by lia)⟩
  | false =>
  have w4 : 4 ≤ way := by simp at h4; lia
  obtain ⟨o, ho⟩ := pick_op w4 a2
  cases h7 : way == 7 with
  | false =>
   obtain ⟨e, p2, D⟩ := expr_ok hz d (by lia) a3 (by lia)
   obtain ⟨e', p3, D'⟩ := expr_ok hz d (by lia) D.pen (by lia)
   exact ⟨.bin o e e', p3, D'.pen.up (by show n + 1 + dr d + dr d ≤ n + (2 * dr d + 2); lia), Nat.succ_le_succ (Nat.max_le.mpr ⟨D.ht, D'.ht⟩), ⟨D.ok, D'.ok⟩, (CallR.of G0_plain (fun n => ex_bin lo K d (by lia) n o.str (vE e) (vE e') _ way zs p p1 p2 p3) ⟨pen_fits hf (vE_flat e'), pen_fits hf (vE_flat e), ho, h7, h4, w3, w0, pen_fits hf rfl, hg, trivial⟩ ⟨a4.orc, by rw [hs]; exact D.c.orc, by rw [hs]; exact D'.c.orc, trivial⟩).more (by lia)⟩
  | true =>
   obtain ⟨d1, p2, b1, b2, b3, b4⟩ := draw_ok (lo := lo) (K := K) hz a3 (by lia) (by decide : 0 < (2 : Int)) (by decide)
   obtain ⟨e, p3, D⟩ := expr_ok hz d (by lia) b3 (by lia)
   cases h1 : d1 == 0 with
   | true =>
    obtain ⟨d2, p4, c1, c2, c3, c4⟩ := draw_ok (lo := lo) (K := K) hz D.pen (by lia) (by decide : 0 < (4 : Int)) (by decide)
    exact ⟨.bin .pow e (.num (d2, 0)), p4, c3.up (by show n + 1 + 1 + dr d + 1 ≤ n + (2 * dr d + 2); lia), Nat.succ_le_succ (Nat.max_le.mpr ⟨D.ht, Nat.zero_le _⟩), ⟨D.ok, int_bd (by dsimp only; lia) (by decide), Int.le_refl _, (by decide : (0 : Int) ≤ 30)⟩, (CallR.of G0_plain (fun n => ex_pow lo K d (by lia) n (vE e) _ way d1 d2 zs p p1 p2 p3 p4) ⟨pen_fits hf rfl, pen_fits hf (vE_flat e), h1, pen_fits hf rfl, h7, h4, w3, w0, pen_fits hf rfl, hg, trivial⟩ ⟨a4.orc, b4.orc, by rw [hs]; exact D.c.orc, c4.orc, trivial⟩).more (by lia)⟩
   | false =>
    obtain ⟨e', p4, D'⟩ := expr_ok hz d (by lia) D.pen (by lia)
    exact ⟨.bin o e e', p4, D'.pen.up (by show n + 1 + 1 + dr d + dr d ≤ n + (2 * dr d + 2); lia), Nat.succ_le_succ (Nat.max_le.mpr ⟨D.ht, D'.ht⟩), ⟨D.ok, D'.ok⟩, (CallR.of G0_plain (fun n => ex_div lo K d (by lia) n o.str (vE e) (vE e') _ way d1 zs p p1 p2 p3 p4) ⟨pen_fits hf (vE_flat e'), pen_fits hf (vE_flat e), ho, h1, pen_fits hf rfl, h7, h4, w3, w0, pen_fits hf rfl, hg, trivial⟩ ⟨a4.orc, b4.orc, by rw [hs]; exact D.c.orc, by rw [hs]; exact D'.c.orc, trivial⟩).more (by lia)⟩
end
abbrev Num := Nm → Option Dc
def noV : Option Dc → V
 | none => .none
 | some x => pv x
def numD (w : Num) : O := .sdict [(S "A", noV (w .A)), (S "B", noV (w .B)), (S "C", noV (w .C)), (S "D", noV (w .D))]
abbrev lawS (w : Num) (l : List V) : Sto := [numD w, .list l]
theorem noV_mp {e : Nat → Nat} : ∀ o : Option Dc, (noV o).mp e = noV o
 | none => rfl
 | some _ => rfl
theorem numD_mp {e : Nat → Nat} (w : Num) : (numD w).mp e = numD w := by
 show O.sdict [(_, (noV _).mp e), (_, (noV _).mp e), (_, (noV _).mp e), (_, (noV _).mp e)] = _
 rw [noV_mp, noV_mp, noV_mp, noV_mp]; rfl
def exV : Option Dc → Except Addr V
 | none => .error 389
 | some x => .ok (pv x)
theorem exV_mp {e : Nat → Nat} : ∀ r : Option Dc, (exV r).map (V.mp e) = exV r
 | none => rfl
 | some _ => rfl
def lawCal (k : Nat) (f : Addr) (o : V) (w : Num) (l : List V) (r : Option Dc) (l' : List V) : Cal := ⟨⟨k, true, f, [o, .hnd 0, .hnd 1], lawS w l, exV r, lawS w l'⟩, [0, 1], exV r, lawS w l'⟩
def nuO (o : V) (w : Num) (l : List V) (r : Option Dc) (l' : List V) : Cal := lawCal 2 765 o w l r l'
def woO (k : Nat) (o : V) (w : Num) (l : List V) (r : Option Dc) (l' : List V) : Cal := lawCal k 758 o w l r l'
def opO (o : Bo) (x y : Dc) (r : Option Dc) : Cal := pure_ 8 o.fn [pv x, pv y] (exV r)
def rhoW (e : V) : Loc := [(S "expr", e), (S "numbers", .hnd 0), (S "log", .hnd 1)]
noncomputable def ng (x : Dc) : Dc := (-x.1, x.2)
section
variable {lo : List Str} {K : Params → Frag} {w : Num} {n : Nat} {x y : Dc} {l l1 l2 : List V} {d : Nat}
theorem law_mp (hl : flatVs l = true) {r : List Nat} : (lawS w l).map (O.mp (jof (0 :: 1 :: r) n)) = lawS w l := by
 show [(numD w).mp _, O.list (V.mps _ l)] = _
 rw [numD_mp, flat_mps hl]
theorem law_fits {k : Nat} {f : Addr} {o : V} {r : Option Dc} (ho : flatV o = true) (h1 : flatVs l = true) (h2 : flatVs l1 = true) : CalC [0, 1] n (lawCal k f o w l r l1).o [o, .hnd 0, .hnd 1] (lawS w l) (exV r) (lawS w l1) :=
 ⟨by show [V.mp _ o, _, _] = _; rw [flat_mp ho]; rfl, law_mp h1, exV_mp r, law_mp h2, rfl⟩
theorem op_fits {o : Bo} {r : Option Dc} : (opO o x y r).p n := ⟨rfl, rfl, exV_mp r, rfl, rfl⟩
theorem nu_num : callX (GG lo K) FF (n + 2) true (.glob 765) [numV x, .hnd 0, .hnd 1] ⟨lawS w l, [(0, .b true)], [], True⟩ = some (.ok (pv x), ⟨lawS w (l ++ [numV x]), [], [], l.length.ble sizeLine = true ∧ True⟩) := by kernel_rfl
def isNo (y : V) (b : Bool) : Prop := (cmpX .Is y .none []).map V.bool = some (.bool b)
theorem nu_ref (a : Nm) : callX (GG lo K) FF (n + 2) true (.glob 765) [refV a.str, .hnd 0, .hnd 1] ⟨lawS w l, [(0, .b true), (5, .v (.bool false))], [], True⟩ = some (.ok (noV (w a)), ⟨lawS w (l ++ [refV a.str]), [], [], isNo (noV (w a)) false ∧ l.length.ble sizeLine = true ∧ True⟩) := by cases a <;> kernel_rfl
theorem nu_bad (a : Nm) : callX (GG lo K) FF (n + 2) true (.glob 765) [refV a.str, .hnd 0, .hnd 1] ⟨lawS w l, [(0, .b true), (5, .v (.bool true))], [], True⟩ = some (.error 389, ⟨lawS w (l ++ [refV a.str]), [], [], isNo (noV (w a)) true ∧ l.length.ble sizeLine = true ∧ True⟩) := by cases a <;> kernel_rfl
theorem wo_num {r : Option Dc} : callX (GG lo K) FF (n + 8) true (.glob 758) [numV x, .hnd 0, .hnd 1] ⟨lawS w l, [], [nuO (numV x) w l r l1], True⟩ = some (exV r, ⟨lawS w l1, [], [], CalC [0, 1] 2 (nuO (numV x) w l r l1).o [numV x, .hnd 0, .hnd 1] (lawS w l) (exV r) (lawS w l1) ∧ True⟩) := by cases r <;> kernel_rfl
theorem wo_ref {r : Option Dc} (a : Nm) : callX (GG lo K) FF (n + 8) true (.glob 758) [refV a.str, .hnd 0, .hnd 1] ⟨lawS w l, [], [nuO (refV a.str) w l r l1], True⟩ = some (exV r, ⟨lawS w l1, [], [], CalC [0, 1] 2 (nuO (refV a.str) w l r l1).o [refV a.str, .hnd 0, .hnd 1] (lawS w l) (exV r) (lawS w l1) ∧ True⟩) := by cases r <;> kernel_rfl
abbrev woF (k : Nat) (o : V) (w : Num) (l : List V) (r : Option Dc) (l' : List V) : Prop := CalC [0, 1] 2 (woO k o w l r l').o [o, .hnd 0, .hnd 1] (lawS w l) (exV r) (lawS w l')
abbrev woR (n : Nat) (lo : List Str) (K : Params → Frag) (e : V) (w : Num) (l : List V) (dc : List Cal) := blkX (GG lo K) FF n f758 true [] deep f758.body (rhoW e) ⟨lawS w l, [], dc, True⟩
def reW (ρ : Loc) (r : Option Dc) : Except Addr (Fl × Loc) := (exV r).map fun v => (.ret v, ρ)
theorem wo_neg (d : Nat) (hd : d < 3) (v : V) (r : Option Dc) : woR (n + (8 + d)) lo K (.tup [s_ "neg", v]) w l [woO (8 + d) v w l r l1] = some (reW (rhoW (.tup [s_ "neg", v])) (r.map ng), ⟨lawS w l1, [], [], woF (8 + d) v w l r l1 ∧ True⟩) := by
 cases r <;> match d, hd with
 | 0, _ => kernel_rfl
 | 1, _ => kernel_rfl
 | 2, _ => kernel_rfl
def notC (z : String) (P : Prop) : Prop := (S z == S "ref") = false ∧ (S z == S "number") = false ∧ (S z == S "neg") = false ∧ P
theorem notC_of (o : Bo) {P : Prop} (h : P) : notC o.str P := by cases o <;> exact ⟨by kernel_rfl, by kernel_rfl, by kernel_rfl, h⟩
abbrev woA (n : Nat) (lo : List Str) (K : Params → Frag) (e : V) (w : Num) (l : List V) (dc : List Cal) := blkX (GG lo K) FF n f758 true [] deep (f758.body.take 4) (rhoW e) ⟨lawS w l, [(2, .b false), (2, .b false), (2, .b false)], dc, True⟩
def rhoB (z : String) (u v : V) (x y : Dc) : Loc := rhoW (.tup [s_ z, u, v]) ++ [(S "first", pv x), (S "second", pv y)]
theorem wo_b1 (d : Nat) (hd : d < 3) (z : String) (u v : V) : woA (n + (8 + d)) lo K (.tup [s_ z, u, v]) w l [woO (8 + d) u w l none l1] = some (.error 389, ⟨lawS w l1, [], [], woF (8 + d) u w l none l1 ∧ notC z True⟩) := by
 match d, hd with
 | 0, _ => kernel_rfl
 | 1, _ => kernel_rfl
 | 2, _ => kernel_rfl
theorem wo_b2 (d : Nat) (hd : d < 3) (z : String) (u v : V) : woA (n + (8 + d)) lo K (.tup [s_ z, u, v]) w l [woO (8 + d) u w l (some x) l1, woO (8 + d) v w l1 none l2] = some (.error 389, ⟨lawS w l2, [], [], woF (8 + d) v w l1 none l2 ∧ woF (8 + d) u w l (some x) l1 ∧ notC z True⟩) := by
 match d, hd with
 | 0, _ => kernel_rfl
 | 1, _ => kernel_rfl
 | 2, _ => kernel_rfl
theorem wo_b3 (d : Nat) (hd : d < 3) (z : String) (u v : V) : woA (n + (8 + d)) lo K (.tup [s_ z, u, v]) w l [woO (8 + d) u w l (some x) l1, woO (8 + d) v w l1 (some y) l2] = some (.ok (.next, rhoB z u v x y), ⟨lawS w l2, [], [], woF (8 + d) v w l1 (some y) l2 ∧ woF (8 + d) u w l (some x) l1 ∧ notC z True⟩) := by
 match d, hd with
 | 0, _ => kernel_rfl
 | 1, _ => kernel_rfl
 | 2, _ => kernel_rfl
theorem wo_b4 (o : Bo) (u v : V) (r : Option Dc) : blkX (GG lo K) FF (n + 8) f758 true [] deep (f758.body.drop 4) (rhoB o.str u v x y) ⟨lawS w l, [], [opO o x y r], True⟩ = some (reW (rhoB o.str u v x y) r, ⟨lawS w l, [], [], (opO o x y r).p 2 ∧ True⟩) := by cases o <;> cases r <;> kernel_rfl
theorem wo_cut : f758.body = f758.body.take 4 ++ f758.body.drop 4 := (List.take_append_drop ..).symm
def OpR (lo : List Str) (K : Params → Frag) (o : Bo) (x y : Dc) (r : Option Dc) : Prop := CallR (GG lo K) FF 8 true o.fn [pv x, pv y] [] (exV r) []
inductive EvE (lo : List Str) (K : Params → Frag) (w : Num) : Ex → List V → Option Dc → Prop
 | num (x : Dc) : EvE lo K w (.num x) [numV x] (some x)
 | ref (a : Nm) : EvE lo K w (.ref a) [refV a.str] (w a)
 | neg {a : Ex} {l : List V} {r : Option Dc} : EvE lo K w a l r → EvE lo K w (.neg a) l (r.map ng)
 | b1 {a b : Ex} {l : List V} (o : Bo) : EvE lo K w a l none → EvE lo K w (.bin o a b) l none
 | b2 {a b : Ex} {l l' : List V} {x : Dc} (o : Bo) : EvE lo K w a l (some x) → EvE lo K w b l' none → EvE lo K w (.bin o a b) (l ++ l') none
 | b3 {a b : Ex} {l l' : List V} {x y : Dc} {r : Option Dc} (o : Bo) : EvE lo K w a l (some x) → EvE lo K w b l' (some y) → OpR lo K o x y r → EvE lo K w (.bin o a b) (l ++ l') r
inductive Opd : V → Prop
 | num (x : Dc) : Opd (numV x)
 | ref (a : Nm) : Opd (refV a.str)
theorem Opd.flat {v : V} (h : Opd v) : flatV v = true := by cases h <;> rfl
noncomputable def Ex.sz : Ex → Nat
 | .num _ => 1
 | .ref _ => 1
 | .neg a => a.sz + 1
 | .bin _ a b => a.sz + b.sz + 1
theorem EvE.log {e : Ex} {r : Option Dc} (h : EvE lo K w e l r) : (∀ v ∈ l, Opd v) ∧ l.length ≤ e.sz := by
 induction h with
 | num x => exact ⟨fun v h => List.mem_singleton.mp h ▸ .num x, Nat.le_refl _⟩
 | ref a => exact ⟨fun v h => List.mem_singleton.mp h ▸ .ref a, Nat.le_refl _⟩
 | neg _ ih => exact ⟨ih.1, Nat.le_succ_of_le ih.2⟩
 | @b1 a b l o _ ih => exact ⟨ih.1, by show l.length ≤ a.sz + b.sz + 1; have := ih.2; lia⟩
 | @b2 a b l l' x o _ _ i1 i2 => exact ⟨fun v h => (List.mem_append.mp h).elim (i1.1 v) (i2.1 v), by show (l ++ l').length ≤ a.sz + b.sz + 1; rw [List.length_append]; have := i1.2; have := i2.2; lia⟩
 | @b3 a b l l' x y r o _ _ _ i1 i2 => exact ⟨fun v h => (List.mem_append.mp h).elim (i1.1 v) (i2.1 v), by show (l ++ l').length ≤ a.sz + b.sz + 1; rw [List.length_append]; have := i1.2; have := i2.2; lia⟩
theorem flat_all : ∀ {l : List V}, (∀ v ∈ l, flatV v = true) → flatVs l = true
 | [], _ => rfl
 | v :: r, h => by rw [flatVs, h v List.mem_cons_self, flat_all fun v h' => h v (List.mem_cons_of_mem _ h')]; rfl
theorem flat_app : ∀ {l l' : List V}, flatVs l = true → flatVs l' = true → flatVs (l ++ l') = true
 | [], _, _, h => h
 | v :: r, _, h, h' => by
  rw [flatVs, Bool.and_eq_true] at h
  rw [List.cons_append, flatVs, h.1, flat_app h.2 h']; rfl
theorem EvE.flat {e : Ex} {r : Option Dc} (h : EvE lo K w e l r) : flatVs l = true := flat_all fun v hv => (h.log.1 v hv).flat
theorem res_of {k : Nat} {r : Except Addr V} (h : Res k r) : ∃ r', r = exV r' ∧ ∀ x, r' = some x → Bd k x := by
 cases h with
 | bad => exact ⟨none, rfl, fun x h => noS h⟩
 | @ok x h => exact ⟨some x, rfl, fun y e => sInj e ▸ h⟩
theorem ev_all (hw : ∀ a x, w a = some x → Bd 480 x) : ∀ (e : Ex), e.Ok → e.ht ≤ 8 → ∃ l r, EvE lo K w e l r ∧ ∀ x, r = some x → Bd (480 + 250 * e.ht) x
 | .num x, h, _ => ⟨_, _, .num x, fun y e => sInj e ▸ h⟩
 | .ref a, _, _ => ⟨_, _, .ref a, hw a⟩
 | .neg a, h, h8 => by
  have h8 : a.ht + 1 ≤ 8 := h8
  obtain ⟨l, r, E, hb⟩ := ev_all hw a h (by lia)
  refine ⟨_, _, .neg E, fun x e => mapE e fun y h1 h2 => h2 ▸ ((neg_ok (lo := lo) (K := K) (hb y h1)).2.up (by show 480 + 250 * a.ht ≤ 480 + 250 * (a.ht + 1); lia))⟩
 | .bin o a b, ⟨ha, hb⟩, h8 => by
  have h8 : max a.ht b.ht + 1 ≤ 8 := h8
  obtain ⟨l, r, E, h1⟩ := ev_all hw a ha (by lia)
  cases r with
  | none => exact ⟨_, _, .b1 o E, fun x e => noS e⟩
  | some x =>
  obtain ⟨l', r', E', h2⟩ := ev_all hw b hb (by lia)
  cases r' with
  | none => exact ⟨_, _, .b2 o E E', fun x e => noS e⟩
  | some y =>
  obtain ⟨r, c, R⟩ := op_ok (lo := lo) (K := K) o ((h1 x rfl).up (by lia : _ ≤ 480 + 250 * max a.ht b.ht)) ((h2 y rfl).up (by lia : _ ≤ 480 + 250 * max a.ht b.ht)) (by lia)
  obtain ⟨r', e, hr⟩ := res_of R
  subst e
  exact ⟨_, r', .b3 o E E' c, fun z e => (hr z e).up (by show _ ≤ 480 + 250 * (max a.ht b.ht + 1); lia)⟩
theorem sz_le {n : Nat} {l : List V} (h : l.length ≤ 900) : l.length.ble sizeLine = true := Nat.ble_eq_true_of_le (by unfold sizeLine; lia)
theorem isNo_of (r : Option Dc) : isNo (noV r) (r == none) := by cases r <;> (unfold isNo; kernel_rfl)
theorem nu_ok (hl : l.length ≤ 900) (o : V) (r : Option Dc) (h : (∃ x, o = numV x ∧ r = some x) ∨ ∃ a : Nm, o = refV a.str ∧ r = w a) : CallR (GG lo K) FF 2 true 765 [o, .hnd 0, .hnd 1] (lawS w l) (exV r) (lawS w (l ++ [o])) := by
 have hs := sz_le (n := 0) hl
 rcases h with ⟨x, rfl, rfl⟩ | ⟨a, rfl, rfl⟩
 ·exact .of G0_plain (fun n => nu_num) ⟨hs, trivial⟩ trivial
 ·have hi := isNo_of (w a)
  cases e : w a with
  | none => rw [e] at hi; exact .of G0_plain (fun n => nu_bad a) ⟨by rw [e]; exact hi, hs, trivial⟩ trivial
  | some x =>
   rw [e] at hi
   have : CallR (GG lo K) FF 2 true 765 [refV a.str, .hnd 0, .hnd 1] (lawS w l) (.ok (noV (w a))) (lawS w (l ++ [refV a.str])) := .of G0_plain (fun n => nu_ref a) ⟨by rw [e]; exact hi, hs, trivial⟩ trivial
   rw [e] at this; exact this
theorem wo_body {k : Nat} {e : V} {r : Option Dc} {ρ : Loc} (h : ∀ n, BlkR (GG lo K) FF (n + k) f758 true [] deep f758.body (rhoW e) (lawS w l) (reW ρ r) (lawS w l1)) : CallR (GG lo K) FF (k + 1) true 758 [e, .hnd 0, .hnd 1] (lawS w l) (exV r) (lawS w l1) := by
 have := CallR.bodyR (f := 758) (fn := f758) (vs := [e, .hnd 0, .hnd 1]) (r := reW ρ r) (by kernel_rfl) (by kernel_rfl) rfl (by kernel_rfl) rfl h
 rw [show (reW ρ r).map (fun p => retV p.1) = exV r by cases r <;> rfl] at this
 exact this
theorem worth_ok {e : Ex} {r : Option Dc} (h : EvE lo K w e l r) : ∀ {d : Nat}, e.ht ≤ d → d ≤ 3 → ∀ {l0 : List V}, flatVs l0 = true → l0.length + l.length ≤ 900 → CallR (GG lo K) FF (8 + d) true 758 [vE e, .hnd 0, .hnd 1] (lawS w l0) (exV r) (lawS w (l0 ++ l)) := by
 induction h with
 | num x => exact fun {d} _ _ {l0} h0 hl => CallR.more (k := 8) (.of G0_plain (fun n => wo_num) ⟨law_fits rfl h0 (flat_app h0 rfl), trivial⟩ ⟨(nu_ok (Nat.le_of_succ_le hl) _ _ (.inl ⟨x, rfl, rfl⟩)).orc, trivial⟩) (by lia)
 | ref a => exact fun {d} _ _ {l0} h0 hl => CallR.more (k := 8) (.of G0_plain (fun n => wo_ref a) ⟨law_fits rfl h0 (flat_app h0 rfl), trivial⟩ ⟨(nu_ok (Nat.le_of_succ_le hl) _ _ (.inr ⟨a, rfl, rfl⟩)).orc, trivial⟩) (by lia)
 | @neg a l r E ih =>
  exact fun {d} h1 h2 {l0} h0 hl => match d, h1, h2 with
   | d + 1, h1, h2 => CallR.more (k := 8 + d + 1) (wo_body fun n => .of G0_plain (wo_neg d (by lia) (vE a) r) ⟨law_fits (vE_flat a) h0 (flat_app h0 E.flat), trivial⟩ ⟨((ih (Nat.le_of_succ_le_succ h1) (by lia) h0 hl)).orc, trivial⟩) (by lia)
 | @b1 a b l o E ih =>
  exact fun {d} h1 h2 {l0} h0 hl => match d, h1, h2 with
   | d + 1, h1, h2 => CallR.more (k := 8 + d + 1) (wo_body (ρ := []) fun n => wo_cut ▸ .bad (.of G0_plain (wo_b1 d (by lia) o.str (vE a) (vE b)) ⟨law_fits (vE_flat a) h0 (flat_app h0 E.flat), notC_of o trivial⟩ ⟨(ih (Nat.le_trans (Nat.le_max_left _ _) (Nat.le_of_succ_le_succ h1)) (by lia) h0 hl).orc, trivial⟩)) (by lia)
 | @b2 a b l l' x o E E' i1 i2 =>
  exact fun {d} h1 h2 {l0} h0 hl => match d, h1, h2 with
   | d + 1, h1, h2 => by
    rw [List.length_append] at hl
    have f1 := flat_app h0 E.flat
    rw [← List.append_assoc]
    exact CallR.more (k := 8 + d + 1) (wo_body (ρ := []) fun n => wo_cut ▸ .bad (.of G0_plain (wo_b2 d (by lia) o.str (vE a) (vE b)) ⟨law_fits (vE_flat b) f1 (flat_app f1 E'.flat), law_fits (vE_flat a) h0 f1, notC_of o trivial⟩
     ⟨(i1 (Nat.le_trans (Nat.le_max_left _ _) (Nat.le_of_succ_le_succ h1)) (by lia) h0 (by lia)).orc, (i2 (Nat.le_trans (Nat.le_max_right _ _) (Nat.le_of_succ_le_succ h1)) (by lia) f1 (by rw [List.length_append]; lia)).orc, trivial⟩)) (by lia)
 | @b3 a b l l' x y r o E E' R i1 i2 =>
  exact fun {d} h1 h2 {l0} h0 hl => match d, h1, h2 with
   | d + 1, h1, h2 => by
    rw [List.length_append] at hl
    have f1 := flat_app h0 E.flat
    rw [← List.append_assoc]
    exact CallR.more (k := 8 + d + 1) (wo_body (ρ := rhoB o.str (vE a) (vE b) x y) fun n => wo_cut ▸ BlkR.app (.of G0_plain (wo_b3 d (by lia) o.str (vE a) (vE b)) ⟨law_fits (vE_flat b) f1 (flat_app f1 E'.flat), law_fits (vE_flat a) h0 f1, notC_of o trivial⟩
     ⟨(i1 (Nat.le_trans (Nat.le_max_left _ _) (Nat.le_of_succ_le_succ h1)) (by lia) h0 (by lia)).orc, (i2 (Nat.le_trans (Nat.le_max_right _ _) (Nat.le_of_succ_le_succ h1)) (by lia) f1 (by rw [List.length_append]; lia)).orc, trivial⟩)
     (by rw [show n + (8 + d) = n + d + 8 by lia]; exact .of G0_plain (wo_b4 o (vE a) (vE b) r) ⟨op_fits, trivial⟩ ⟨R.orc, trivial⟩)) (by lia)
end
set_option genCtorIdx true in
inductive Op where
 | push (v : V) (L : Int)
 | calc (s : String) (L : Int)
 | put (rows : V) (L : Int)
 | deed (v : V)
 | jump (L : Int)
 | leave
 | stop
def opV : Op → V
 | .push v L => .tup [s_ "push", v, .int L]
 | .calc s L => .tup [s_ "calc", s_ s, .int L]
 | .put rows L => .tup [s_ "put", rows, .int L]
 | .deed v => .tup [s_ "do", v]
 | .jump L => .tup [s_ "jump", .int L]
 | .leave => .tup [s_ "leave", .int 0]
 | .stop => .tup [s_ "stop", s_ "end"]
def opsV (l : List Op) : List V := l.map opV
def Op.Ok : Op → Prop
 | .push v _ => flatV v = true
 | .put v _ => flatV v = true
 | .deed v => flatV v = true
 | _ => True
theorem Op.flat : ∀ {o : Op}, o.Ok → flatV (opV o) = true
 | .push v L, h => by show (flatV v && true) = true; rw [h]; rfl
 | .calc _ _, _ => rfl
 | .put v L, h => by show (flatV v && true) = true; rw [h]; rfl
 | .deed v, h => by show (flatV v && true) = true; rw [h]; rfl
 | .jump _, _ => rfl
 | .leave, _ => rfl
 | .stop, _ => rfl
def OpsOk (l : List Op) : Prop := ∀ o ∈ l, o.Ok
theorem OpsOk.flat {l : List Op} (h : OpsOk l) : flatVs (opsV l) = true := flat_all fun v hv => by
 obtain ⟨o, ho, rfl⟩ := List.mem_map.mp hv
 exact Op.flat (h o ho)
theorem OpsOk.app {l l' : List Op} (h : OpsOk l) (h' : OpsOk l') : OpsOk (l ++ l') := fun o ho => (List.mem_append.mp ho).elim (h o) (h' o)
theorem OpsOk.one {o : Op} (h : o.Ok) : OpsOk [o] := fun p hp => List.mem_singleton.mp hp ▸ h
noncomputable def opsE (L : Int) : Ex → List Op
 | .num x => [.push (numV x) L]
 | .ref a => [.push (refV a.str) L]
 | .neg a => opsE L a ++ [.calc "neg" L]
 | .bin o a b => opsE L a ++ (opsE L b ++ [.calc o.str L])
theorem opsE_ok (L : Int) : ∀ e : Ex, OpsOk (opsE L e)
 | .num x => .one (o := .push (numV x) L) rfl
 | .ref a => .one (o := .push (refV a.str) L) rfl
 | .neg a => (opsE_ok L a).app (.one (o := .calc "neg" L) trivial)
 | .bin o a b => (opsE_ok L a).app ((opsE_ok L b).app (.one (o := .calc o.str L) trivial))
theorem opsE_sz (L : Int) : ∀ e : Ex, (opsE L e).length = e.sz
 | .num x => rfl
 | .ref a => rfl
 | .neg a => by show (opsE L a ++ _).length = a.sz + 1; rw [List.length_append, opsE_sz L a]; rfl
 | .bin o a b => by show (opsE L a ++ (opsE L b ++ _)).length = a.sz + b.sz + 1; rw [List.length_append, List.length_append, opsE_sz L a, opsE_sz L b]; rfl
def lamT : O := .tab (S "Draft.finished" ++ ".<locals>." ++ "<lambda>")
def cP (st : V) : Sto := [lamT, .inst 688 [(S "name", s_ "A"), (S "section", s_ ""), (S "statements", st)], .list [.hnd 1], .inst 728 [(S "rows", .hnd 2), (S "using", .tup [])]]
def cS (st : V) (l pl : List V) : Sto := cP st ++ [.inst 209 [(S "procedures", .hnd 3), (S "ops", .hnd 6), (S "places", .hnd 7), (S "slots", .int 0), (S "heads", .hnd 8)], .cell (some (.hnd 4)), .list l, .list pl, .list [.int 0]]
noncomputable abbrev jC : List Nat := [0, 1, 2, 3, 4, 5, 6, 7, 8]
theorem c_mp {st : V} {l pl : List V} {n : Nat} (h1 : flatV st = true) (h2 : flatVs l = true) (h3 : flatVs pl = true) : (cS st l pl).map (O.mp (jof jC n)) = cS st l pl := by
 show [lamT, O.inst 688 [_, _, (_, V.mp _ st)], _, _, _, _, O.list (V.mps _ l), O.list (V.mps _ pl), _] = _
 rw [flat_mp h1, flat_mps h2, flat_mps h3]; rfl
def cCal (k : Nat) (f : Addr) (vs : List V) (st : V) (l pl l' pl' : List V) : Cal := ⟨⟨k, true, f, vs, cS st l pl, .ok .none, cS st l' pl'⟩, jC, .ok .none, cS st l' pl'⟩
abbrev peO (k : Nat) (e : V) (L : Int) (st : V) (l pl l' : List V) : Cal := cCal k 220 [.hnd 4, e, .int L] st l pl l' pl
abbrev peF (n k : Nat) (e : V) (L : Int) (st : V) (l pl l' : List V) : Prop := CalC jC n (peO k e L st l pl l').o [.hnd 4, e, .int L] (cS st l pl) (.ok .none) (cS st l' pl)
def rhoE (e : V) (L : Int) : Loc := [(S "draft", .hnd 4), (S "expr", e), (S "label", .int L)]
section
variable {lo : List Str} {K : Params → Frag} {n : Nat} {st : V} {l l1 l2 pl : List V} {L : Int}
theorem pe_fits {k : Nat} {e : V} (he : flatV e = true) (h1 : flatV st = true) (h2 : flatVs l = true) (h3 : flatVs pl = true) (h4 : flatVs l1 = true) : peF n k e L st l pl l1 :=
 ⟨by show [_, V.mp _ e, _] = _; rw [flat_mp he]; rfl, c_mp h1 h2 h3, rfl, c_mp h1 h4 h3, rfl⟩
abbrev peR (n : Nat) (lo : List Str) (K : Params → Frag) (e : V) (L : Int) (st : V) (l pl : List V) (ds : List (Nat × Dec)) (dc : List Cal) := blkX (GG lo K) FF n f220 true [] deep f220.body (rhoE e L) ⟨cS st l pl, ds, dc, True⟩
theorem pe_num (x : Dc) : peR (n + 3) lo K (numV x) L st l pl [(3, .b true)] [] = some (.ok (.next, rhoE (numV x) L), ⟨cS st (l ++ [opV (.push (numV x) L)]) pl, [], [], l.length.ble sizeLine = true ∧ True⟩) := by kernel_rfl
theorem pe_ref (x : String) : peR (n + 3) lo K (refV x) L st l pl [(3, .b true)] [] = some (.ok (.next, rhoE (refV x) L), ⟨cS st (l ++ [opV (.push (refV x) L)]) pl, [], [], l.length.ble sizeLine = true ∧ True⟩) := by kernel_rfl
theorem pe_neg (d : Nat) (hd : d < 3) (v : V) : peR (n + (4 + d)) lo K (.tup [s_ "neg", v]) L st l pl [(7, .b true)] [peO (4 + d) v L st l pl l1] = some (.ok (.next, rhoE (.tup [s_ "neg", v]) L), ⟨cS st (l1 ++ [opV (.calc "neg" L)]) pl, [], [], l1.length.ble sizeLine = true ∧ peF 9 (4 + d) v L st l pl l1 ∧ True⟩) := by
 match d, hd with
 | 0, _ => kernel_rfl
 | 1, _ => kernel_rfl
 | 2, _ => kernel_rfl
theorem pe_bin (d : Nat) (hd : d < 3) (o : Bo) (u v : V) : peR (n + (4 + d)) lo K (.tup [s_ o.str, u, v]) L st l pl [(9, .b true)] [peO (4 + d) u L st l pl l1, peO (4 + d) v L st l1 pl l2] = some (.ok (.next, rhoE (.tup [s_ o.str, u, v]) L), ⟨cS st (l2 ++ [opV (.calc o.str L)]) pl, [], [], l2.length.ble sizeLine = true ∧ peF 9 (4 + d) v L st l1 pl l2 ∧ peF 9 (4 + d) u L st l pl l1 ∧ True⟩) := by
 match d, hd with
 | 0, _ => cases o <;> kernel_rfl
 | 1, _ => cases o <;> kernel_rfl
 | 2, _ => cases o <;> kernel_rfl
theorem pe_body {k : Nat} {e : V} {ρ : Loc} (h : ∀ n, BlkR (GG lo K) FF (n + k) f220 true [] deep f220.body (rhoE e L) (cS st l pl) (.ok (.next, ρ)) (cS st l1 pl)) : CallR (GG lo K) FF (k + 1) true 220 [.hnd 4, e, .int L] (cS st l pl) (.ok .none) (cS st l1 pl) :=
 CallR.body (f := 220) (fn := f220) (vs := [.hnd 4, e, .int L]) (fl := .next) (by kernel_rfl) (by kernel_rfl) rfl (by kernel_rfl) rfl h
theorem opsV_app (l l' : List Op) : opsV (l ++ l') = opsV l ++ opsV l' := List.map_append
theorem put_ok (hst : flatV st = true) (hpl : flatVs pl = true) : ∀ (e : Ex) {d : Nat}, e.ht ≤ d → d ≤ 3 → ∀ {l : List V}, flatVs l = true → l.length + e.sz ≤ 900 → CallR (GG lo K) FF (4 + d) true 220 [.hnd 4, vE e, .int L] (cS st l pl) (.ok .none) (cS st (l ++ opsV (opsE L e)) pl)
 | .num x, d, _, _, l, hl, hs => CallR.more (k := 3 + 1) (pe_body fun n => .of G0_plain (pe_num x) ⟨sz_le (n := 0) (Nat.le_of_succ_le hs), trivial⟩ trivial) (by lia)
 | .ref a, d, _, _, l, hl, hs => CallR.more (k := 3 + 1) (pe_body fun n => .of G0_plain (pe_ref a.str) ⟨sz_le (n := 0) (Nat.le_of_succ_le hs), trivial⟩ trivial) (by lia)
 | .neg a, d + 1, h1, h2, l, hl, hs => by
  have hs : l.length + (a.sz + 1) ≤ 900 := hs
  show CallR _ _ _ _ _ _ _ _ (cS st (l ++ opsV (opsE L a ++ _)) pl)
  rw [opsV_app, ← List.append_assoc]
  exact CallR.more (k := 4 + d + 1) (pe_body fun n => .of G0_plain (pe_neg d (by lia) (vE a)) ⟨sz_le (n := 0) (by rw [List.length_append, opsV, List.length_map, opsE_sz]; lia), pe_fits (vE_flat a) hst hl hpl (flat_app hl (opsE_ok L a).flat), trivial⟩ ⟨(put_ok hst hpl a (Nat.le_of_succ_le_succ h1) (by lia) hl (by lia)).orc, trivial⟩) (by lia)
 | .bin o a b, d + 1, h1, h2, l, hl, hs => by
  have hs : l.length + (a.sz + b.sz + 1) ≤ 900 := hs
  have f1 := flat_app hl (opsE_ok L a).flat
  have f2 := flat_app f1 (opsE_ok L b).flat
  show CallR _ _ _ _ _ _ _ _ (cS st (l ++ opsV (opsE L a ++ (opsE L b ++ _))) pl)
  rw [opsV_app, opsV_app, ← List.append_assoc, ← List.append_assoc]
  exact CallR.more (k := 4 + d + 1) (pe_body fun n => .of G0_plain (pe_bin d (by lia) o (vE a) (vE b)) ⟨sz_le (n := 0) (by rw [List.length_append, List.length_append, opsV, opsV, List.length_map, List.length_map, opsE_sz, opsE_sz]; lia), pe_fits (vE_flat b) hst f1 hpl f2, pe_fits (vE_flat a) hst hl hpl f1, trivial⟩
   ⟨(put_ok hst hpl a (Nat.le_trans (Nat.le_max_left _ _) (Nat.le_of_succ_le_succ h1)) (by lia) hl (by lia)).orc, (put_ok hst hpl b (Nat.le_trans (Nat.le_max_right _ _) (Nat.le_of_succ_le_succ h1)) (by lia) f1 (by rw [List.length_append, opsV, List.length_map, opsE_sz]; lia)).orc, trivial⟩) (by lia)
end
set_option genCtorIdx true in
inductive Br where
 | o
 | n
 | s
 | sn
 | ns
def saidV (x : Int) : V := .tup [s_ "display", .tup [numV (x, 0)], .bool false]
def sizeV (x y : Int) : V := .tup [s_ "size", .tup [saidV x, saidV y]]
def notV (x : Int) : V := .tup [s_ "not size", .tup [saidV x]]
def brV (x y z : Int) : Br → V
 | .o => .tup []
 | .n => .tup [notV z]
 | .s => .tup [sizeV x y]
 | .sn => .tup [sizeV x y, notV z]
 | .ns => .tup [notV z, sizeV x y]
def stmtV (v rows : V) (x y z : Int) (b : Br) : V := .tup [s_ "arith", v, rows, brV x y z b]
noncomputable def disp : Sto := [.cell (some (.hnd 4)), .sdict [], .list [], .list [], .list [], .list []]
def brD (x y z : Int) : Br → List (Str × V)
 | .o => []
 | .n => [(S "not size", .tup [saidV z])]
 | .s => [(S "size", .tup [saidV x, saidV y])]
 | .sn => [(S "size", .tup [saidV x, saidV y]), (S "not size", .tup [saidV z])]
 | .ns => [(S "not size", .tup [saidV z]), (S "size", .tup [saidV x, saidV y])]
def garb (x y z : Int) (b : Br) : Sto := .cell (some (.hnd 4)) :: .sdict (brD x y z b) :: match b with
 | .o => []
 | .n => disp
 | .s => disp ++ disp
 | .sn => disp ++ (disp ++ disp)
 | .ns => disp ++ (disp ++ disp)
def tailO (rows : V) (x y z L : Int) : Br → List Op
 | .o => [.put rows L]
 | .n => [.put rows L, .deed (saidV z)]
 | .s => [.put rows L, .jump (L + 1), .deed (saidV x), .deed (saidV y)]
 | .sn => [.put rows L, .deed (saidV z), .jump (L + 2), .deed (saidV x), .deed (saidV y)]
 | .ns => [.put rows L, .deed (saidV z), .jump (L + 2), .deed (saidV x), .deed (saidV y)]
noncomputable def labs (m : Int) : Br → List Int
 | .o => [m]
 | .n => [m + 1, m + 1]
 | .s => [m + 1, m + 3, m + 2, m + 3]
 | .sn => [m + 2, m + 1, m + 4, m + 3, m + 4]
 | .ns => [m + 2, m + 1, m + 4, m + 3, m + 4]
noncomputable def stDs (m : Int) : Br → List (Nat × Dec)
 | .o => [(17, .b true), (3, .v (.int m))]
 | .n => [(17, .b true), (25, .b true), (5, .v (.int (m + 1))), (3, .v (.int (m + 1)))]
 | .s => [(17, .b true), (5, .b true), (0, .v (.int (m + 1))), (25, .b true), (5, .v (.int (m + 2))), (25, .b true), (5, .v (.int (m + 3))), (0, .v (.int (m + 3)))]
 | .sn => [(17, .b true), (25, .b true), (5, .v (.int (m + 1))), (5, .b true), (0, .v (.int (m + 2))), (25, .b true), (5, .v (.int (m + 3))), (25, .b true), (5, .v (.int (m + 4))), (0, .v (.int (m + 4)))]
 | .ns => [(17, .b true), (25, .b true), (5, .v (.int (m + 1))), (5, .b true), (0, .v (.int (m + 2))), (25, .b true), (5, .v (.int (m + 3))), (25, .b true), (5, .v (.int (m + 4))), (0, .v (.int (m + 4)))]
noncomputable def snocs (l : List V) : List Op → List V
 | [] => l
 | o :: r => snocs (l ++ [opV o]) r
def blC (l : List V) : Prop := l.length.ble sizeLine = true
def lenC (l : List V) (L : Int) : Prop := biV true (.bi "len") [.hnd 0] [.list l] = some (.int L)
def stC (l1 : List V) (rows : V) (x y z L m : Int) (P : Prop) : Br → Prop
 | .o => lenC (snocs l1 [.put rows L]) m ∧ blC l1 ∧ P
 | .n => lenC (snocs l1 [.put rows L, .deed (saidV z)]) (m + 1) ∧ lenC (snocs l1 [.put rows L, .deed (saidV z)]) (m + 1) ∧ blC (snocs l1 [.put rows L]) ∧ blC l1 ∧ P
 | .s => lenC (snocs l1 [.put rows L, .jump (L + 1), .deed (saidV x), .deed (saidV y)]) (m + 3) ∧ lenC (snocs l1 [.put rows L, .jump (L + 1), .deed (saidV x), .deed (saidV y)]) (m + 3) ∧ blC (snocs l1 [.put rows L, .jump (L + 1), .deed (saidV x)]) ∧
  lenC (snocs l1 [.put rows L, .jump (L + 1), .deed (saidV x)]) (m + 2) ∧ blC (snocs l1 [.put rows L, .jump (L + 1)]) ∧ lenC (snocs l1 [.put rows L, .jump (L + 1)]) (m + 1) ∧ blC (snocs l1 [.put rows L]) ∧ blC l1 ∧ P
 | _ => lenC (snocs l1 [.put rows L, .deed (saidV z), .jump (L + 2), .deed (saidV x), .deed (saidV y)]) (m + 4) ∧ lenC (snocs l1 [.put rows L, .deed (saidV z), .jump (L + 2), .deed (saidV x), .deed (saidV y)]) (m + 4) ∧
  blC (snocs l1 [.put rows L, .deed (saidV z), .jump (L + 2), .deed (saidV x)]) ∧ lenC (snocs l1 [.put rows L, .deed (saidV z), .jump (L + 2), .deed (saidV x)]) (m + 3) ∧ blC (snocs l1 [.put rows L, .deed (saidV z), .jump (L + 2)]) ∧ lenC (snocs l1 [.put rows L, .deed (saidV z), .jump (L + 2)]) (m + 2) ∧
  blC (snocs l1 [.put rows L, .deed (saidV z)]) ∧ lenC (snocs l1 [.put rows L, .deed (saidV z)]) (m + 1) ∧ blC (snocs l1 [.put rows L]) ∧ blC l1 ∧ P
section
variable {lo : List Str} {K : Params → Frag} {n : Nat} {st v rows : V} {l l1 : List V} {x y z m : Int}
theorem st_run (b : Br) (xs : List Int) (hx : 0 < xs.length ∧ xs.length < 7) : callX (GG lo K) FF (n + 9) true (.glob 239) [.hnd 4, stmtV v rows x y z b] ⟨cS st l (xs.map V.int), stDs m b, [peO 7 v xs.length st l ((xs ++ [-1]).map V.int) l1], True⟩ =
  some (.ok .none, ⟨cS st (snocs l1 (tailO rows x y z xs.length b)) ((xs ++ labs m b).map V.int) ++ garb x y z b, [], [], stC l1 rows x y z xs.length m (peF 11 7 v xs.length st l ((xs ++ [-1]).map V.int) l1 ∧ True) b⟩) := by
 match xs, hx with
 | [a0], _ => cases b <;> kernel_rfl
 | [a0, a1], _ => cases b <;> kernel_rfl
 | [a0, a1, a2], _ => cases b <;> kernel_rfl
 | [a0, a1, a2, a3], _ => cases b <;> kernel_rfl
 | [a0, a1, a2, a3, a4], _ => cases b <;> kernel_rfl
 | [a0, a1, a2, a3, a4, a5], _ => cases b <;> kernel_rfl
 | _ :: _ :: _ :: _ :: _ :: _ :: _ :: _, h => exact absurd h.2 (by simp only [List.length_cons]; lia)
theorem snocs_eq : ∀ (l : List V) (os : List Op), snocs l os = l ++ opsV os
 | l, [] => (List.append_nil l).symm
 | l, o :: r => by rw [snocs, snocs_eq]; simp [opsV]
theorem blC_of (h : l.length ≤ 900) : blC l := sz_le (n := 0) h
theorem lenC_of (h : l.length ≤ 900) (hm : (l.length : Int) = m) : lenC l m := by
 refine biV_len ?_
 show (if l.length ≤ sizeLine then some (l.length : Int) else none) = _
 rw [if_pos (by unfold sizeLine; lia), hm]
theorem snocs_len (l : List V) (os : List Op) : (snocs l os).length = l.length + os.length := by
 rw [snocs_eq, List.length_append, opsV, List.length_map]
theorem stC_of {L : Int} {P : Prop} (b : Br) (h : l1.length ≤ 890) (hm : (l1.length : Int) + 1 = m) (hP : P) : stC l1 rows x y z L m P b := by
 have bl : ∀ os : List Op, os.length.ble 5 = true → blC (snocs l1 os) := fun os ho => have ho := Nat.le_of_ble_eq_true ho; blC_of (by rw [snocs_len]; lia)
 have ln : ∀ (os : List Op) (i : Int), os.length.ble 5 = true → os.length = i + 1 → lenC (snocs l1 os) (m + i) := fun os i ho hi => have ho := Nat.le_of_ble_eq_true ho; lenC_of (by rw [snocs_len]; lia) (by rw [snocs_len]; lia)
 have l0 := ln [.put rows L] 0 rfl rfl
 rw [Int.add_zero] at l0
 have b0 := bl [] rfl
 cases b with
 | o => exact ⟨l0, b0, hP⟩
 | n => exact ⟨ln _ 1 rfl rfl, ln _ 1 rfl rfl, bl _ rfl, b0, hP⟩
 | s => exact ⟨ln _ 3 rfl rfl, ln _ 3 rfl rfl, bl _ rfl, ln _ 2 rfl rfl, bl _ rfl, ln _ 1 rfl rfl, bl _ rfl, b0, hP⟩
 | _ => exact ⟨ln _ 4 rfl rfl, ln _ 4 rfl rfl, bl _ rfl, ln _ 3 rfl rfl, bl _ rfl, ln _ 2 rfl rfl, bl _ rfl, ln _ 1 rfl rfl, bl _ rfl, b0, hP⟩
theorem flat_is : ∀ xs : List Int, flatVs (xs.map V.int) = true := flat_ints
def codeO (e : Ex) (rows : V) (x y z L : Int) (b : Br) : List Op := opsE L e ++ tailO rows x y z L b
theorem st_ok (hst : flatV st = true) (e : Ex) (he : e.ht ≤ 3) (b : Br) (xs : List Int) (hx : 0 < xs.length ∧ xs.length < 7) (hl : flatVs l = true) (hs : l.length + e.sz ≤ 890) (hm : (l.length : Int) + e.sz + 1 = m) :
  CallR (GG lo K) FF 9 true 239 [.hnd 4, stmtV (vE e) rows x y z b] (cS st l (xs.map V.int)) (.ok .none) (cS st (l ++ opsV (codeO e rows x y z xs.length b)) ((xs ++ labs m b).map V.int) ++ garb x y z b) := by
 have f1 := flat_app hl (opsE_ok xs.length e).flat
 have h1 : (l ++ opsV (opsE xs.length e)).length = l.length + e.sz := by rw [List.length_append, opsV, List.length_map, opsE_sz]
 unfold codeO
 rw [opsV_app, ← List.append_assoc, ← snocs_eq]
 exact .of G0_plain (fun n => st_run b xs hx) (stC_of b (by rw [h1]; lia) (by rw [h1]; lia) ⟨pe_fits (vE_flat e) hst hl (flat_is _) f1, trivial⟩) ⟨(put_ok hst (flat_is _) e he (Nat.le_refl 3) hl (by lia)).orc, trivial⟩
theorem dp_run (xs : List Int) (hx : 0 < xs.length ∧ xs.length < 12) : callX (GG lo K) FF (n + 9) true (.glob 239) [.hnd 4, saidV x] ⟨cS st l (xs.map V.int), [(25, .b true), (5, .v (.int m))], [], True⟩ =
  some (.ok .none, ⟨cS st (snocs l [.deed (saidV x)]) ((xs ++ [m]).map V.int) ++ disp, [], [], lenC (snocs l [.deed (saidV x)]) m ∧ blC l ∧ True⟩) := by
 match xs, hx with
 | [a0], _ => kernel_rfl
 | [a0, a1], _ => kernel_rfl
 | [a0, a1, a2], _ => kernel_rfl
 | [a0, a1, a2, a3], _ => kernel_rfl
 | [a0, a1, a2, a3, a4], _ => kernel_rfl
 | [a0, a1, a2, a3, a4, a5], _ => kernel_rfl
 | [a0, a1, a2, a3, a4, a5, a6], _ => kernel_rfl
 | [a0, a1, a2, a3, a4, a5, a6, a7], _ => kernel_rfl
 | [a0, a1, a2, a3, a4, a5, a6, a7, a8], _ => kernel_rfl
 | [a0, a1, a2, a3, a4, a5, a6, a7, a8, a9], _ => kernel_rfl
 | [a0, a1, a2, a3, a4, a5, a6, a7, a8, a9, a10], _ => kernel_rfl
 | _ :: _ :: _ :: _ :: _ :: _ :: _ :: _ :: _ :: _ :: _ :: _ :: _, h => exact absurd h.2 (by simp only [List.length_cons]; lia)
theorem dp_ok (xs : List Int) (hx : 0 < xs.length ∧ xs.length < 12) (hs : l.length ≤ 890) (hm : (l.length : Int) + 1 = m) : CallR (GG lo K) FF 9 true 239 [.hnd 4, saidV x] (cS st l (xs.map V.int)) (.ok .none) (cS st (l ++ opsV [.deed (saidV x)]) ((xs ++ [m]).map V.int) ++ disp) := by
 rw [← snocs_eq]
 exact .of G0_plain (fun n => dp_run xs hx) ⟨lenC_of (by rw [snocs_len]; exact Nat.le_trans (Nat.add_le_add_right hs _) (Nat.le_of_ble_eq_true rfl)) (by rw [snocs_len]; exact hm), blC_of (Nat.le_trans hs (by decide)), trivial⟩ trivial
end
def psS : Stmt := f234.body.getD 0 (.Pass pz)
def psCal (y : V) (st : V) (l pl l' pl' : List V) (g : Sto) : Cal := ⟨⟨9, true, 239, [.hnd 4, y], cS st l pl, .ok .none, cS st l' pl' ++ g⟩, jC, .ok .none, cS st l' pl' ++ g⟩
def rhoS (ss : V) : Option V → Loc
 | none => [(S "draft", .hnd 4), (S "statements", ss)]
 | some y => [(S "draft", .hnd 4), (S "statements", ss), (S "statement", y)]
structure Gb (g : Sto) : Prop where
 mp : ∀ n, g.map (O.mp (jof jC n)) = g
 tab : g.all (fun o => !isTab o) = true
 len : g.length ≤ 1000
theorem Gb.garb (x y z : Int) (b : Br) : Gb (garb x y z b) := by cases b <;> exact ⟨fun n => rfl, rfl, Nat.le_of_ble_eq_true rfl⟩
theorem Gb.disp : Gb disp := ⟨fun n => rfl, rfl, Nat.le_of_ble_eq_true rfl⟩
section
variable {lo : List Str} {K : Params → Frag} {n : Nat} {st v rows ss : V} {l l1 l' pl pl' : List V} {x y z m : Int} {g g' : Sto} {t : Option V}
theorem ps_turn (y : V) : turnX (GG lo K) FF (n + 9) f234 true [] 19 (S "statement") (bodyOf psS) y (rhoS ss t) ⟨cS st l pl, [], [psCal y st l pl l' pl' g], True⟩ = some (.ok (.next, rhoS ss (some y)), ⟨cS st l' pl' ++ g, [], [], CalC jC 9 (psCal y st l pl l' pl' g).o [.hnd 4, y] (cS st l pl) (.ok .none) (cS st l' pl' ++ g) ∧ True⟩) := by cases t <;> kernel_rfl
structure CF (st : V) (l pl : List V) : Prop where
 a : flatV st = true
 b : flatVs l = true
 c : flatVs pl = true
theorem CF.mp {n : Nat} (h : CF st l pl) : (cS st l pl).map (O.mp (jof jC n)) = cS st l pl := c_mp h.a h.b h.c
theorem calB_of {jl : List Nat} {o : Orc} {a' g : Sto} (e : o.a' = a' ++ g) (h : g.all (fun o => !isTab o) = true) (hl : (a' ++ g).length ≤ far) (hj : jl = List.range' 0 a'.length) : (Nat.ble o.a'.length far && tabsFix 0 jl o.a') = true := by
 rw [e, hj, tabsFix_pre h, Nat.ble_eq_true_of_le hl]; rfl
theorem cS_len : (cS st l pl).length = 9 := rfl
theorem Gb.far (h : Gb g) : (cS st l pl ++ g).length ≤ far := by rw [List.length_append, cS_len]; have := h.len; unfold Mine.far; lia
theorem c_calC {k : Nat} {f : Addr} {vs : List V} {r : Except Addr V} {n : Nat} (h : CF st l pl) (h' : CF st l' pl') (hg : Gb g) (hv : V.mps (jof jC n) vs = vs) (hr : r.map (V.mp (jof jC n)) = r) : CalC jC n ⟨k, true, f, vs, cS st l pl, r, cS st l' pl' ++ g⟩ vs (cS st l pl) r (cS st l' pl' ++ g) :=
 ⟨hv, h.mp, hr, by rw [List.map_append, h'.mp, hg.mp], calB_of rfl hg.tab hg.far rfl⟩
theorem c_emb (h : CF st l pl) (h' : CF st l' pl') (hg : Gb g) : Emb jC (cS st l pl) (cS st l' pl' ++ g) (cS st l pl ++ g') (cS st l' pl' ++ (g' ++ g)) :=
 Emb.pre (a := cS st l pl) (a1 := cS st l' pl') (new := g) (g := g') rfl hg.far hg.tab h.mp h'.mp (hg.mp _)
theorem Gb.app (h : Gb g) (h' : Gb g') (hl : (g ++ g').length ≤ 1000) : Gb (g ++ g') := ⟨fun n => by rw [List.map_append, h.mp, h'.mp], by rw [List.all_append, h.tab, h'.tab]; rfl, hl⟩
noncomputable def lastO (t : Option V) (y : V) : Option V := some y
theorem rhoS_mp {j : Nat → Nat} (h4 : j 4 = 4) (hs : flatV ss = true) (ht : ∀ y, t = some y → flatV y = true) : mpP j (rhoS ss t) = rhoS ss t := by
 cases t with
 | none => show [(_, V.hnd (j 4)), (_, V.mp j ss)] = _; rw [h4, flat_mp hs]; rfl
 | some y => show [(_, V.hnd (j 4)), (_, V.mp j ss), (_, V.mp j y)] = _; rw [h4, flat_mp hs, flat_mp (ht y rfl)]; rfl
theorem ps_go {y : V} (hy : flatV y = true) (hss : flatV ss = true) (ht : ∀ y, t = some y → flatV y = true) (h : CF st l pl) (h' : CF st l' pl') (hg : Gb g) (c : CallR (GG lo K) FF 9 true 239 [.hnd 4, y] (cS st l pl) (.ok .none) (cS st l' pl' ++ g)) :
  TurnR (GG lo K) FF (n + 9) f234 true [] 19 (S "statement") (bodyOf psS) y (rhoS ss t) (cS st l pl ++ g') (.ok (.next, rhoS ss (some y))) (cS st l' pl' ++ (g' ++ g)) := by
 have h1 : TurnR (GG lo K) FF (n + 9) f234 true [] 19 (S "statement") (bodyOf psS) y (rhoS ss t) (cS st l pl) (.ok (.next, rhoS ss (some y))) (cS st l' pl' ++ g) :=
  .of (fun N e => turn_tr G0_plain _ _ _ [] _ _ _ _ _) (ps_turn y) ⟨c_calC h h' hg (by show [_, V.mp _ y] = _; rw [flat_mp hy]; rfl) rfl, trivial⟩ ⟨c.orc, trivial⟩
 exact h1.emb (c_emb h h' hg) rfl (flat_mp hy) (rhoS_mp rfl hss ht) (congrArg Except.ok (congrArg (Prod.mk Fl.next) (rhoS_mp rfl hss fun z e => sInj e ▸ hy)))
theorem ps_ok {y1 y2 y3 : V} {l1 l2 l3 pl1 pl2 pl3 : List V} {g1 g2 g3 : Sto} (hy : flatVs [y1, y2, y3] = true) (h0 : CF st l pl) (h1 : CF st l1 pl1) (h2 : CF st l2 pl2) (h3 : CF st l3 pl3) (k1 : Gb g1) (k2 : Gb g2) (k3 : Gb g3)
  (c1 : CallR (GG lo K) FF 9 true 239 [.hnd 4, y1] (cS st l pl) (.ok .none) (cS st l1 pl1 ++ g1)) (c2 : CallR (GG lo K) FF 9 true 239 [.hnd 4, y2] (cS st l1 pl1) (.ok .none) (cS st l2 pl2 ++ g2)) (c3 : CallR (GG lo K) FF 9 true 239 [.hnd 4, y3] (cS st l2 pl2) (.ok .none) (cS st l3 pl3 ++ g3)) :
  CallR (GG lo K) FF 10 true 234 [.hnd 4, .tup [y1, y2, y3]] (cS st l pl) (.ok .none) (cS st l3 pl3 ++ (g1 ++ (g2 ++ g3))) := by
 have hy' := hy
 rw [flatVs, flatVs, flatVs, Bool.and_eq_true, Bool.and_eq_true, Bool.and_eq_true] at hy
 obtain ⟨f1, f2, f3, _⟩ := hy
 have so : ∀ {u : V}, flatV u = true → ∀ y, some u = some y → flatV y = true := fun h y e => sInj e ▸ h
 refine CallR.body (k := 9) (fl := .next) (fn := f234) (ρ := rhoS (.tup [y1, y2, y3]) none) (ρ' := rhoS (.tup [y1, y2, y3]) (some y3)) (by kernel_rfl) (by kernel_rfl) rfl (by kernel_rfl) (show f234.body = [psS] by kernel_rfl) fun n => ?_
 have t1 := ps_go (n := n) (ss := .tup [y1, y2, y3]) (t := none) (g' := []) f1 hy' (fun y e => noS e) h0 h1 k1 c1
 have t2 := ps_go (n := n) (ss := .tup [y1, y2, y3]) (t := some y1) (g' := g1) f2 hy' (so f1) h1 h2 k2 c2
 have t3 := ps_go (n := n) (ss := .tup [y1, y2, y3]) (t := some y2) (g' := g1 ++ g2) f3 hy' (so f2) h2 h3 k3 c3
 rw [List.append_assoc] at t3
 rw [List.append_nil] at t1
 exact .for (x := S "statement") (ie := iterOf psS) (l := bodyOf psS) (y := .tup [y1, y2, y3]) (it := .tup [y1, y2, y3]) (by kernel_rfl) (.of (fun N e => ex_tr G0_plain _ _ _ [] _ _) (show exX (GG lo K) FF (n + 9) f234 true [] (iterOf psS) (rhoS (.tup [y1, y2, y3]) none) ⟨cS st l pl, [], [], True⟩ = some (.ok (.tup [y1, y2, y3]), ⟨cS st l pl, [], [], True⟩) by kernel_rfl) trivial trivial) rfl
  (ForR.go (k := 4999) rfl t1 (ForR.go (k := 4998) rfl t2 (ForR.go (k := 4997) rfl t3 (ForR.over (k := 4996) rfl))))
end
noncomputable def valOf : Stmt → Expr
 | .Assign _ v _ => v
 | .Return (some v) _ => v
 | .Expr v _ => v
 | _ => default
noncomputable def argOf (i : Nat) : Expr → Expr
 | .Call _ es _ _ => es.getD i default
 | _ => default
noncomputable def funOf : Expr → Expr
 | .Call f _ _ _ => f
 | _ => default
noncomputable def eltOf : Expr → Expr
 | .ListComp e _ _ _ => e
 | _ => default
noncomputable def cscOf : Expr → Scope
 | .ListComp _ _ s _ => s
 | _ => default
noncomputable def itrOf : Expr → Expr
 | .ListComp _ [⟨_, i, _, _⟩] _ _ => i
 | _ => default
def finC : Expr := argOf 0 (valOf (f206.body.getD 0 (.Pass pz)))
def cF (st : V) (l pl : List V) : Sto := cS st l pl ++ [.cell (some (.hnd 4))]
def lamO : O := match argOf 1 (eltOf finC) with
 | .Lambda p b s _ => .lam p b s (f206.qual ++ ".<locals>." ++ "<lambda>") [(S "self", 9)]
 | _ => default
def reG : Sto := [lamO, .cell (some (.hnd 10))]
noncomputable def Op.re (f : Int → Int) : Op → Op
 | .push v L => .push v (f L)
 | .calc s L => .calc s (f L)
 | .put v L => .put v (f L)
 | .jump L => .jump (f L)
 | o => o
abbrev selfC : List (Str × Nat) := [(S "self", 9)]
section
variable {lo : List Str} {K : Params → Frag} {n : Nat} {st v : V} {l l1 pl : List V} {L L0 : Int}
def reX (lo : List Str) (K : Params → Frag) (n : Nat) (o : Op) (a : Sto) (ds : List (Nat × Dec)) := (evX (GG lo K) (callX (GG lo K) FF (n + 5)) f206 true 18).val true (cscOf finC) selfC [(S "op", opV o)] (eltOf finC) ⟨a, ds, [], True⟩
theorem re_push : reX lo K n (.push v L) (cF st l pl) [(17, .b true), (7, .v (.int L0))] = some (.ok (opV (.push v L0)), ⟨cF st l pl ++ reG, [], [], lget L pl = some (.int L0) ∧ (L != -1) = true ∧ True⟩) := by kernel_rfl
theorem re_calc (s : String) : reX lo K n (.calc s L) (cF st l pl) [(17, .b true), (7, .v (.int L0))] = some (.ok (opV (.calc s L0)), ⟨cF st l pl ++ reG, [], [], lget L pl = some (.int L0) ∧ (L != -1) = true ∧ True⟩) := by kernel_rfl
theorem re_put : reX lo K n (.put v L) (cF st l pl) [(17, .b true), (7, .v (.int L0))] = some (.ok (opV (.put v L0)), ⟨cF st l pl ++ reG, [], [], lget L pl = some (.int L0) ∧ (L != -1) = true ∧ True⟩) := by kernel_rfl
theorem re_jump : reX lo K n (.jump L) (cF st l pl) [(7, .v (.int L0))] = some (.ok (opV (.jump L0)), ⟨cF st l pl ++ reG, [], [], lget L pl = some (.int L0) ∧ True⟩) := by kernel_rfl
theorem re_deed : reX lo K n (.deed v) (cF st l pl) [] = some (.ok (opV (.deed v)), ⟨cF st l pl ++ reG, [], [], True⟩) := by kernel_rfl
theorem re_leave : reX lo K n .leave (cF st l pl) [] = some (.ok (opV .leave), ⟨cF st l pl ++ reG, [], [], True⟩) := by kernel_rfl
theorem re_stop : reX lo K n .stop (cF st l pl) [] = some (.ok (opV .stop), ⟨cF st l pl ++ reG, [], [], True⟩) := by kernel_rfl
noncomputable def Op.lab : Op → Option Int
 | .push _ L => some L
 | .calc _ L => some L
 | .put _ L => some L
 | .jump L => some L
 | _ => none
def LabOk (P : List Int) (o : Op) : Prop := ∀ L, o.lab = some L → 0 ≤ L ∧ L < P.length
noncomputable def plF (P : List Int) (L : Int) : Int := (P[L.toNat]?).getD 0
theorem lget_pl {P : List Int} (h : 0 ≤ L ∧ L < P.length) (hP : P.length ≤ 100) : lget L (P.map V.int) = some (.int (plF P L)) := by
 rw [lget_in h.1 (by rw [List.length_map]; exact h.2) (by rw [List.length_map]; lia), List.getElem?_map]
 have hi : L.toNat < P.length := by lia
 unfold plF
 rw [List.getElem?_eq_getElem hi]; rfl
abbrev ElR (lo : List Str) (K : Params → Frag) (n : Nat) (o : Op) (a : Sto) (r : Except Addr V) (a' : Sto) : Prop := Run V.mp (fun e => (evS (GG lo K) (callF (GG lo K) FF (n + 5)) f206 true 18).val true (cscOf finC) (mpC e selfC) (mpP e [(S "op", opV o)]) (eltOf finC)) a r a'
theorem el_of {o : Op} {ds : List (Nat × Dec)} {a a' : Sto} {cs : Prop} {r : Except Addr V} (h : reX lo K n o a ds = some (r, ⟨a', [], [], cs⟩)) (hc : cs) : ElR lo K n o a r a' :=
 .of (fun N e => (evX_tr G0_plain.1 (callX_tr G0_plain (n + 5)) 18).val true (cscOf finC) selfC [(S "op", opV o)] (eltOf finC)) h hc trivial
theorem el_ok {P : List Int} (hP : P.length ≤ 100) : ∀ {o : Op}, LabOk P o → ElR lo K n o (cF st l (P.map V.int)) (.ok (opV (o.re (plF P)))) (cF st l (P.map V.int) ++ reG)
 | .push v L, h => have h := h L rfl; el_of re_push ⟨lget_pl h hP, by simp; lia, trivial⟩
 | .calc s L, h => have h := h L rfl; el_of (re_calc s) ⟨lget_pl h hP, by simp; lia, trivial⟩
 | .put v L, h => have h := h L rfl; el_of re_put ⟨lget_pl h hP, by simp; lia, trivial⟩
 | .jump L, h => have h := h L rfl; el_of re_jump ⟨lget_pl h hP, trivial⟩
 | .deed v, _ => el_of re_deed trivial
 | .leave, _ => el_of re_leave trivial
 | .stop, _ => el_of re_stop trivial
def noTab (g : Sto) : Bool := g.all fun o => !isTab o
theorem noTab_map {j : Nat → Nat} {g : Sto} (h : noTab g = true) : noTab (g.map (O.mp j)) = true := by
 unfold noTab at *
 rw [List.all_map, List.all_eq_true] at *
 intro o ho
 have := h o ho
 cases o <;> first | rfl | exact this
theorem noTab_app {g g' : Sto} (h : noTab g = true) (h' : noTab g' = true) : noTab (g ++ g') = true := by
 unfold noTab at *; rw [List.all_append, h, h']; rfl
theorem cF_mp {n : Nat} {jl : List Nat} (h : CF st l pl) : (cF st l pl).map (O.mp (jof (0 :: 1 :: 2 :: 3 :: 4 :: 5 :: 6 :: 7 :: 8 :: 9 :: jl) n)) = cF st l pl := by
 show [lamT, O.inst 688 [_, _, (_, V.mp _ st)], _, _, _, _, O.list (V.mps _ l), O.list (V.mps _ pl), _, _] = _
 rw [flat_mp h.a, flat_mps h.b, flat_mps h.c]; rfl
theorem cF_emb {g new : Sto} (h : CF st l pl) (ht : noTab new = true) (hl : new.length ≤ 1000) : Emb (List.range' 0 10) (cF st l pl) (cF st l pl ++ new) (cF st l pl ++ g) (cF st l pl ++ (g ++ new.map (O.mp (jof (List.range' 0 10) (cF st l pl ++ g).length)))) :=
 Emb.pre (a := cF st l pl) (a1 := cF st l pl) (new := new) (g := g) rfl (by rw [List.length_append]; show 10 + new.length ≤ far; unfold Mine.far; lia) ht (cF_mp h) (cF_mp h) rfl
theorem Op.Ok.re (f : Int → Int) {o : Op} (h : o.Ok) : (o.re f).Ok := by cases o <;> exact h
def finMe (lo : List Str) (K : Params → Frag) (n : Nat) (e : Nat → Nat) (ρ : Loc) : M V := (evS (GG lo K) (callF (GG lo K) FF (n + 5)) f206 true 18).val true (cscOf finC) (mpC e selfC) ρ (eltOf finC)
theorem fin_comp {P : List Int} (hP : P.length ≤ 100) : ∀ (L2 L1 : List Op) (g : Sto) (acc : List V), CF st (opsV (L1 ++ L2)) (P.map V.int) → OpsOk L2 → (∀ o ∈ L2, LabOk P o) → noTab g = true → acc.length + L2.length ≤ 900 →
  ∃ g', noTab g' = true ∧ g'.length = g.length + 2 * L2.length ∧ ∀ k n, CompR (S "op") (finMe lo K n) (.lst 6) (L2.length + 1 + k) L1.length acc (cF st (opsV (L1 ++ L2)) (P.map V.int) ++ g) (.ok (acc ++ opsV (L2.map (Op.re (plF P))))) (cF st (opsV (L1 ++ L2)) (P.map V.int) ++ g')
 | [], L1, g, acc, hF, hok, hlab, hg, hl => ⟨g, hg, rfl, fun k n => by
   rw [show ([] : List Op).length + 1 + k = k + 1 by simp; lia, show acc ++ opsV (List.map (Op.re (plF P)) []) = acc by simp [opsV]]
   refine .over ?_
   show some (opsV (L1 ++ []))[L1.length]? = _
   rw [List.append_nil, List.getElem?_eq_none (by simp [opsV])]⟩
 | o :: L2, L1, g, acc, hF, hok, hlab, hg, hl => by
  have e1 : L1 ++ o :: L2 = (L1 ++ [o]) ++ L2 := by simp
  have hl : acc.length + (L2.length + 1) ≤ 900 := hl
  obtain ⟨g', h1, h2, h3⟩ := fin_comp hP L2 (L1 ++ [o]) (g ++ reG.map (O.mp (jof (List.range' 0 10) (cF st (opsV (L1 ++ o :: L2)) (P.map V.int) ++ g).length))) (acc ++ [opV (o.re (plF P))]) (e1 ▸ hF) (fun p hp => hok p (List.mem_cons_of_mem _ hp)) (fun p hp => hlab p (List.mem_cons_of_mem _ hp)) (noTab_app hg (noTab_map rfl)) (by rw [List.length_append, List.length_singleton]; lia)
  refine ⟨g', h1, by rw [h2, List.length_append, List.length_map, List.length_cons]; show g.length + 2 + _ = _; lia, fun k n => ?_⟩
  have h4 := h3 k n
  rw [← e1, List.length_append, List.length_singleton, List.append_assoc] at h4
  rw [show (o :: L2).length + 1 + k = L2.length + 1 + k + 1 by rw [List.length_cons]; lia]
  have f1 := Op.flat (hok o List.mem_cons_self)
  have f2 := Op.flat ((hok o List.mem_cons_self).re (plF P))
  refine .go (y := opV o) ?_ ((el_ok (lo := lo) (K := K) (n := n) hP (hlab o List.mem_cons_self)).emb (cF_emb hF rfl (Nat.le_of_ble_eq_true rfl)) (fun e => ?_) (fun e => ?_)) (by unfold sizeLine; lia) h4
  ·show some (opsV (L1 ++ o :: L2))[L1.length]? = _
   rw [opsV, List.map_append, List.getElem?_append_right (by simp)]; simp
  ·show (evS (GG lo K) (callF (GG lo K) FF (n + 5)) f206 true 18).val true (cscOf finC) [(S "self", e 9)] [(S "op", (opV o).mp e)] (eltOf finC) = (evS (GG lo K) (callF (GG lo K) FF (n + 5)) f206 true 18).val true (cscOf finC) [(S "self", e 9)] [(S "op", (opV o).mp _)] (eltOf finC)
   rw [flat_mp f1, flat_mp f1]
  ·exact congrArg Except.ok ((flat_mp f2).trans (flat_mp f2).symm)
def codeI (out : List V) : O := .inst 138 [(S "ops", .tup out), (S "begins", .tup [.int 0])]
theorem fin_src : (evX (GG lo K) (callX (GG lo K) FF (n + 6)) f206 true 18).val false f206.sc selfC [] (itrOf finC) ⟨cF st l pl, [], [], True⟩ = some (.ok (.hnd 6), ⟨cF st l pl, [], [], True⟩) := by kernel_rfl
theorem fin_it : blkX (GG lo K) FF (n + 6) f206 true selfC deep (f206.body.drop 1) [(S "ops", .tup l1)] ⟨cF st l (.int 0 :: pl), [(1, .v (.int 0))], [], True⟩ = some (.ok (.ret (.hnd 11), [(S "ops", .tup l1)]), ⟨cF st l (.int 0 :: pl) ++ [.list [.int 0], codeI l1], [], [], lget 0 (.int 0 :: pl) = some (.int 0) ∧ True⟩) := by kernel_rfl
theorem fin_ok {L : List Op} {P : List Int} (h0 : CF st (opsV L) ((0 :: P).map V.int)) (hP : (0 :: P).length ≤ 100) (hok : OpsOk L) (hlab : ∀ o ∈ L, LabOk (0 :: P) o) (hl : L.length ≤ 400) :
  ∃ g H, noTab g = true ∧ g.length ≤ 900 ∧ g[H]? = some (codeI (opsV (L.map (Op.re (plF (0 :: P)))))) ∧ CallR (GG lo K) FF 7 true 206 [.hnd 4] (cS st (opsV L) ((0 :: P).map V.int)) (.ok (.hnd (9 + H))) (cS st (opsV L) ((0 :: P).map V.int) ++ g) := by
 obtain ⟨g', h1, h2, h3⟩ := fin_comp (lo := lo) (K := K) hP L [] [] [] h0 hok hlab rfl (by show 0 + L.length ≤ 900; lia)
 have h2 : g'.length = 2 * L.length := h2.trans (Nat.zero_add _)
 have hout : (opsV (L.map (Op.re (plF (0 :: P))))).length = L.length := by simp [opsV]
 have fout : flatVs (opsV (L.map (Op.re (plF (0 :: P))))) = true := OpsOk.flat fun o ho => by
  obtain ⟨p, hp, rfl⟩ := List.mem_map.mp ho
  exact (hok p hp).re _
 generalize opsV (L.map (Op.re (plF (0 :: P)))) = out at h3 hout fout ⊢
 let a : Sto := cF st (opsV L) ((0 :: P).map V.int)
 have b1 : ∀ n, BlkR (GG lo K) FF (n + 6) f206 true selfC deep [f206.body.getD 0 (.Pass pz)] [] a (.ok (.next, [(S "ops", .tup out)])) (a ++ (g' ++ [.list out])) := fun n => by
  have c0 := h3 (turns - (L.length + 1)) (n + 1)
  rw [show L.length + 1 + (turns - (L.length + 1)) = turns by unfold turns; lia] at c0
  have e1 : ExR (GG lo K) FF (n + 6) f206 true selfC 19 finC [] a (.ok (.hnd (a ++ g').length)) (a ++ g' ++ [.list out]) := .comp (iter := itrOf finC) (y := S "op") (csc := cscOf finC) (CL' := selfC) (u := .hnd 6) (it := .lst 6) (by kernel_rfl) (fun e => by kernel_rfl) (.of (fun N e => (evX_tr G0_plain.1 (callX_tr G0_plain (n + 6)) 18).val false f206.sc selfC [] (itrOf finC)) fin_src trivial trivial) rfl c0
  rw [List.append_assoc] at e1
  exact .asN (ex := valOf (f206.body.getD 0 (.Pass pz))) (by kernel_rfl) (by kernel_rfl) (.tuple (fe := funOf (valOf (f206.body.getD 0 (.Pass pz)))) (by kernel_rfl) (fun e b => by kernel_rfl) e1 (by simp) (by lia))
 let g := g' ++ [.list out]
 have b2 : ∀ n, BlkR (GG lo K) FF (n + 6) f206 true selfC deep (f206.body.drop 1) [(S "ops", .tup out)] (a ++ g) (.ok (.ret (.hnd (10 + g.length + 1)), [(S "ops", .tup out)])) (a ++ (g ++ ([.list [.int 0], codeI out] : Sto).map (O.mp (jof (List.range' 0 10) (a ++ g).length)))) := fun n =>
  BlkR.emb (.of G0_plain fin_it ⟨lget_pl (P := 0 :: P) ⟨Int.le_refl _, by rw [List.length_cons]; lia⟩ hP, trivial⟩ trivial) (cF_emb h0 rfl (Nat.le_of_ble_eq_true rfl)) rfl (by show [(_, V.tup (V.mps _ out))] = _; rw [flat_mps fout]) (by show Except.ok (Fl.ret (.hnd ((a ++ g).length + 1)), [(_, V.tup (V.mps _ out))]) = _; rw [flat_mps fout, List.length_append]; rfl)
 refine ⟨.cell (some (.hnd 4)) :: (g ++ ([.list [.int 0], codeI out] : Sto).map (O.mp (jof (List.range' 0 10) (a ++ g).length))), 1 + g.length + 1, ?_, ?_, ?_, ?_⟩
 ·exact noTab_app (g := [.cell _]) rfl (noTab_app (noTab_app h1 rfl) (noTab_map rfl))
 ·rw [List.length_cons, List.length_append, List.length_append, List.length_map]; show g'.length + 1 + 2 + 1 ≤ 900; lia
 ·rw [show 1 + g.length + 1 = g.length + 1 + 1 by lia, List.getElem?_cons_succ, List.getElem?_append_right (by lia), Nat.add_sub_cancel_left]
  show some (O.inst 138 [(_, V.tup (V.mps _ out)), _]) = _
  rw [flat_mps fout]; rfl
 ·have b3 : ∀ n, BlkR (GG lo K) FF (n + 6) f206 true (clV [S "self"] (cS st (opsV L) ((0 :: P).map V.int)).length) deep ([f206.body.getD 0 (.Pass pz)] ++ f206.body.drop 1) [] (cS st (opsV L) ((0 :: P).map V.int) ++ [.cell (some (.hnd 4))]) (.ok (.ret (.hnd (10 + g.length + 1)), [(S "ops", .tup out)])) (a ++ (g ++ ([.list [.int 0], codeI out] : Sto).map (O.mp (jof (List.range' 0 10) (a ++ g).length)))) := fun n => (b1 n).app (b2 n)
  have := CallR.bodyC (k := 6) (q := true) (f := 206) (F := FF) (fn := f206) (vs := [.hnd 4]) (ρ := []) (cs := [S "self"]) (cv := [.cell (some (.hnd 4))]) (by kernel_rfl) (by kernel_rfl) rfl (by kernel_rfl) (by kernel_rfl) (show f206.body = [f206.body.getD 0 (.Pass pz)] ++ f206.body.drop 1 by kernel_rfl) b3
  rw [show a ++ (g ++ _) = cS st (opsV L) ((0 :: P).map V.int) ++ (.cell (some (.hnd 4)) :: (g ++ _)) from List.append_assoc _ _ _, show (10 + g.length + 1) = 9 + (1 + g.length + 1) by lia] at this
  exact this
end
def cpS : Stmt := f326.body.getD 1 (.Pass pz)
def rhoC : Option V → Loc
 | none => [(S "procedures", .hnd 3), (S "draft", .hnd 4)]
 | some y => [(S "procedures", .hnd 3), (S "draft", .hnd 4), (S "at", y)]
def psC2 (ss : List V) (l pl l' pl' : List V) (g : Sto) : Cal := ⟨⟨10, true, 234, [.hnd 4, .tup ss], cS (.tup ss) l pl, .ok .none, cS (.tup ss) l' pl' ++ g⟩, jC, .ok .none, cS (.tup ss) l' pl' ++ g⟩
def finO (ss : List V) (l pl : List V) (g : Sto) (H : Nat) : Cal := ⟨⟨7, true, 206, [.hnd 4], cS (.tup ss) l pl, .ok (.hnd (9 + H)), cS (.tup ss) l pl ++ g⟩, jC, .ok (.hnd (9 + H)), cS (.tup ss) l pl ++ g⟩
section
variable {lo : List Str} {K : Params → Frag} {n : Nat} {ss l l' l1 pl pl' : List V} {g : Sto} {H : Nat}
theorem cp_a : blkX (GG lo K) FF (n + 11) f326 true [] deep (f326.body.take 1) [(S "procedures", .hnd 3)] ⟨cP (.tup ss), [], [], True⟩ = some (.ok (.next, rhoC none), ⟨cS (.tup ss) [] [.int (-1)], [], [], True⟩) := by kernel_rfl
theorem cp_it : exX (GG lo K) FF (n + 11) f326 true [] (iterOf cpS) (rhoC none) ⟨cS (.tup ss) [] [.int (-1)], [], [], True⟩ = some (.ok (.rng 0 1 1), ⟨cS (.tup ss) [] [.int (-1)], [], [], True⟩) := by kernel_rfl
theorem cp_here : turnX (GG lo K) FF (n + 11) f326 true [] 19 (S "at") ((bodyOf cpS).take 1) (.int 0) (rhoC none) ⟨cS (.tup ss) [] [.int (-1)], [], [], True⟩ = some (.ok (.next, rhoC (some (.int 0))), ⟨cS (.tup ss) [] [.int 0], [], [], True⟩) := by kernel_rfl
theorem cp_ps : blkX (GG lo K) FF (n + 11) f326 true [] 19 (((bodyOf cpS).drop 1).take 1) (rhoC (some (.int 0))) ⟨cS (.tup ss) l pl, [], [psC2 ss l pl l' pl' g], True⟩ = some (.ok (.next, rhoC (some (.int 0))), ⟨cS (.tup ss) l' pl' ++ g, [], [], CalC jC 9 (psC2 ss l pl l' pl' g).o [.hnd 4, .tup ss] (cS (.tup ss) l pl) (.ok .none) (cS (.tup ss) l' pl' ++ g) ∧ True⟩) := by kernel_rfl
theorem cp_leave : blkX (GG lo K) FF (n + 11) f326 true [] 19 ((bodyOf cpS).drop 2) (rhoC (some (.int 0))) ⟨cS (.tup ss) l pl, [(0, .b true)], [], True⟩ = some (.ok (.next, rhoC (some (.int 0))), ⟨cS (.tup ss) (l ++ [opV .leave]) pl, [], [], blC l ∧ True⟩) := by kernel_rfl
theorem cp_stop : blkX (GG lo K) FF (n + 11) f326 true [] deep ((f326.body.drop 2).take 1) (rhoC (some (.int 0))) ⟨cS (.tup ss) l pl, [(0, .b true)], [], True⟩ = some (.ok (.next, rhoC (some (.int 0))), ⟨cS (.tup ss) (l ++ [opV .stop]) pl, [], [], blC l ∧ True⟩) := by kernel_rfl
theorem cp_ret : blkX (GG lo K) FF (n + 11) f326 true [] deep (f326.body.drop 3) (rhoC (some (.int 0))) ⟨cS (.tup ss) l pl, [], [finO ss l pl g H], True⟩ = some (.ok (.ret (.hnd (9 + H)), rhoC (some (.int 0))), ⟨cS (.tup ss) l pl ++ g, [], [], CalC jC 9 (finO ss l pl g H).o [.hnd 4] (cS (.tup ss) l pl) (.ok (.hnd (9 + H))) (cS (.tup ss) l pl ++ g) ∧ True⟩) := by kernel_rfl
theorem c_emb0 {st : V} (h : CF st l pl) (h' : CF st l' pl') : Emb jC (cS st l pl) (cS st l' pl') (cS st l pl ++ g) (cS st l' pl' ++ g) := by
 have := c_emb (g := []) (g' := g) h h' ⟨fun n => rfl, rfl, Nat.zero_le _⟩
 rw [List.append_nil, List.append_nil] at this; exact this
theorem rhoC_mp {j : Nat → Nat} (h3 : j 3 = 3) (h4 : j 4 = 4) : mpP j (rhoC (some (.int 0))) = rhoC (some (.int 0)) := by
 show [(_, V.hnd (j 3)), (_, V.hnd (j 4)), _] = _; rw [h3, h4]; rfl
noncomputable abbrev endO (L : List Op) : List Op := L ++ [Op.leave, Op.stop]
abbrev endF (L : List Op) (P : List Int) : List Op := (endO L).map (Op.re (plF (0 :: P)))
theorem endO_ok {L : List Op} (h : OpsOk L) : OpsOk (endO L) := h.app fun o ho => by
 rcases List.mem_cons.mp ho with rfl | ho
 ·trivial
 ·exact List.mem_singleton.mp ho ▸ trivial
theorem cp_ok {L : List Op} {P : List Int} (hss : flatVs ss = true) (fL : OpsOk L) (hlab : ∀ o ∈ endO L, LabOk (0 :: P) o) (hP : (0 :: P).length ≤ 100) (hL : L.length ≤ 300) (hg : Gb g)
  (c : CallR (GG lo K) FF 10 true 234 [.hnd 4, .tup ss] (cS (.tup ss) [] [.int 0]) (.ok .none) (cS (.tup ss) (opsV L) ((0 :: P).map V.int) ++ g)) :
  ∃ g2 H, noTab g2 = true ∧ g2.length ≤ 3000 ∧ g2[H]? = some (codeI (opsV (endF L P))) ∧ CallR (GG lo K) FF 12 true 326 [.hnd 3] (cP (.tup ss)) (.ok (.hnd (4 + H))) (cP (.tup ss) ++ g2) := by
 have hl : ∀ os : List Op, (opsV os).length = os.length := fun os => by simp [opsV]
 have fP : flatVs ((0 :: P).map V.int) = true := flat_is _
 have e3 : opsV (endO L) = opsV L ++ [opV .leave] ++ [opV .stop] := by simp [opsV, endO]
 have F1 : CF (.tup ss) (opsV L) ((0 :: P).map V.int) := ⟨hss, fL.flat, fP⟩
 have F2 : CF (.tup ss) (opsV L ++ [opV .leave]) ((0 :: P).map V.int) := ⟨hss, flat_app fL.flat rfl, fP⟩
 have F3 : CF (.tup ss) (opsV (endO L)) ((0 :: P).map V.int) := ⟨hss, (endO_ok fL).flat, fP⟩
 obtain ⟨gf, H, q1, q2, q3, q4⟩ := fin_ok (lo := lo) (K := K) F3 hP (endO_ok fL) hlab (by rw [List.length_append]; show L.length + 2 ≤ 400; lia)
 let N := (cS (.tup ss) (opsV (endO L)) ((0 :: P).map V.int) ++ g).length
 have hgf : (gf.map (O.mp (jof jC N)))[H]? = some (codeI (opsV (endF L P))) := by
  rw [List.getElem?_map, q3]
  show some (O.inst 138 [(_, V.tup (V.mps _ (opsV _))), _]) = _
  rw [flat_mps (OpsOk.flat fun o ho => by obtain ⟨p, hp, rfl⟩ := List.mem_map.mp ho; exact (endO_ok fL p hp).re _)]; rfl
 have rm : ∀ {j : Nat → Nat}, j 3 = 3 → j 4 = 4 → (Except.ok (Fl.next, rhoC (some (.int 0))) : Except Addr (Fl × Loc)).map (mpF j) = .ok (.next, rhoC (some (.int 0))) := fun h3 h4 => congrArg Except.ok (congrArg (Prod.mk Fl.next) (rhoC_mp h3 h4))
 have b1 : ∀ n, BlkR (GG lo K) FF (n + 11) f326 true [] deep [cpS] (rhoC none) (cS (.tup ss) [] [.int (-1)]) (.ok (.next, rhoC (some (.int 0)))) (cS (.tup ss) (opsV L ++ [opV .leave]) ((0 :: P).map V.int) ++ g) := fun n => by
  have t1 : TurnR (GG lo K) FF (n + 11) f326 true [] 19 (S "at") ((bodyOf cpS).take 1) (.int 0) (rhoC none) (cS (.tup ss) [] [.int (-1)]) (.ok (.next, rhoC (some (.int 0)))) (cS (.tup ss) [] [.int 0]) := .of (fun N e => turn_tr G0_plain _ _ _ [] _ _ _ _ _) cp_here trivial trivial
  have t2 : BlkR (GG lo K) FF (n + 11) f326 true [] 19 (((bodyOf cpS).drop 1).take 1) (rhoC (some (.int 0))) (cS (.tup ss) [] [.int 0]) (.ok (.next, rhoC (some (.int 0)))) (cS (.tup ss) (opsV L) ((0 :: P).map V.int) ++ g) := .of G0_plain cp_ps ⟨calC_id (m := 9) rfl (by decide) (calB_of rfl hg.tab hg.far rfl), trivial⟩ ⟨c.orc, trivial⟩
  have t3 : BlkR (GG lo K) FF (n + 11) f326 true [] 19 ((bodyOf cpS).drop 2) (rhoC (some (.int 0))) (cS (.tup ss) (opsV L) ((0 :: P).map V.int)) (.ok (.next, rhoC (some (.int 0)))) (cS (.tup ss) (opsV L ++ [opV .leave]) ((0 :: P).map V.int)) := .of G0_plain cp_leave ⟨blC_of (by rw [hl]; lia), trivial⟩ trivial
  have t4 := t1.app (t2.app (t3.emb (c_emb0 (g := g) F1 F2) rfl (rhoC_mp rfl rfl) (rm rfl rfl)))
  exact .for (x := S "at") (ie := iterOf cpS) (l := (bodyOf cpS).take 1 ++ (((bodyOf cpS).drop 1).take 1 ++ (bodyOf cpS).drop 2)) (y := .rng 0 1 1) (it := .rng 0 1 1) (by kernel_rfl) (.of (fun N e => ex_tr G0_plain _ _ _ [] _ _) cp_it trivial trivial) (rng_it (by decide) (by decide)) (ForR.go (k := 4999) rfl t4 (ForR.over (k := 4998) rfl))
 have b2 : ∀ n, BlkR (GG lo K) FF (n + 11) f326 true [] deep ((f326.body.drop 2).take 1) (rhoC (some (.int 0))) (cS (.tup ss) (opsV L ++ [opV .leave]) ((0 :: P).map V.int)) (.ok (.next, rhoC (some (.int 0)))) (cS (.tup ss) (opsV (endO L)) ((0 :: P).map V.int)) := fun n => by
  rw [e3]; exact .of G0_plain cp_stop ⟨blC_of (by rw [List.length_append, hl]; show L.length + 1 ≤ 900; lia), trivial⟩ trivial
 have b3 : ∀ n, BlkR (GG lo K) FF (n + 11) f326 true [] deep (f326.body.drop 3) (rhoC (some (.int 0))) (cS (.tup ss) (opsV (endO L)) ((0 :: P).map V.int)) (.ok (.ret (.hnd (9 + H)), rhoC (some (.int 0)))) (cS (.tup ss) (opsV (endO L)) ((0 :: P).map V.int) ++ gf) := fun n =>
  .of G0_plain cp_ret ⟨calC_id (m := 9) rfl (by decide) (calB_of rfl q1 (by rw [List.length_append, cS_len]; unfold far; lia) rfl), trivial⟩ ⟨q4.orc, trivial⟩
 have hH := (List.getElem?_eq_some_iff.mp q3).1
 have b4 : ∀ n, BlkR (GG lo K) FF (n + 11) f326 true [] deep (f326.body.drop 3) (rhoC (some (.int 0))) (cS (.tup ss) (opsV (endO L)) ((0 :: P).map V.int) ++ g) (.ok (.ret (.hnd (4 + (5 + g.length + H))), rhoC (some (.int 0)))) (cS (.tup ss) (opsV (endO L)) ((0 :: P).map V.int) ++ (g ++ gf.map (O.mp (jof jC N)))) := fun n =>
  (b3 n).emb (Emb.pre (a := cS (.tup ss) (opsV (endO L)) ((0 :: P).map V.int)) (a1 := cS (.tup ss) (opsV (endO L)) ((0 :: P).map V.int)) (new := gf) (g := g) rfl (by rw [List.length_append, cS_len]; unfold far; lia) q1 F3.mp F3.mp rfl) rfl (rhoC_mp rfl rfl) (by
   show Except.ok (Fl.ret (.hnd (jof jC N (9 + H))), mpP _ _) = _
   rw [rhoC_mp rfl rfl, jof_new (by show 9 ≤ 9 + H; lia) (by unfold far; lia), show N + (9 + H - jC.length) = 4 + (5 + g.length + H) by
    show (cS _ _ _ ++ g).length + (9 + H - 9) = _
    rw [List.length_append, cS_len]; lia])
 have b0 : ∀ n, BlkR (GG lo K) FF (n + 11) f326 true [] deep (f326.body.take 1) [(S "procedures", .hnd 3)] (cP (.tup ss)) (.ok (.next, rhoC none)) (cS (.tup ss) [] [.int (-1)]) := fun n => .of G0_plain cp_a trivial trivial
 have b5 : ∀ n, BlkR (GG lo K) FF (n + 11) f326 true [] deep (f326.body.take 1 ++ ([cpS] ++ ((f326.body.drop 2).take 1 ++ f326.body.drop 3))) [(S "procedures", .hnd 3)] (cP (.tup ss)) (.ok (.ret (.hnd (4 + (5 + g.length + H))), rhoC (some (.int 0)))) _ := fun n => (b0 n).app ((b1 n).app (((b2 n).emb (c_emb0 (g := g) F2 F3) rfl (rhoC_mp rfl rfl) (rm rfl rfl)).app (b4 n)))
 let X : Sto := [.inst 209 [(S "procedures", .hnd 3), (S "ops", .hnd 6), (S "places", .hnd 7), (S "slots", .int 0), (S "heads", .hnd 8)], .cell (some (.hnd 4)), .list (opsV (endO L)), .list ((0 :: P).map V.int), .list [.int 0]]
 refine ⟨X ++ (g ++ gf.map (O.mp (jof jC N))), 5 + g.length + H, noTab_app rfl (noTab_app hg.tab (noTab_map q1)), ?_, ?_, ?_⟩
 ·have := hg.len
  rw [List.length_append, List.length_append, List.length_map]; show 5 + _ ≤ 3000; lia
 ·rw [List.getElem?_append_right (show X.length ≤ 5 + g.length + H by show 5 ≤ 5 + g.length + H; lia), show 5 + g.length + H - X.length = g.length + H by show 5 + g.length + H - 5 = _; lia, List.getElem?_append_right (Nat.le_add_right ..), Nat.add_sub_cancel_left]
  exact hgf
 ·have := CallR.body (k := 11) (q := true) (f := 326) (F := FF) (fn := f326) (vs := [.hnd 3]) (by kernel_rfl) (by kernel_rfl) rfl (by kernel_rfl) (show f326.body = f326.body.take 1 ++ ([cpS] ++ ((f326.body.drop 2).take 1 ++ f326.body.drop 3)) by kernel_rfl) b5
  rw [← List.append_assoc]
  exact this
end
def lamE (i : Nat) (cl : List (Str × Nat)) (e : Expr) : O := match argOf i e with
 | .Lambda p b s _ => .lam p b s (f805.qual ++ ".<locals>." ++ "<lambda>") cl
 | _ => default
def isDeeds : Stmt → Bool
 | .Assign _ (.Call (.Name x _) _ _ _) _ => x == S "Deeds"
 | _ => false
def dS : Expr := valOf ((f805.body.find? isDeeds).getD (.Pass pz))
structure Fix where
 out : List V
 w : Num
 full : Bool
def rP (c : Fix) (log : List V) : Sto := [codeI c.out, .inst 31 [(S "do", .hnd 2), (S "test", .none), (S "number", .hnd 3), (S "put", .hnd 4)], lamE 0 [(S "log", 6)] dS, lamE 2 [(S "numbers", 7), (S "log", 6)] dS, lamE 3 [(S "log", 6), (S "full", 5)] dS, .cell (some (.bool c.full)), .cell (some (.hnd 8)), .cell (some (.hnd 9)), .list log, numD c.w]
set_option genCtorIdx true in
inductive Sk where
 | z (s : List V)
 | a (j s : List V)
 | b (j i s : List V)
noncomputable def Sk.h : Sk → Nat
 | .z _ => 11
 | .a _ _ => 16
 | .b _ _ _ => 17
noncomputable def Sk.l0 : Sk → List V
 | .z s => s
 | .a j _ => j
 | .b j _ _ => j
noncomputable def Sk.tl : Sk → Sto
 | .z _ => []
 | .a _ s => [.list s]
 | .b _ i s => [.list i, .list s]
noncomputable def Sk.st : Sk → List V
 | .z s => s
 | .a _ s => s
 | .b _ _ s => s
noncomputable def Sk.put (s : List V) : Sk → Sk
 | .z _ => .z s
 | .a j _ => .a j s
 | .b j i _ => .b j i s
structure AS where
 sk : Sk
 at_ : Int
 word : String
 log : List V
 steps : Int
 op : Option V
def tabS : O := .sdict [(S "push", .glob 573), (S "calc", .glob 573), (S "put", .glob 580), (S "do", .glob 587), (S "key", .glob 594), (S "test", .glob 601), (S "jump", .glob 608), (S "choose", .glob 615), (S "perform", .glob 622), (S "leave", .glob 629), (S "count", .glob 636), (S "less", .glob 643), (S "stop", .glob 650)]
def mS (c : Fix) (A : AS) : Sto := rP c A.log ++ ([.inst 548 [(S "code", .hnd 0), (S "deeds", .hnd 1), (S "place", .int A.at_), (S "stack", .hnd A.sk.h), (S "frames", .hnd 14), (S "key", s_ ""), (S "word", s_ A.word)], .list A.sk.l0, .inst 520 [(S "last", .int (-1)), (S "behind", .int (-1)), (S "slots", .hnd 13)], .sdict [], .list [.hnd 12], tabS] ++ A.sk.tl)
def mR (A : AS) : Loc := [(S "code", .hnd 0), (S "deeds", .hnd 1), (S "limit", .int 600), (S "machine", .hnd 10), (S "table", .hnd 15), (S "steps", .int A.steps)] ++ match A.op with
 | none => []
 | some y => [(S "op", y)]
def mW : Stmt := f664.body.getD 3 (.Pass pz)
noncomputable def Sk.up : Sk → Sk
 | .z s => .a s []
 | .a j s => .b j s []
 | .b j i s => .b j i s
noncomputable def Sk.two : Sk → Bool
 | .b _ _ _ => true
 | _ => false
noncomputable def Sk.k : Sk → Nat
 | .z _ => 16
 | .a _ _ => 17
 | .b _ _ _ => 18
abbrev stepX (lo : List Str) (K : Params → Frag) (n : Nat) (c : Fix) (A : AS) (ds : List (Nat × Dec)) (dc : List Cal) := whX (GG lo K) FF (n + 12) f664 true [] 19 (testOf mW) (bodyOf mW) (mR A) ⟨mS c A, ds, dc, True⟩
def nuM (v : V) (w : Num) (l : List V) (r : Option Dc) (l' : List V) : Cal := ⟨⟨2, true, 765, [v, .hnd 0, .hnd 1], lawS w l, exV r, lawS w l'⟩, [9, 8], exV r, lawS w l'⟩
abbrev nuC (n : Nat) (v : V) (w : Num) (l : List V) (r : Option Dc) (l' : List V) : Prop := CalC [9, 8] n (nuM v w l r l').o [v, .hnd 9, .hnd 8] [.list l, numD w].reverse (exV r) (lawS w l')
def calO (o : Bo) (x y : Dc) (r : Option Dc) : Cal := pure_ 9 559 [s_ o.str, pv x, pv y] (exV r)
def pre (len : Int) (op : Op) : List (Nat × Dec) := [(2, .v (.int len)), (1, .b false), (1, .b false), (0, .v (opV op))]
def preC (c : Fix) (a steps len : Int) (op : Op) : Prop := lget a c.out = some (opV op) ∧ decide (600 ≤ steps) = false ∧ decide (len ≤ a) = false ∧ biV true (.bi "len") [.tup c.out] [] = some (.int len) ∧ True
def popC (t s : List V) (y : V) : Prop := popF 0 [.list t] = some (.tup [.lstK s, y])
def negC (o : Bo) : Prop := (cmpX .Eq (s_ o.str) (s_ "neg") []).map V.bool = some (.bool false)
def okS (A : AS) (c : Fix) (cs : Prop) : Option (Except Addr (Fl × Loc) × XS) := some (.ok (.next, mR A), ⟨mS c A, [], [], cs⟩)
section
variable {lo : List Str} {K : Params → Frag} {n : Nat} {c : Fix} {sk : Sk} {a steps len L : Int} {log l' s s1 : List V} {t : Option V} {v op : V} {x y : Dc}
theorem s_push : stepX lo K n c ⟨sk, a, "", log, steps, t⟩ (pre len (.push v L) ++ [(6, .b true)]) [nuM v c.w log (some x) l'] = okS ⟨sk.put (sk.st ++ [pv x]), a + 1, "", l', steps + 1, some (opV (.push v L))⟩ c (blC sk.st ∧ nuC sk.k v c.w log (some x) l' ∧ preC c a steps len (.push v L)) := by
 cases sk <;> cases t <;> kernel_rfl
theorem s_pushX (h : sk.two = false) : stepX lo K n c ⟨sk, a, "", log, steps, t⟩ (pre len (.push v L) ++ [(8, .b false)]) [nuM v c.w log none l'] = okS ⟨sk.up, L, "", l', steps + 1, some (opV (.push v L))⟩ c ((L == -1) = false ∧ nuC sk.k v c.w log none l' ∧ preC c a steps len (.push v L)) := by
 cases sk with
 | b j i s => cases h
 | _ => cases t <;> kernel_rfl
theorem s_neg : stepX lo K n c ⟨sk, a, "", log, steps, some op⟩ (pre len (.calc "neg" L) ++ [(5, .v (.tup [.lstK s, pv x])), (5, .b true)]) [] = okS ⟨sk.put (s ++ [pv (ng x)]), a + 1, "", log, steps + 1, some (opV (.calc "neg" L))⟩ c (blC s ∧ popC sk.st s (pv x) ∧ preC c a steps len (.calc "neg" L)) := by
 cases sk <;> kernel_rfl
theorem s_bin (o : Bo) {z : Dc} : stepX lo K n c ⟨sk, a, "", log, steps, some op⟩ (pre len (.calc o.str L) ++ [(5, .v (.tup [.lstK s1, pv y])), (1, .v (.bool false)), (2, .v (.tup [.lstK s, pv x])), (0, .b true)]) [calO o x y (some z)] = okS ⟨sk.put (s ++ [pv z]), a + 1, "", log, steps + 1, some (opV (.calc o.str L))⟩ c (blC s ∧ (calO o x y (some z)).p sk.k ∧ popC s1 s (pv x) ∧ negC o ∧ popC sk.st s1 (pv y) ∧ preC c a steps len (.calc o.str L)) := by
 cases sk <;> kernel_rfl
theorem s_binX (o : Bo) (h : sk.two = false) : stepX lo K n c ⟨sk, a, "", log, steps, some op⟩ (pre len (.calc o.str L) ++ [(5, .v (.tup [.lstK s1, pv y])), (1, .v (.bool false)), (2, .v (.tup [.lstK s, pv x])), (2, .b false)]) [calO o x y none] = okS ⟨(sk.put s).up, L, "", log, steps + 1, some (opV (.calc o.str L))⟩ c ((L == -1) = false ∧ (calO o x y none).p sk.k ∧ popC s1 s (pv x) ∧ negC o ∧ popC sk.st s1 (pv y) ∧ preC c a steps len (.calc o.str L)) := by
 cases sk with
 | b j i s => cases h
 | _ => kernel_rfl
theorem s_put (f : Bool) : stepX lo K n c ⟨sk, a, "", log, steps, some op⟩ (pre len (.put v L) ++ [(3, .v (.tup [.lstK s, pv x])), (0, .b true), (0, .b f)]) [] = okS ⟨sk.put s, cond f L (a + 1), "", log ++ [.tup [v, pv x]], steps + 1, some (opV (.put v L))⟩ c (c.full = f ∧ blC log ∧ popC sk.st s (pv x) ∧ preC c a steps len (.put v L)) := by
 cases f <;> cases sk <;> kernel_rfl
theorem s_deed : stepX lo K n c ⟨sk, a, "", log, steps, some op⟩ (pre len (.deed v) ++ [(3, .b true)]) [] = okS ⟨sk, a + 1, "", log ++ [v], steps + 1, some (opV (.deed v))⟩ c (blC log ∧ preC c a steps len (.deed v)) := by
 cases sk <;> kernel_rfl
theorem s_jump : stepX lo K n c ⟨sk, a, "", log, steps, some op⟩ (pre len (.jump L)) [] = okS ⟨sk, L, "", log, steps + 1, some (opV (.jump L))⟩ c (preC c a steps len (.jump L)) := by
 cases sk <;> kernel_rfl
theorem s_leave : stepX lo K n c ⟨sk, a, "", log, steps, some op⟩ (pre len .leave) [] = okS ⟨sk, a + 1, "", log, steps + 1, some (opV .leave)⟩ c (preC c a steps len .leave) := by
 cases sk <;> kernel_rfl
theorem s_stop : stepX lo K n c ⟨sk, a, "", log, steps, some op⟩ (pre len .stop) [] = okS ⟨sk, a + 1, "end", log, steps + 1, some (opV .stop)⟩ c (preC c a steps len .stop) := by
 cases sk <;> kernel_rfl
theorem s_end : tstsX (GG lo K) FF (n + 12) f664 true [] (testOf mW) (mR ⟨sk, a, "end", log, steps, some op⟩) ⟨mS c ⟨sk, a, "end", log, steps, some op⟩, [], [], True⟩ = some (.ok false, ⟨mS c ⟨sk, a, "end", log, steps, some op⟩, [], [], True⟩) := by
 cases sk <;> kernel_rfl
theorem s_init : blkX (GG lo K) FF (n + 12) f664 true [] deep (f664.body.take 3) [(S "code", .hnd 0), (S "deeds", .hnd 1), (S "limit", .int 600)] ⟨rP c log, [], [], True⟩ = some (.ok (.next, mR ⟨.z [], 0, "", log, 0, none⟩), ⟨mS c ⟨.z [], 0, "", log, 0, none⟩, [], [], True⟩) := by kernel_rfl
theorem s_out : blkX (GG lo K) FF (n + 12) f664 true [] deep (f664.body.drop 4) (mR ⟨sk, a, "end", log, steps, some op⟩) ⟨mS c ⟨sk, a, "end", log, steps, some op⟩, [], [], True⟩ = some (.ok (.ret (s_ "end"), mR ⟨sk, a, "end", log, steps, some op⟩), ⟨mS c ⟨sk, a, "end", log, steps, some op⟩, [], [], True⟩) := by
 cases sk <;> kernel_rfl
theorem s_cal (o : Bo) (r : Option Dc) : callX (GG lo K) FF (n + 9) true (.glob 559) [s_ o.str, pv x, pv y] ⟨[], [], [opO o x y r], True⟩ = some (exV r, ⟨[], [], [], (opO o x y r).p 0 ∧ True⟩) := by
 cases o <;> cases r <;> kernel_rfl
end
def Sts (lo : List Str) (K : Params → Frag) (c : Fix) (m : Nat) (A B : AS) : Prop := ∀ (n k : Nat) (r : Except Addr (Fl × Loc)) (a' : Sto), LoopR (GG lo K) FF (n + 12) f664 true [] 19 (testOf mW) (bodyOf mW) k (mR B) (mS c B) r a' → LoopR (GG lo K) FF (n + 12) f664 true [] 19 (testOf mW) (bodyOf mW) (k + m) (mR A) (mS c A) r a'
section
variable {lo : List Str} {K : Params → Frag} {n : Nat} {c : Fix} {A B : AS} {sk : Sk} {a steps len L : Int} {log l' s s1 : List V} {t : Option V} {v op : V} {x y : Dc}
theorem Sts.trans {B' : AS} {m m' : Nat} (h : Sts lo K c m A B) (h' : Sts lo K c m' B B') : Sts lo K c (m + m') A B' := fun n k r a' h0 => by
 have := h n (k + m') r a' (h' n k r a' h0)
 rw [show k + m' + m = k + (m + m') by lia] at this
 exact this
theorem Sts.one {ds : List (Nat × Dec)} {dc : List Cal} {cs : Prop} (h : ∀ n, stepX lo K n c A ds dc = okS B c cs) (hc : cs) (hd : AllOk (GG lo K) FF dc) : Sts lo K c 1 A B := fun n k r a' h0 =>
 .go (.of (fun N e => wh_tr G0_plain (n + 12) f664 true [] 19 _ _ _) (h n) hc hd) h0
noncomputable def Sk.lev : Sk → Nat
 | .z _ => 0
 | .a _ _ => 1
 | .b _ _ _ => 2
theorem lev_two (h : sk.lev ≤ 1) : sk.two = false := by
 cases sk with
 | b j i s => exact absurd h (by show ¬ 2 ≤ 1; decide)
 | _ => rfl
theorem put_st : (sk.put s).st = s := by cases sk <;> rfl
theorem put_lev : (sk.put s).lev = sk.lev := by cases sk <;> rfl
theorem up_st (h : sk.lev ≤ 1) : sk.up.st = [] := by
 cases sk with
 | b j i s => exact absurd h (by show ¬ 2 ≤ 1; decide)
 | _ => rfl
theorem up_lev : sk.up.lev ≤ sk.lev + 1 := by cases sk <;> exact Nat.le_of_ble_eq_true rfl
def Seg (C : List Op) (i : Nat) (os : List Op) : Prop := ∀ (k : Nat) (o : Op), os[k]? = some o → C[i + k]? = some o
theorem Seg.left {C l r : List Op} {i : Nat} (h : Seg C i (l ++ r)) : Seg C i l := fun k o e => h k o (by rw [List.getElem?_append_left (lt_of_get e)]; exact e)
theorem Seg.right {C l r : List Op} {i : Nat} (h : Seg C i (l ++ r)) : Seg C (i + l.length) r := fun k o e => by
 have := h (l.length + k) o (by rw [List.getElem?_append_right (Nat.le_add_right ..), Nat.add_sub_cancel_left]; exact e)
 rw [← Nat.add_assoc] at this; exact this
theorem Seg.hd {C r : List Op} {o : Op} {i : Nat} (h : Seg C i (o :: r)) : C[i]? = some o := h 0 o rfl
theorem Seg.tl {C r : List Op} {o : Op} {i : Nat} (h : Seg C i (o :: r)) : Seg C (i + 1) r := Seg.right (l := [o]) h
structure Cd (c : Fix) (C : List Op) : Prop where
 out : c.out = opsV C
 len : C.length ≤ 500
theorem preC_of {C : List Op} (hC : Cd c C) {i : Nat} {o : Op} (h : C[i]? = some o) (hs : steps < 600) : preC c i steps C.length o := by
 have hi := lt_of_get h
 have hl := hC.len
 have hlen : (opsV C).length = C.length := by simp [opsV]
 refine ⟨?_, decide_eq_false (by lia), decide_eq_false (by lia), biV_len ?_, trivial⟩
 ·rw [hC.out, lget_in (Int.natCast_nonneg i) (by rw [hlen]; exact Int.ofNat_lt.mpr hi) (by lia), Int.toNat_natCast, opsV, List.getElem?_map, h]; rfl
 ·show (if c.out.length ≤ sizeLine then some (c.out.length : Int) else none) = _
  rw [hC.out, hlen, if_pos (by unfold sizeLine; lia)]
theorem popC_of (h : s.length ≤ 900) : popC (s ++ [v]) s v := by
 show (if (s ++ [v]).length ≤ sizeLine then (s ++ [v]).getLast?.map _ else none) = _
 rw [if_pos (by rw [List.length_append]; show s.length + 1 ≤ _; unfold sizeLine; lia)]
 simp
theorem negC_of (o : Bo) : negC o := by cases o <;> (unfold negC; kernel_rfl)
theorem nu_fits {k : Nat} {r : Option Dc} (hv : flatV v = true) (h1 : flatVs log = true) (h2 : flatVs l' = true) : nuC k v c.w log r l' :=
 ⟨by show [V.mp _ v, _, _] = _; rw [flat_mp hv]; rfl, by show [(numD c.w).mp _, O.list (V.mps _ log)] = _; rw [numD_mp, flat_mps h1]; rfl, exV_mp r, by show [(numD c.w).mp _, O.list (V.mps _ l')] = _; rw [numD_mp, flat_mps h2], rfl⟩
theorem op_fits' {o : Bo} {r : Option Dc} {k : Nat} : (calO o x y r).p k := ⟨rfl, rfl, exV_mp r, rfl, rfl⟩
theorem cal_ok (o : Bo) {r : Option Dc} (h : OpR lo K o x y r) : OrcOk (GG lo K) FF (calO o x y r).o := CallR.orc (k := 9) (.of G0_plain (fun n => s_cal o r) ⟨op_fits, trivial⟩ ⟨h.orc, trivial⟩)
def stR (st0 : List V) : Option Dc → List V
 | none => []
 | some x => st0 ++ [pv x]
noncomputable def lvR (k : Nat) : Option Dc → Nat
 | none => k + 1
 | some _ => k
noncomputable def plR (i L : Int) : Option Dc → Int
 | none => L
 | some _ => i
inductive Ran (lo : List Str) (K : Params → Frag) (c : Fix) (k : Nat) (A : AS) (r : Option Dc) (st0 : List V) (i L : Int) (l' : List V) : Prop
 | mk {m : Nat} {t : V} {sk : Sk} : m ≤ k → sk.st = stR st0 r → sk.lev ≤ lvR A.sk.lev r → Sts lo K c m A ⟨sk, plR i L r, "", l', A.steps + m, some t⟩ → Ran lo K c k A r st0 i L l'
theorem Ran.up {k k' : Nat} {r : Option Dc} {st0 : List V} {i : Int} (h : Ran lo K c k A r st0 i L l') (hk : k ≤ k') : Ran lo K c k' A r st0 i L l' := by
 cases h with
 | mk h1 h2 h3 h4 => exact .mk (Nat.le_trans h1 hk) h2 h3 h4
theorem L1 (hL : 0 ≤ L) : (L == -1) = false := by simp; lia
theorem run_push {C : List Op} (hC : Cd c C) {i : Nat} {r : Option Dc} (h : C[i]? = some (.push v L)) (hs : steps < 600) (hL : 0 ≤ L) (hv : flatV v = true) (hf : flatVs log = true) (hl : log.length ≤ 900) (hst : sk.st.length ≤ 900) (hk : sk.lev ≤ 1) (hn : (∃ x, v = numV x ∧ r = some x) ∨ ∃ a : Nm, v = refV a.str ∧ r = c.w a) :
  Ran lo K c 1 ⟨sk, i, "", log, steps, t⟩ r sk.st (i + 1) L (log ++ [v]) := by
 have c1 := nu_ok (lo := lo) (K := K) (w := c.w) hl v r hn
 have hf2 : flatVs (log ++ [v]) = true := flat_app hf (by rw [flatVs, hv]; rfl)
 cases r with
 | some x => exact .mk (sk := sk.put (sk.st ++ [pv x])) (Nat.le_refl _) put_st (Nat.le_of_eq put_lev) (.one (fun n => s_push) ⟨blC_of hst, nu_fits hv hf hf2, preC_of hC h hs⟩ ⟨c1.orc, trivial⟩)
 | none => exact .mk (sk := sk.up) (Nat.le_refl _) (up_st hk) up_lev (.one (fun n => s_pushX (lev_two hk)) ⟨L1 hL, nu_fits hv hf hf2, preC_of hC h hs⟩ ⟨c1.orc, trivial⟩)
theorem run_neg {C : List Op} (hC : Cd c C) {i : Nat} (h : C[i]? = some (.calc "neg" L)) (hs : steps < 600) (hst : s.length ≤ 900) (hp : sk.st = s ++ [pv x]) : Ran lo K c 1 ⟨sk, i, "", log, steps, some v⟩ (some (ng x)) s (i + 1) L log :=
 .mk (sk := sk.put (s ++ [pv (ng x)])) (Nat.le_refl _) put_st (Nat.le_of_eq put_lev) (.one (fun n => s_neg) ⟨blC_of hst, by rw [hp]; exact popC_of hst, preC_of hC h hs⟩ trivial)
theorem run_bin {C : List Op} (hC : Cd c C) {i : Nat} {o : Bo} {r : Option Dc} (h : C[i]? = some (.calc o.str L)) (hs : steps < 600) (hL : 0 ≤ L) (hk : sk.lev ≤ 1) (hst : s.length ≤ 800) (hp : sk.st = s ++ [pv x] ++ [pv y]) (R : OpR lo K o x y r) : Ran lo K c 1 ⟨sk, i, "", log, steps, some v⟩ r s (i + 1) L log := by
 have p1 : popC (s ++ [pv x]) s (pv x) := popC_of (by lia)
 have p2 : popC sk.st (s ++ [pv x]) (pv y) := by rw [hp]; exact popC_of (by rw [List.length_append]; show s.length + 1 ≤ 900; lia)
 cases r with
 | some z => exact .mk (sk := sk.put (s ++ [pv z])) (Nat.le_refl _) put_st (Nat.le_of_eq put_lev) (.one (fun n => s_bin o) ⟨blC_of (by lia), op_fits', p1, negC_of o, p2, preC_of hC h hs⟩ ⟨cal_ok o R, trivial⟩)
 | none =>
  have hk' : (sk.put s).lev ≤ 1 := by rw [put_lev]; exact hk
  exact .mk (sk := (sk.put s).up) (Nat.le_refl _) (up_st hk') (Nat.le_trans up_lev (by rw [put_lev]; exact Nat.le_refl _)) (.one (fun n => s_binX o (lev_two hk)) ⟨L1 hL, op_fits', p1, negC_of o, p2, preC_of hC h hs⟩ ⟨cal_ok o R, trivial⟩)
theorem Ran.go {k k' : Nat} {r : Option Dc} {st0 st1 : List V} {i i' : Int} {l1 : List V} (h : Ran lo K c k A (some x) st0 i L l1) (hk : ∀ (m : Nat) (t : V) (sk : Sk), m ≤ k → sk.st = st0 ++ [pv x] → sk.lev ≤ A.sk.lev → Ran lo K c k' ⟨sk, i, "", l1, A.steps + m, some t⟩ r st1 i' L l') : Ran lo K c (k + k') A r st1 i' L l' := by
 cases h with
 | @mk m t sk h1 h2 h3 h4 =>
  cases hk m t sk h1 h2 h3 with
  | @mk m' t' sk' g1 g2 g3 g4 =>
   have := h4.trans g4
   dsimp only at this
   rw [show A.steps + (m : Int) + (m' : Int) = A.steps + ((m + m' : Nat) : Int) by lia] at this
   exact .mk (Nat.add_le_add h1 g1) g2 (Nat.le_trans g3 (by cases r <;> exact (by first | exact h3 | exact Nat.succ_le_succ h3))) this
theorem Ran.bad {k k' : Nat} {st0 st1 : List V} {i i' : Int} (h : Ran lo K c k A none st0 i L l') (hk : k ≤ k') : Ran lo K c k' A none st1 i' L l' := by
 cases h with
 | mk h1 h2 h3 h4 => exact .mk (Nat.le_trans h1 hk) h2 h3 h4
theorem run_e {C : List Op} (hC : Cd c C) (hL : 0 ≤ L) {e : Ex} {l : List V} {r : Option Dc} (E : EvE lo K c.w e l r) : ∀ {i : Nat} {sk : Sk} {log : List V} {steps : Int} {t : Option V}, Seg C i (opsE L e) → flatVs log = true → log.length + e.sz ≤ 800 → sk.st.length + e.sz ≤ 800 → sk.lev ≤ 1 → steps + e.sz < 600 →
  Ran lo K c e.sz ⟨sk, i, "", log, steps, t⟩ r sk.st (i + e.sz) L (log ++ l) := by
 induction E with
 | num x =>
  intro i sk log steps t hg hf hl hs hk hn
  have hl : log.length + 1 ≤ 800 := hl
  have hs : sk.st.length + 1 ≤ 800 := hs
  have hn : steps + 1 < 600 := hn
  exact run_push hC hg.hd (by lia) hL rfl hf (by lia) (by lia) hk (.inl ⟨x, rfl, rfl⟩)
 | ref a =>
  intro i sk log steps t hg hf hl hs hk hn
  have hl : log.length + 1 ≤ 800 := hl
  have hs : sk.st.length + 1 ≤ 800 := hs
  have hn : steps + 1 < 600 := hn
  exact run_push hC hg.hd (by lia) hL rfl hf (by lia) (by lia) hk (.inr ⟨a, rfl, rfl⟩)
 | @neg a l r E ih =>
  intro i sk log steps t hg hf hl hs hk hn
  have hl : log.length + (a.sz + 1) ≤ 800 := hl
  have hs : sk.st.length + (a.sz + 1) ≤ 800 := hs
  have hn : steps + ((a.sz + 1 : Nat) : Int) < 600 := hn
  have R := ih (t := t) hg.left hf (by lia) (by lia) hk (by lia : steps + a.sz < 600)
  show Ran lo K c (a.sz + 1) _ _ _ (i + ((a.sz + 1 : Nat) : Int)) L _
  cases r with
  | none => exact R.bad (Nat.le_succ _)
  | some x =>
   refine R.go fun m t sk' h1 h2 h3 => ?_
   have := run_neg (lo := lo) (K := K) (steps := steps + m) (log := log ++ l) (v := t) hC (by have := hg.right.hd; rw [opsE_sz] at this; exact this) (by lia) (by lia) h2
   rw [show ((i + a.sz : Nat) : Int) = i + a.sz by lia] at this
   rw [show (i : Int) + ((a.sz + 1 : Nat) : Int) = i + a.sz + 1 by lia]
   exact this
 | @b1 a b l o E ih =>
  intro i sk log steps t hg hf hl hs hk hn
  have hl : log.length + (a.sz + b.sz + 1) ≤ 800 := hl
  have hs : sk.st.length + (a.sz + b.sz + 1) ≤ 800 := hs
  have hn : steps + ((a.sz + b.sz + 1 : Nat) : Int) < 600 := hn
  exact (ih (t := t) hg.left hf (by lia) (by lia) hk (by lia : steps + a.sz < 600)).bad (by show a.sz ≤ a.sz + b.sz + 1; lia)
 | @b2 a b l l' x o E E' i1 i2 =>
  intro i sk log steps t hg hf hl hs hk hn
  have hl : log.length + (a.sz + b.sz + 1) ≤ 800 := hl
  have hs : sk.st.length + (a.sz + b.sz + 1) ≤ 800 := hs
  have hn : steps + ((a.sz + b.sz + 1 : Nat) : Int) < 600 := hn
  have hll := E.log.2
  refine Ran.up (k := a.sz + b.sz) (Ran.go (i := i + a.sz) (i1 (t := t) hg.left hf (by lia) (by lia) hk (by lia : steps + a.sz < 600)) fun m t sk' h1 h2 h3 => ?_) (Nat.le_succ _)
  have g2 := hg.right.left
  rw [opsE_sz] at g2
  have := i2 (i := i + a.sz) (sk := sk') (log := log ++ l) (steps := steps + m) (t := some t) g2 (flat_app hf E.flat) (by rw [List.length_append]; lia) (by rw [h2, List.length_append]; show sk.st.length + 1 + b.sz ≤ 800; lia) (Nat.le_trans h3 hk) (by lia)
  rw [List.append_assoc] at this
  exact this.bad (Nat.le_refl _)
 | @b3 a b l l' x y r o E E' R i1 i2 =>
  intro i sk log steps t hg hf hl hs hk hn
  have hl : log.length + (a.sz + b.sz + 1) ≤ 800 := hl
  have hs : sk.st.length + (a.sz + b.sz + 1) ≤ 800 := hs
  have hn : steps + ((a.sz + b.sz + 1 : Nat) : Int) < 600 := hn
  have hll := E.log.2
  have hll' := E'.log.2
  have g2 := hg.right.left
  have g3 := hg.right.right
  rw [opsE_sz] at g2
  rw [opsE_sz, opsE_sz] at g3
  rw [← List.append_assoc]
  show Ran lo K c (a.sz + b.sz + 1) _ _ _ (i + ((a.sz + b.sz + 1 : Nat) : Int)) L _
  rw [Nat.add_assoc]
  refine Ran.go (i := i + a.sz) (i1 (t := t) hg.left hf (by lia) (by lia) hk (by lia : steps + a.sz < 600)) fun m t sk' h1 h2 h3 => ?_
  have R2 := i2 (i := i + a.sz) (sk := sk') (log := log ++ l) (steps := steps + m) (t := some t) g2 (flat_app hf E.flat) (by rw [List.length_append]; lia) (by rw [h2, List.length_append]; show sk.st.length + 1 + b.sz ≤ 800; lia) (Nat.le_trans h3 hk) (by lia)
  refine Ran.go (i := i + a.sz + b.sz) R2 fun m' t' sk'' k1 k2 k3 => ?_
  have k3 := Nat.le_trans k3 h3
  rw [h2] at k2
  have := run_bin (lo := lo) (K := K) (i := i + a.sz + b.sz) (steps := steps + m + m') (log := log ++ l ++ l') (v := t') hC g3.hd (by lia) hL (Nat.le_trans k3 hk) (by lia) k2 R
  rw [show (i : Int) + ((a.sz + (b.sz + 1) : Nat) : Int) = i + a.sz + b.sz + 1 by lia]
  exact this
end
def brS (x y : Int) : Br → List V
 | .o => []
 | .n => []
 | _ => [saidV x, saidV y]
def brN (z : Int) : Br → List V
 | .o => []
 | .s => []
 | _ => [saidV z]
def dueL (full : Bool) (rows : V) (x y z : Int) (b : Br) (l : List V) : Option Dc → List V
 | none => l ++ brS x y b
 | some w => l ++ [.tup [rows, pv w]] ++ cond full (brS x y b) (brN z b)
def tailR (rows : V) (x y z m : Int) : Br → List Op
 | .o => [.put rows m]
 | .n => [.put rows (m + 1), .deed (saidV z)]
 | .s => [.put rows (m + 1), .jump (m + 3), .deed (saidV x), .deed (saidV y)]
 | _ => [.put rows (m + 2), .deed (saidV z), .jump (m + 4), .deed (saidV x), .deed (saidV y)]
noncomputable def wrg (m : Int) : Br → Int
 | .o => m
 | .n => m + 1
 | .s => m + 1
 | _ => m + 2
noncomputable def fin (m : Int) : Br → Int
 | .o => m
 | .n => m + 1
 | .s => m + 3
 | _ => m + 4
section
variable {lo : List Str} {K : Params → Frag} {n : Nat} {c : Fix} {A B : AS} {L i : Int} {l1 : List V} {v rows : V} {x : Dc} {C : List Op} {k j : Nat} {st0 : List V}
theorem Ran.deed (h : Ran lo K c k A none st0 i L l1) (hC : Cd c C) (ho : C[j]? = some (.deed v)) (hj : L = j) (hl : l1.length ≤ 900) (hs : A.steps + k < 600) : Ran lo K c (k + 1) A none st0 i (L + 1) (l1 ++ [v]) := by
 cases h with
 | @mk m t sk h1 h2 h3 h4 =>
  subst hj
  have := h4.trans (.one (fun n => s_deed) ⟨blC_of hl, preC_of hC ho (by lia)⟩ trivial)
  rw [show A.steps + (m : Int) + 1 = A.steps + ((m + 1 : Nat) : Int) by lia] at this
  exact .mk (Nat.add_le_add_right h1 1) h2 h3 this
theorem Ran.jump {L' : Int} (h : Ran lo K c k A none st0 i L l1) (hC : Cd c C) (ho : C[j]? = some (.jump L')) (hj : L = j) (hs : A.steps + k < 600) : Ran lo K c (k + 1) A none st0 i L' l1 := by
 cases h with
 | @mk m t sk h1 h2 h3 h4 =>
  subst hj
  have := h4.trans (.one (fun n => s_jump) (preC_of hC ho (by lia)) trivial)
  rw [show A.steps + (m : Int) + 1 = A.steps + ((m + 1 : Nat) : Int) by lia] at this
  exact .mk (Nat.add_le_add_right h1 1) h2 h3 this
theorem Ran.put {W : Int} (h : Ran lo K c k A (some x) [] i L l1) (hC : Cd c C) (ho : C[j]? = some (.put v W)) (hj : i = j) (hl : l1.length ≤ 900) (hs : A.steps + k < 600) : Ran lo K c (k + 1) A none [] i (cond c.full W (i + 1)) (l1 ++ [.tup [v, pv x]]) := by
 cases h with
 | @mk m t sk h1 h2 h3 h4 =>
  subst hj
  have := h4.trans (.one (fun n => s_put c.full) ⟨rfl, blC_of hl, by rw [h2]; exact popC_of (s := []) (Nat.zero_le _), preC_of hC ho (by lia)⟩ trivial)
  rw [show A.steps + (m : Int) + 1 = A.steps + ((m + 1 : Nat) : Int) by lia] at this
  exact .mk (sk := sk.put []) (Nat.add_le_add_right h1 1) put_st (by rw [put_lev]; exact Nat.le_succ_of_le h3) this
theorem Ran.wrong {m : Nat} {y z : Int} {xx : Int} (b : Br) (h : Ran lo K c k A none [] i (wrg m b) l1) (hC : Cd c C) (hg : Seg C m (tailR rows xx y z m b).tail) (hl : l1.length ≤ 800) (hs : A.steps + k + 2 < 600) : Ran lo K c (k + 2) A none [] i (fin m b) (l1 ++ brS xx y b) := by
 have hl2 : (l1 ++ [saidV xx]).length ≤ 900 := by rw [List.length_append]; show l1.length + 1 ≤ 900; lia
 cases b with
 | o => rw [show brS xx y .o = [] from rfl, List.append_nil]; exact h.up (Nat.le_add_right ..)
 | n => rw [show brS xx y .n = [] from rfl, List.append_nil]; exact h.up (Nat.le_add_right ..)
 | s =>
  have g := (h.deed hC hg.tl.hd (by show (m : Int) + 1 = _; lia) (by lia) (by lia)).deed hC hg.tl.tl.hd (by show (m : Int) + 1 + 1 = _; lia) hl2 (by lia)
  rw [show wrg m .s + 1 + 1 = fin m .s by show (m : Int) + 1 + 1 + 1 = m + 3; lia, List.append_assoc] at g
  exact g
 | _ =>
  have g := (h.deed hC hg.tl.tl.hd (by show (m : Int) + 2 = _; lia) (by lia) (by lia)).deed hC hg.tl.tl.tl.hd (by show (m : Int) + 2 + 1 = _; lia) hl2 (by lia)
  rw [List.append_assoc] at g
  show Ran lo K c (k + 2) A none [] i ((m : Int) + 4) (l1 ++ [saidV xx, saidV y])
  rw [show (m : Int) + 4 = m + 2 + 1 + 1 by lia]
  exact g
theorem Ran.right {m : Nat} {y z : Int} {xx : Int} (b : Br) (h : Ran lo K c k A none [] i m l1) (hC : Cd c C) (hg : Seg C m (tailR rows xx y z m b).tail) (hl : l1.length ≤ 800) (hs : A.steps + k + 2 < 600) : Ran lo K c (k + 2) A none [] i (fin m b) (l1 ++ brN z b) := by
 cases b with
 | o => rw [show brN z .o = [] from rfl, List.append_nil]; exact h.up (Nat.le_add_right ..)
 | n => exact (h.deed hC hg.hd rfl (by lia) (by lia)).up (Nat.le_succ _)
 | s => rw [show brN z .s = [] from rfl, List.append_nil]; exact (h.jump hC hg.hd rfl (by lia)).up (Nat.le_succ _)
 | _ => exact (h.deed hC hg.hd rfl (by lia) (by lia)).jump hC hg.tl.hd rfl (by lia)
theorem tailR_hd {m : Int} {xx y z : Int} (b : Br) : ∃ os, tailR rows xx y z m b = .put rows (wrg m b) :: os := by cases b <;> exact ⟨_, rfl⟩
theorem wrg_nn {m : Nat} (b : Br) : 0 ≤ wrg m b := by cases b <;> (show (0 : Int) ≤ _; unfold wrg; lia)
theorem run_st {q m : Nat} {xx y z : Int} {e : Ex} {b : Br} {l log : List V} {r : Option Dc} {sk : Sk} {steps : Int} {t : Option V} (hC : Cd c C) (hm : m = q + e.sz + 1) (E : EvE lo K c.w e l r) (hg : Seg C q (opsE (wrg m b) e ++ tailR rows xx y z m b)) (hf : flatVs log = true) (hl : log.length + e.sz ≤ 700) (hst : sk.st = []) (hk : sk.lev ≤ 1) (hs : steps + e.sz + 5 < 600) (he : e.sz ≤ 100) :
  Ran lo K c (e.sz + 3) ⟨sk, q, "", log, steps, t⟩ none [] m (fin m b) (log ++ dueL c.full rows xx y z b l r) := by
 have R := run_e (lo := lo) (K := K) (t := t) (steps := steps) (sk := sk) hC (wrg_nn b) E hg.left hf (by lia) (by rw [hst]; exact Nat.le_trans (Nat.le_of_eq (Nat.zero_add _)) (Nat.le_trans he (by decide))) hk (by lia)
 have g2 := hg.right
 have hll := E.log.2
 rw [opsE_sz] at g2
 obtain ⟨os, ho⟩ := tailR_hd (rows := rows) (m := (m : Int)) (xx := xx) (y := y) (z := z) b
 have g3 := g2
 rw [ho] at g3
 have g4 := g3.tl
 rw [show q + e.sz + 1 = m from hm.symm, show os = (tailR rows xx y z m b).tail by rw [ho]; rfl] at g4
 rw [hst] at R
 cases r with
 | none =>
  show Ran lo K c _ _ _ _ _ _ (log ++ (l ++ brS xx y b))
  rw [← List.append_assoc]
  have R : Ran lo K c e.sz _ none [] m (wrg m b) (log ++ l) := R.bad (Nat.le_refl _)
  exact (R.wrong b hC g4 (by rw [List.length_append]; lia) (by dsimp only; lia)).up (Nat.le_succ _)
 | some w =>
  show Ran lo K c _ _ _ _ _ _ (log ++ (l ++ [.tup [rows, pv w]] ++ cond c.full (brS xx y b) (brN z b)))
  rw [← List.append_assoc, ← List.append_assoc]
  have hl2 : (log ++ l ++ [V.tup [rows, pv w]]).length ≤ 800 := by rw [List.length_append, List.length_append]; show log.length + l.length + 1 ≤ 800; lia
  have R2 := R.put hC g3.hd (by lia) (by rw [List.length_append]; lia) (by dsimp only; lia)
  rw [show (q : Int) + e.sz + 1 = m by lia] at R2
  cases hfull : c.full with
  | true =>
   rw [hfull] at R2
   exact Ran.bad (R2.wrong b hC g4 hl2 (by dsimp only; lia)) (Nat.le_refl _)
  | false =>
   rw [hfull] at R2
   exact Ran.bad (R2.right b hC g4 hl2 (by dsimp only; lia)) (Nat.le_refl _)
end
def GdN (k : Nat) (v : V) : Prop := ∃ d, dat0 v = some d ∧ d.canLay0 = true ∧ d.depth ≤ k
structure Stm where
 e : Ex
 rows : V
 b : Br
def Stm.v (s : Stm) (k : Int) : V := stmtV (vE s.e) s.rows (10 * k) (10 * k + 1) (10 * k + 2) s.b
structure Stm.Ok (s : Stm) : Prop where
 e : s.e.Ok
 ht : s.e.ht ≤ 3
 rows : flatV s.rows = true
 gd : GdN 4 s.rows
noncomputable def nl : Br → Nat
 | .o => 1
 | .n => 2
 | .s => 4
 | _ => 5
def Stm.code (s : Stm) (k L : Int) : List Op := codeO s.e s.rows (10 * k) (10 * k + 1) (10 * k + 2) L s.b
def Stm.run (s : Stm) (k m : Int) : List Op := opsE (wrg m s.b) s.e ++ tailR s.rows (10 * k) (10 * k + 1) (10 * k + 2) m s.b
section
variable {lo : List Str} {K : Params → Frag} {m x y z : Int} {rows : V} {b : Br} {s s1 s2 : Stm}
theorem labs_len : (labs m b).length = nl b := by cases b <;> rfl
theorem tailO_len {L : Int} : (tailO rows x y z L b).length = nl b := by cases b <;> rfl
theorem tailR_len : (tailR rows x y z m b).length = nl b := by cases b <;> rfl
theorem nl_le : 1 ≤ nl b ∧ nl b ≤ 5 := by cases b <;> exact ⟨Nat.le_of_ble_eq_true rfl, Nat.le_of_ble_eq_true rfl⟩
theorem fin_eq : fin m b = m + nl b - 1 := by cases b <;> (unfold fin nl; dsimp only; lia)
theorem opsE_re (f : Int → Int) (L : Int) : ∀ e : Ex, (opsE L e).map (Op.re f) = opsE (f L) e
 | .num x => rfl
 | .ref a => rfl
 | .neg a => by show (opsE L a ++ _).map _ = _; rw [List.map_append, opsE_re f L a]; rfl
 | .bin o a b => by show (opsE L a ++ (opsE L b ++ _)).map _ = _; rw [List.map_append, List.map_append, opsE_re f L a, opsE_re f L b]; rfl
theorem code_re {f : Int → Int} {k p : Int} (h : ∀ (j : Nat) (v : Int), (labs m s.b)[j]? = some v → f (p + j) = v) : (s.code k p).map (Op.re f) = s.run k m := by
 obtain ⟨e, rows, b⟩ := s
 have h0 : f p = wrg m b := by
  have := h 0 (wrg m b) (by cases b <;> rfl)
  rw [show p + ((0 : Nat) : Int) = p from Int.add_zero p] at this; exact this
 show (opsE p e ++ tailO rows _ _ _ p b).map _ = opsE (wrg m b) e ++ _
 rw [List.map_append, opsE_re, h0]
 refine congrArg _ ?_
 cases b with
 | o => show [Op.put rows (f p)] = _; rw [h0]; rfl
 | n => show [Op.put rows (f p), _] = _; rw [h0]; rfl
 | s => show [Op.put rows (f p), .jump (f (p + 1)), _, _] = _; rw [h0, show f (p + 1) = m + 3 from h 1 (m + 3) rfl]; rfl
 | _ => show [Op.put rows (f p), _, .jump (f (p + 2)), _, _] = _; rw [h0, show f (p + 2) = m + 4 from h 2 (m + 4) rfl]; rfl
theorem opsE_lab {P : List Int} {L : Int} (h : 0 ≤ L ∧ L < P.length) : ∀ (e : Ex), ∀ o ∈ opsE L e, LabOk P o
 | .num x, o, ho => by rw [List.mem_singleton.mp ho]; exact fun L' e => sInj e ▸ h
 | .ref a, o, ho => by rw [List.mem_singleton.mp ho]; exact fun L' e => sInj e ▸ h
 | .neg a, o, ho => (List.mem_append.mp ho).elim (opsE_lab h a o) fun ho => by rw [List.mem_singleton.mp ho]; exact fun L' e => sInj e ▸ h
 | .bin p a b, o, ho => (List.mem_append.mp ho).elim (opsE_lab h a o) fun ho => (List.mem_append.mp ho).elim (opsE_lab h b o) fun ho => by rw [List.mem_singleton.mp ho]; exact fun L' e => sInj e ▸ h
theorem code_lab {P : List Int} {k p : Int} (h0 : 0 ≤ p) (h : p + nl s.b ≤ P.length) : ∀ o ∈ s.code k p, LabOk P o := fun o ho => by
 have h1 := (nl_le (b := s.b)).1
 refine (List.mem_append.mp ho).elim (opsE_lab ⟨h0, by lia⟩ s.e o) fun ho => ?_
 have lp : ∀ {o : Op} {L : Int}, o.lab = some L → 0 ≤ L ∧ L < P.length → LabOk P o := fun e h L' e' => sInj (e.symm.trans e') ▸ h
 have ln : ∀ {o : Op}, o.lab = none → LabOk P o := fun e L' e' => noS (e.symm.trans e')
 have hp : 0 ≤ p ∧ p < P.length := ⟨h0, by lia⟩
 obtain ⟨e, rows, b⟩ := s
 cases b with
 | o => rw [List.mem_singleton.mp ho]; exact lp rfl hp
 | n =>
  simp only [tailO, List.mem_cons, List.not_mem_nil, or_false] at ho
  rcases ho with rfl | rfl
  ·exact lp rfl hp
  ·exact ln rfl
 | s =>
  have h : p + 4 ≤ P.length := h
  simp only [tailO, List.mem_cons, List.not_mem_nil, or_false] at ho
  rcases ho with rfl | rfl | rfl | rfl
  ·exact lp rfl hp
  ·exact lp rfl (by lia)
  ·exact ln rfl
  ·exact ln rfl
 | _ =>
  have h : p + 5 ≤ P.length := h
  simp only [tailO, List.mem_cons, List.not_mem_nil, or_false] at ho
  rcases ho with rfl | rfl | rfl | rfl | rfl
  ·exact lp rfl hp
  ·exact ln rfl
  ·exact lp rfl (by lia)
  ·exact ln rfl
  ·exact ln rfl
theorem code_ok {k p : Int} (h : s.Ok) : OpsOk (s.code k p) := (opsE_ok p s.e).app fun o ho => by
 obtain ⟨e, rows, b⟩ := s
 have hr : flatV rows = true := h.rows
 cases b <;> (simp only [tailO, List.mem_cons, List.not_mem_nil, or_false] at ho; rcases ho with rfl | rfl | rfl | rfl | rfl <;> first | exact hr | rfl | trivial)
theorem sz_ht : ∀ (e : Ex), e.sz + 1 ≤ 2 ^ (e.ht + 1)
 | .num _ => Nat.le_refl _
 | .ref _ => Nat.le_refl _
 | .neg a => by
  have := sz_ht a
  show a.sz + 1 + 1 ≤ 2 ^ (a.ht + 1 + 1)
  rw [Nat.pow_succ]; lia
 | .bin o a b => by
  have h1 := Nat.le_trans (sz_ht a) (Nat.pow_le_pow_right (by decide) (Nat.succ_le_succ (Nat.le_max_left a.ht b.ht)))
  have h2 := Nat.le_trans (sz_ht b) (Nat.pow_le_pow_right (by decide) (Nat.succ_le_succ (Nat.le_max_right a.ht b.ht)))
  show a.sz + b.sz + 1 + 1 ≤ 2 ^ (max a.ht b.ht + 1 + 1)
  rw [Nat.pow_succ]; lia
theorem Stm.Ok.sz (h : s.Ok) : s.e.sz ≤ 15 := by
 have := Nat.le_trans (sz_ht s.e) (Nat.pow_le_pow_right (by decide) (Nat.succ_le_succ h.ht))
 lia
theorem code_len {k p : Int} : (s.code k p).length = s.e.sz + nl s.b := by rw [Stm.code, codeO, List.length_append, opsE_sz, tailO_len]
theorem run_len {k : Int} : (s.run k m).length = s.e.sz + nl s.b := by rw [Stm.run, List.length_append, opsE_sz, tailR_len]
def progM1 (s1 : Stm) : Int := s1.e.sz + 1
def progM2 (s1 s2 : Stm) : Int := s1.e.sz + nl s1.b + s2.e.sz + 1
def progC (s1 s2 : Stm) : List Op := s1.run 1 (progM1 s1) ++ (s2.run 2 (progM2 s1 s2) ++ [.deed (saidV 99), .leave, .stop])
def progV (s1 s2 : Stm) : List V := [s1.v 1, s2.v 2, saidV 99]
def progP (s1 s2 : Stm) : List Int := labs (progM1 s1) s1.b ++ (labs (progM2 s1 s2) s2.b ++ [(s1.e.sz : Int) + nl s1.b + (s2.e.sz + nl s2.b) + 1])
theorem plF_at {A B C : List Int} {p j : Nat} {v : Int} (hp : p = A.length) (h : B[j]? = some v) : plF (A ++ (B ++ C)) ((p : Int) + j) = v := by
 unfold plF
 rw [show ((p : Int) + j).toNat = p + j by lia, hp, List.getElem?_append_right (Nat.le_add_right ..), Nat.add_sub_cancel_left, List.getElem?_append_left (lt_of_get h), h]; rfl
theorem stm_flat {k : Int} (h : s.Ok) : flatV (s.v k) = true := by
 show (flatV (vE s.e) && (flatV s.rows && (flatV (brV _ _ _ s.b) && true))) = true
 rw [vE_flat, h.rows]
 cases s.b <;> rfl
theorem garb_le {x y z : Int} {b : Br} : (garb x y z b).length ≤ 20 := by cases b <;> exact Nat.le_of_ble_eq_true rfl
theorem comp_all (h1 : s1.Ok) (h2 : s2.Ok) : ∃ g2 H, noTab g2 = true ∧ g2.length ≤ 3000 ∧ g2[H]? = some (codeI (opsV (progC s1 s2))) ∧ CallR (GG lo K) FF 12 true 326 [.hnd 3] (cP (.tup (progV s1 s2))) (.ok (.hnd (4 + H))) (cP (.tup (progV s1 s2)) ++ g2) := by
 have z1 := h1.sz
 have z2 := h2.sz
 have n1 := nl_le (b := s1.b)
 have n2 := nl_le (b := s2.b)
 have fss : flatVs (progV s1 s2) = true := by rw [progV, flatVs, flatVs, stm_flat h1, stm_flat h2]; rfl
 let st := V.tup (progV s1 s2)
 have l1 := labs_len (m := progM1 s1) (b := s1.b)
 have l2 := labs_len (m := progM2 s1 s2) (b := s2.b)
 have x1 : (0 : Int) :: labs (progM1 s1) s1.b = [0] ++ labs (progM1 s1) s1.b := rfl
 have k1 : (opsV (s1.code 1 1)).length = s1.e.sz + nl s1.b := by rw [opsV, List.length_map, code_len]
 have c1 := st_ok (lo := lo) (K := K) (st := st) (l := []) (rows := s1.rows) (x := 10 * 1) (y := 10 * 1 + 1) (z := 10 * 1 + 2) (m := progM1 s1) fss s1.e h1.ht s1.b [0] ⟨by decide, by decide⟩ rfl (by show 0 + _ ≤ 890; lia) (by show (0 : Int) + _ + 1 = s1.e.sz + 1; lia)
 have e1 : (1 + nl s1.b : Nat) = ([0] ++ labs (progM1 s1) s1.b).length := by rw [List.length_append, l1]; rfl
 have f1 := (code_ok (k := 1) (p := 1) h1).flat
 have c2 := st_ok (lo := lo) (K := K) (st := st) (l := opsV (s1.code 1 1)) (rows := s2.rows) (x := 10 * 2) (y := 10 * 2 + 1) (z := 10 * 2 + 2) (m := progM2 s1 s2) fss s2.e h2.ht s2.b ([0] ++ labs (progM1 s1) s1.b) (by rw [← e1]; lia) f1 (by rw [k1]; lia) (by rw [k1]; unfold progM2; lia)
 rw [← e1] at c2
 let code2 := s2.code 2 ((1 + nl s1.b : Nat) : Int)
 have k2 : (opsV (s1.code 1 1) ++ opsV code2).length = s1.e.sz + nl s1.b + (s2.e.sz + nl s2.b) := by rw [List.length_append, k1, opsV, List.length_map, code_len]
 have c3 := dp_ok (lo := lo) (K := K) (st := st) (x := 99) (l := opsV (s1.code 1 1) ++ opsV code2) (m := (s1.e.sz : Int) + nl s1.b + (s2.e.sz + nl s2.b) + 1) (([0] ++ labs (progM1 s1) s1.b) ++ labs (progM2 s1 s2) s2.b) (by rw [List.length_append, ← e1, l2]; lia) (by rw [k2]; lia) (by rw [k2]; lia)
 have f2 : flatVs (opsV (s1.code 1 1) ++ opsV code2) = true := flat_app f1 (code_ok h2).flat
 have c := ps_ok (lo := lo) (K := K) (st := st) fss ⟨fss, rfl, rfl⟩ ⟨fss, f1, flat_is _⟩ ⟨fss, f2, flat_is _⟩ ⟨fss, flat_app f2 rfl, flat_is _⟩ (Gb.garb _ _ _ _) (Gb.garb _ _ _ _) Gb.disp c1 c2 c3
 have hL : opsV (s1.code 1 1) ++ opsV code2 ++ opsV [.deed (saidV 99)] = opsV (s1.code 1 1 ++ (code2 ++ [.deed (saidV 99)])) := by simp [opsV]
 rw [hL] at c
 have hP : ([0] ++ labs (progM1 s1) s1.b ++ labs (progM2 s1 s2) s2.b ++ [(s1.e.sz : Int) + nl s1.b + (s2.e.sz + nl s2.b) + 1]) = 0 :: progP s1 s2 := by simp [progP]
 rw [hP] at c
 have lP : (0 :: progP s1 s2).length = 1 + nl s1.b + nl s2.b + 1 := by rw [← hP, List.length_append, List.length_append, ← e1, l2]; rfl
 have hlab : ∀ o ∈ endO (s1.code 1 1 ++ (code2 ++ [.deed (saidV 99)])), LabOk (0 :: progP s1 s2) o := fun o ho => by
  have ln : ∀ {o : Op}, o.lab = none → LabOk (0 :: progP s1 s2) o := fun e L' e' => noS (e.symm.trans e')
  rcases List.mem_append.mp ho with ho | ho
  ·rcases List.mem_append.mp ho with ho | ho
   ·exact code_lab (p := 1) (by decide) (by rw [lP]; lia) o ho
   ·rcases List.mem_append.mp ho with ho | ho
    ·exact code_lab (p := ((1 + nl s1.b : Nat) : Int)) (by lia) (by rw [lP]; lia) o ho
    ·rw [List.mem_singleton.mp ho]; exact ln rfl
  ·rcases List.mem_cons.mp ho with rfl | ho
   ·exact ln rfl
   ·rw [List.mem_singleton.mp ho]; exact ln rfl
 have hend : endF (s1.code 1 1 ++ (code2 ++ [.deed (saidV 99)])) (progP s1 s2) = progC s1 s2 := by
  have r1 := code_re (s := s1) (f := plF (0 :: progP s1 s2)) (k := 1) (p := 1) fun j v h => plF_at (A := [0]) (p := 1) rfl h
  have r2 := code_re (s := s2) (f := plF (0 :: progP s1 s2)) (k := 2) (p := ((1 + nl s1.b : Nat) : Int)) fun j v h => by
   rw [show 0 :: progP s1 s2 = ([0] ++ labs (progM1 s1) s1.b) ++ (labs (progM2 s1 s2) s2.b ++ [(s1.e.sz : Int) + nl s1.b + (s2.e.sz + nl s2.b) + 1]) from (List.append_assoc [0] (labs (progM1 s1) s1.b) _).symm]
   exact plF_at e1 h
  show ((s1.code 1 1 ++ (code2 ++ [Op.deed (saidV 99)])) ++ [Op.leave, Op.stop]).map _ = _
  rw [List.map_append, List.map_append, List.map_append, r1, r2, List.append_assoc, List.append_assoc]
  rfl
 rw [← hend]
 exact cp_ok fss ((code_ok h1).app ((code_ok h2).app (.one rfl))) hlab (by rw [lP]; lia) (by simp only [List.length_append]; rw [code_len, code_len]; show _ + (_ + 1) ≤ 300; lia) ((Gb.garb _ _ _ _).app ((Gb.garb _ _ _ _).app Gb.disp (by rw [List.length_append]; exact Nat.le_trans (Nat.add_le_add_right garb_le _) (Nat.le_of_ble_eq_true rfl))) (by rw [List.length_append, List.length_append]; exact Nat.le_trans (Nat.add_le_add garb_le (Nat.add_le_add_right garb_le _)) (Nat.le_of_ble_eq_true rfl))) c
variable {c : Fix} {log l1 l2 : List V} {r1 r2 : Option Dc}
def Stm.due (s : Stm) (full : Bool) (k : Int) (l : List V) (r : Option Dc) : List V := dueL full s.rows (10 * k) (10 * k + 1) (10 * k + 2) s.b l r
theorem dueL_len {full : Bool} {l : List V} {r : Option Dc} : (dueL full rows x y z b l r).length ≤ l.length + 3 := by
 have h1 : (brS x y b).length ≤ 2 := by cases b <;> exact Nat.le_of_ble_eq_true rfl
 have h2 : (brN z b).length ≤ 2 := by cases b <;> exact Nat.le_of_ble_eq_true rfl
 cases r with
 | none => show (l ++ _).length ≤ _; rw [List.length_append]; lia
 | some w =>
  show (l ++ [_] ++ cond full _ _).length ≤ _
  rw [List.length_append, List.length_append]
  cases full
  ·show l.length + 1 + (brN z b).length ≤ _; lia
  ·show l.length + 1 + (brS x y b).length ≤ _; lia
theorem dueL_flat {full : Bool} {l : List V} {r : Option Dc} (hl : flatVs l = true) (hr : flatV rows = true) : flatVs (dueL full rows x y z b l r) = true := by
 have h1 : flatVs (brS x y b) = true := by cases b <;> rfl
 have h2 : flatVs (brN z b) = true := by cases b <;> rfl
 cases r with
 | none => exact flat_app hl h1
 | some w => exact flat_app (flat_app hl (by show (flatV rows && true && true) = true; rw [hr]; rfl)) (by cases full <;> assumption)
theorem end_ok {M : Nat} {sk : Sk} {a steps : Int} {op : V} (T : Sts lo K c M ⟨.z [], 0, "", [], 0, none⟩ ⟨sk, a, "end", log, steps, some op⟩) (hM : M ≤ 4000) : ∃ g, noTab g = true ∧ g.length ≤ 100 ∧ CallR (GG lo K) FF 13 true 664 [.hnd 0, .hnd 1, .int 600] (rP c []) (.ok (s_ "end")) (rP c log ++ g) := by
 let A : AS := ⟨sk, a, "end", log, steps, some op⟩
 let g : Sto := [.inst 548 [(S "code", .hnd 0), (S "deeds", .hnd 1), (S "place", .int A.at_), (S "stack", .hnd A.sk.h), (S "frames", .hnd 14), (S "key", s_ ""), (S "word", s_ A.word)], .list A.sk.l0, .inst 520 [(S "last", .int (-1)), (S "behind", .int (-1)), (S "slots", .hnd 13)], .sdict [], .list [.hnd 12], tabS] ++ A.sk.tl
 have b : ∀ n, BlkR (GG lo K) FF (n + 12) f664 true [] deep (f664.body.take 3 ++ ([mW] ++ f664.body.drop 4)) [(S "code", .hnd 0), (S "deeds", .hnd 1), (S "limit", .int 600)] (rP c []) (.ok (.ret (s_ "end"), mR A)) (mS c A) := fun n => by
  have l := T n (turns - M - 1 + 1) _ _ (.over (.of (fun N e => tsts_tr G0_plain _ f664 true [] _ _) s_end trivial trivial))
  rw [show turns - M - 1 + 1 + M = turns by unfold turns; lia] at l
  exact .app (.of G0_plain s_init trivial trivial) (.app (.loop (c := testOf mW) (l := bodyOf mW) (by kernel_rfl) l) (.of G0_plain s_out trivial trivial))
 have h := CallR.body (k := 12) (q := true) (f := 664) (F := FF) (fn := f664) (vs := [.hnd 0, .hnd 1, .int 600]) (by kernel_rfl) (by kernel_rfl) rfl (by kernel_rfl) (show f664.body = f664.body.take 3 ++ ([mW] ++ f664.body.drop 4) by kernel_rfl) b
 refine ⟨g, ?_, ?_, h⟩
 ·cases sk <;> rfl
 ·cases sk <;> exact Nat.le_of_ble_eq_true rfl
theorem run_all (h1 : s1.Ok) (h2 : s2.Ok) (hc : c.out = opsV (progC s1 s2)) (E1 : EvE lo K c.w s1.e l1 r1) (E2 : EvE lo K c.w s2.e l2 r2) :
  ∃ g, noTab g = true ∧ g.length ≤ 100 ∧ CallR (GG lo K) FF 13 true 664 [.hnd 0, .hnd 1, .int 600] (rP c []) (.ok (s_ "end")) (rP c (s1.due c.full 1 l1 r1 ++ s2.due c.full 2 l2 r2 ++ [saidV 99]) ++ g) := by
 have z1 := h1.sz
 have z2 := h2.sz
 have n1 := nl_le (b := s1.b)
 have n2 := nl_le (b := s2.b)
 have m1 : progM1 s1 = ((0 + s1.e.sz + 1 : Nat) : Int) := by unfold progM1; lia
 have m2 : progM2 s1 s2 = ((s1.e.sz + nl s1.b + s2.e.sz + 1 : Nat) : Int) := by unfold progM2; lia
 have hC : Cd c (progC s1 s2) := ⟨hc, by rw [progC, List.length_append, List.length_append, run_len, run_len]; show _ + (_ + 3) ≤ 500; lia⟩
 have sg : Seg (progC s1 s2) 0 (progC s1 s2) := fun k o h => by rw [Nat.zero_add]; exact h
 have g1 := sg.left
 have g2 := sg.right.left
 have g3 := sg.right.right
 rw [run_len, Nat.zero_add] at g2
 rw [run_len, run_len, Nat.zero_add] at g3
 rw [m1] at g1
 rw [m2] at g2
 have d1 := dueL_len (rows := s1.rows) (x := 10 * 1) (y := 10 * 1 + 1) (z := 10 * 1 + 2) (b := s1.b) (full := c.full) (l := l1) (r := r1)
 have d2 := dueL_len (rows := s2.rows) (x := 10 * 2) (y := 10 * 2 + 1) (z := 10 * 2 + 2) (b := s2.b) (full := c.full) (l := l2) (r := r2)
 have y1 := E1.log.2
 have y2 := E2.log.2
 have f1 := dueL_flat (full := c.full) (x := 10 * 1) (y := 10 * 1 + 1) (z := 10 * 1 + 2) (b := s1.b) (r := r1) E1.flat h1.rows
 have R1 := run_st (lo := lo) (K := K) (sk := .z []) (log := []) (steps := 0) (t := none) hC rfl E1 g1 rfl (by show 0 + _ ≤ 700; lia) rfl (Nat.zero_le _) (by lia) (by lia)
 cases R1 with
 | @mk k1 t1 sk1 a1 a2 a3 a4 =>
  have R2 := run_st (lo := lo) (K := K) (q := s1.e.sz + nl s1.b) (sk := sk1) (log := s1.due c.full 1 l1 r1) (steps := 0 + k1) (t := some t1) hC rfl E2 g2 f1 (by unfold Stm.due; lia) a2 a3 (by lia) (by lia)
  have p1 : fin ((0 + s1.e.sz + 1 : Nat) : Int) s1.b = ((s1.e.sz + nl s1.b : Nat) : Int) := by rw [fin_eq]; lia
  have p2 : fin ((s1.e.sz + nl s1.b + s2.e.sz + 1 : Nat) : Int) s2.b = ((s1.e.sz + nl s1.b + (s2.e.sz + nl s2.b) : Nat) : Int) := by rw [fin_eq]; lia
  have a4 : Sts lo K c k1 ⟨.z [], 0, "", [], 0, none⟩ ⟨sk1, fin ((0 + s1.e.sz + 1 : Nat) : Int) s1.b, "", s1.due c.full 1 l1 r1, 0 + k1, some t1⟩ := a4
  rw [p1] at a4
  cases R2 with
  | @mk k2 t2 sk2 b1 b2 b3 b4 =>
   have b4 : Sts lo K c k2 ⟨sk1, ((s1.e.sz + nl s1.b : Nat) : Int), "", s1.due c.full 1 l1 r1, 0 + k1, some t1⟩ ⟨sk2, fin ((s1.e.sz + nl s1.b + s2.e.sz + 1 : Nat) : Int) s2.b, "", s1.due c.full 1 l1 r1 ++ s2.due c.full 2 l2 r2, 0 + k1 + k2, some t2⟩ := b4
   rw [p2] at b4
   let q := s1.e.sz + nl s1.b + (s2.e.sz + nl s2.b)
   have hlen : (s1.due c.full 1 l1 r1 ++ s2.due c.full 2 l2 r2).length ≤ 900 := by rw [List.length_append]; unfold Stm.due; lia
   have q1 : Sts lo K c 1 ⟨sk2, (q : Int), "", s1.due c.full 1 l1 r1 ++ s2.due c.full 2 l2 r2, 0 + k1 + k2, some t2⟩ _ := .one (fun n => s_deed) ⟨blC_of hlen, preC_of hC g3.hd (by lia)⟩ trivial
   have q2 := q1.trans (.one (fun n => s_leave) (preC_of hC g3.tl.hd (by lia)) trivial)
   have q3 := q2.trans (.one (fun n => s_stop) (preC_of hC g3.tl.tl.hd (by lia)) trivial)
   have T := a4.trans (b4.trans q3)
   exact end_ok T (by lia)
end
noncomputable def extB (l : List V) : Option (List V) → List V
 | none => l
 | some e => l ++ e
def extC (l : List V) (P : Prop) : Option (List V) → Prop
 | none => P
 | some e => (l.length + e.length).ble sizeLine = true ∧ P
def szB (x y : Int) : Br → Option (List V)
 | .o => none
 | .n => none
 | _ => some [saidV x, saidV y]
def ntB (z : Int) : Br → Option (List V)
 | .o => none
 | .s => none
 | _ => some [saidV z]
noncomputable def duD (full : Bool) : Br → Option Dc → List (Nat × Dec)
 | .o, none => []
 | .n, none => []
 | .s, none => [(7, .b true)]
 | .sn, none => [(7, .b true)]
 | .ns, none => [(10, .b true)]
 | .o, some _ => [(4, .b true)]
 | .n, some _ => (4, .b true) :: cond full [] [(4, .b true)]
 | .s, some _ => (4, .b true) :: cond full [(4, .b true)] []
 | .sn, some _ => [(4, .b true), (cond full 4 7, .b true)]
 | .ns, some _ => [(4, .b true), (cond full 7 4, .b true)]
def duN (full : Bool) (rows : V) (x y z : Int) (b : Br) (l : List V) : Option Dc → List V
 | none => extB l (szB x y b)
 | some w => extB (l ++ [.tup [rows, pv w]]) (cond full (szB x y b) (ntB z b))
def duC (full : Bool) (rows : V) (x y z : Int) (b : Br) (l : List V) (P : Prop) : Option Dc → Prop
 | none => extC l P (szB x y b)
 | some w => extC (l ++ [.tup [rows, pv w]]) (blC l ∧ P) (cond full (szB x y b) (ntB z b))
section
variable {lo : List Str} {K : Params → Frag} {n : Nat} {w : Num} {v rows : V} {x y z : Int} {l l1 : List V}
theorem du_run (b : Br) (full : Bool) (r : Option Dc) : callX (GG lo K) FF (n + 13) true (.glob 793) [stmtV v rows x y z b, .hnd 0, .bool full, .hnd 1] ⟨lawS w l, duD full b r, [woO 11 v w l r l1], True⟩ = some (.ok .none, ⟨lawS w (duN full rows x y z b l1 r), [], [], duC full rows x y z b l1 (woF 11 v w l r l1 ∧ True) r⟩) := by
 cases b <;> cases full <;> cases r <;> kernel_rfl
theorem extB_eq (l : List V) (o : Option (List V)) : extB l o = l ++ o.getD [] := by cases o <;> simp [extB]
theorem extC_of {P : Prop} {o : Option (List V)} (h : l.length + (o.getD []).length ≤ 900) (hP : P) : extC l P o := by
 cases o with
 | none => exact hP
 | some e => exact ⟨Nat.ble_eq_true_of_le (Nat.le_trans h (by unfold sizeLine; lia)), hP⟩
theorem szB_eq (b : Br) : (szB x y b).getD [] = brS x y b := by cases b <;> rfl
theorem ntB_eq (b : Br) : (ntB z b).getD [] = brN z b := by cases b <;> rfl
theorem duN_eq {full : Bool} {b : Br} {r : Option Dc} : duN full rows x y z b (l ++ l1) r = l ++ dueL full rows x y z b l1 r := by
 cases r with
 | none => show extB _ _ = l ++ (l1 ++ _); rw [extB_eq, szB_eq, List.append_assoc]
 | some u =>
  show extB _ _ = l ++ (l1 ++ _ ++ _)
  rw [extB_eq]
  cases full
  ·rw [cond_false, cond_false, ntB_eq, List.append_assoc, List.append_assoc, List.append_assoc]
  ·rw [cond_true, cond_true, szB_eq, List.append_assoc, List.append_assoc, List.append_assoc]
theorem du_ok {s : Stm} (hs : s.Ok) {full : Bool} {k : Int} {r : Option Dc} (E : EvE lo K w s.e l1 r) (hl : flatVs l = true) (hn : l.length + l1.length ≤ 800) : CallR (GG lo K) FF 13 true 793 [stmtV (vE s.e) s.rows (10 * k) (10 * k + 1) (10 * k + 2) s.b, .hnd 0, .bool full, .hnd 1] (lawS w l) (.ok .none) (lawS w (l ++ s.due full k l1 r)) := by
 unfold Stm.due
 rw [← duN_eq]
 have hf := flat_app hl E.flat
 have c := worth_ok (lo := lo) (K := K) E hs.ht (Nat.le_refl 3) hl (by lia)
 have e1 : (l ++ l1).length = l.length + l1.length := List.length_append
 have z1 : (brS (10 * k) (10 * k + 1) s.b).length ≤ 2 := by cases s.b <;> exact Nat.le_of_ble_eq_true rfl
 have z2 : (brN (10 * k + 2) s.b).length ≤ 2 := by cases s.b <;> exact Nat.le_of_ble_eq_true rfl
 refine .of G0_plain (fun n => du_run s.b full r) ?_ ⟨c.orc, trivial⟩
 cases r with
 | none => exact extC_of (by rw [szB_eq]; lia) ⟨law_fits (vE_flat s.e) hl hf, trivial⟩
 | some u =>
  have e2 : (l ++ l1 ++ [V.tup [s.rows, pv u]]).length = l.length + l1.length + 1 := by rw [List.length_append, e1]; rfl
  refine extC_of ?_ ⟨blC_of (by lia), law_fits (vE_flat s.e) hl hf, trivial⟩
  cases full
  ·rw [cond_false, ntB_eq]; lia
  ·rw [cond_true, szB_eq]; lia
end
def pS (zs : List V) (p : Dc) : Sto := penS zs p ++ [.cell (some (.hnd 0))]
abbrev penC : List (Str × Nat) := [(S "pen", 2)]
noncomputable def bit (b : Bool) : Int := cond b 0 1
noncomputable def brOf : Bool → Bool → Bool → Br
 | true, true, true => .ns
 | true, true, false => .sn
 | true, false, _ => .s
 | false, true, _ => .n
 | false, false, _ => .o
def rhoSt (k : Int) (br : V) : Loc := [(S "number", .int k), (S "branches", br)]
def rowV (x : String) (d : Int) (c : String) : V := .tup [refV x, .bool (d == 1), s_ c]
def pickC (e : Int) (c : String) : Prop := getItV (s_ "=+-*/") (.int e) [] = some (s_ c)
section
variable {lo : List Str} {K : Params → Frag} {n : Nat} {zs rl : List V} {p p1 p2 p3 p4 p5 : Dc} {k d d' e e' : Int} {c c' : String} {v br rows : V}
theorem sd_a (hk : k = 1 ∨ k = 2) (a b c : Bool) : blkX (GG lo K) FF (n + 12) f798 true penC deep (f798.body.take 4) [(S "number", .int k)] ⟨pS zs p, [], [drawO 2 (bit a) zs p p1, drawO 2 (bit b) zs p1 p2, drawO 2 (bit c) zs p2 p3], True⟩ =
  some (.ok (.next, rhoSt k (brV (10 * k) (10 * k + 1) (10 * k + 2) (brOf a b c))), ⟨pS zs p3, [], [], (drawO 2 (bit c) zs p2 p3).fits 3 (penS zs p2) ∧ (drawO 2 (bit b) zs p1 p2).fits 3 (penS zs p1) ∧ (drawO 2 (bit a) zs p p1).fits 3 (penS zs p) ∧ True⟩) := by
 rcases hk with rfl | rfl <;> cases a <;> cases b <;> cases c <;> kernel_rfl
theorem sd_b : blkX (GG lo K) FF (n + 12) f798 true penC deep ((f798.body.drop 4).take 1) (rhoSt k br) ⟨pS zs p, [(4, .v (s_ c))], [drawO 2 0 zs p p1, drawO 2 d zs p1 p2, drawO 5 e zs p2 p3], True⟩ =
  some (.ok (.next, rhoSt k br ++ [(S "rows", .tup [rowV "G0" d c])]), ⟨pS zs p3 ++ [.list [rowV "G0" d c]], [], [], pickC e c ∧ (drawO 5 e zs p2 p3).fits 3 (penS zs p2) ∧ (drawO 2 d zs p1 p2).fits 3 (penS zs p1) ∧ (drawO 2 0 zs p p1).fits 3 (penS zs p) ∧ True⟩) := by kernel_rfl
theorem sd_b2 : blkX (GG lo K) FF (n + 12) f798 true penC deep ((f798.body.drop 4).take 1) (rhoSt k br) ⟨pS zs p, [(4, .v (s_ c)), (3, .v (s_ c'))], [drawO 2 1 zs p p1, drawO 2 d zs p1 p2, drawO 5 e zs p2 p3, drawO 2 d' zs p3 p4, drawO 5 e' zs p4 p5], True⟩ =
  some (.ok (.next, rhoSt k br ++ [(S "rows", .tup [rowV "G0" d c, rowV "G1" d' c'])]), ⟨pS zs p5 ++ [.list [rowV "G0" d c, rowV "G1" d' c']], [], [], pickC e' c' ∧ (drawO 5 e' zs p4 p5).fits 3 (penS zs p4) ∧ (drawO 2 d' zs p3 p4).fits 3 (penS zs p3) ∧
   pickC e c ∧ (drawO 5 e zs p2 p3).fits 3 (penS zs p2) ∧ (drawO 2 d zs p1 p2).fits 3 (penS zs p1) ∧ (drawO 2 1 zs p p1).fits 3 (penS zs p) ∧ True⟩) := by kernel_rfl
theorem sd_c : blkX (GG lo K) FF (n + 12) f798 true penC deep (f798.body.drop 5) (rhoSt k br ++ [(S "rows", rows)]) ⟨pS zs p ++ [.list rl], [], [exprO 9 3 v zs p p1], True⟩ =
  some (.ok (.ret (.tup [s_ "arith", v, rows, br]), rhoSt k br ++ [(S "rows", rows)]), ⟨pS zs p1 ++ [.list rl], [], [], (exprO 9 3 v zs p p1).fits 4 (penS zs p) ∧ True⟩) := by kernel_rfl
theorem pick_s (h0 : 0 ≤ e) (h1 : e < 5) : ∃ c, pickC e c ∧ GdN 0 (s_ c) := by
 have : e = 0 ∨ e = 1 ∨ e = 2 ∨ e = 3 ∨ e = 4 := by lia
 have g : ∀ {x : String}, PyData.canLay0 (.str (S x)) = true → GdN 0 (s_ x) := fun h => ⟨_, rfl, h, Nat.le_refl _⟩
 rcases this with rfl | rfl | rfl | rfl | rfl
 ·exact ⟨"=", by unfold pickC; kernel_rfl, g (by kernel_rfl)⟩
 ·exact ⟨"+", by unfold pickC; kernel_rfl, g (by kernel_rfl)⟩
 ·exact ⟨"-", by unfold pickC; kernel_rfl, g (by kernel_rfl)⟩
 ·exact ⟨"*", by unfold pickC; kernel_rfl, g (by kernel_rfl)⟩
 ·exact ⟨"/", by unfold pickC; kernel_rfl, g (by kernel_rfl)⟩
theorem GdN.up {i j : Nat} (h : GdN i v) (hij : i ≤ j) : GdN j v := let ⟨d, h1, h2, h3⟩ := h; ⟨d, h1, h2, Nat.le_trans h3 hij⟩
theorem gd_all {i : Nat} : ∀ {l : List V}, (∀ v ∈ l, GdN i v) → ∃ ds, dats0 l = some ds ∧ PyData.canLayAll0 ds = true ∧ PyData.depthAll ds ≤ i
 | [], _ => ⟨[], rfl, rfl, Nat.zero_le _⟩
 | v :: r, h => by
  obtain ⟨d, h1, h2, h3⟩ := h v List.mem_cons_self
  obtain ⟨ds, g1, g2, g3⟩ := gd_all fun u hu => h u (List.mem_cons_of_mem _ hu)
  exact ⟨d :: ds, by rw [dats0, h1, g1]; rfl, by rw [PyData.canLayAll0, h2, g2]; rfl, by rw [PyData.depthAll]; exact Nat.max_le.mpr ⟨h3, g3⟩⟩
theorem GdN.tup {i : Nat} {l : List V} (h : ∀ v ∈ l, GdN i v) : GdN (i + 1) (.tup l) := by
 obtain ⟨ds, h1, h2, h3⟩ := gd_all h
 exact ⟨.tuple ds, by rw [dat0, h1]; rfl, by rw [PyData.canLay0]; exact h2, by rw [PyData.depth]; exact Nat.succ_le_succ h3⟩
theorem gd2 {i : Nat} {u v : V} (h1 : GdN i u) (h2 : GdN i v) : GdN (i + 1) (.tup [u, v]) := .tup fun w hw => by
 rcases List.mem_cons.mp hw with rfl | hw
 ·exact h1
 ·exact List.mem_singleton.mp hw ▸ h2
theorem row_gd {x : String} (hx : GdN 2 (refV x)) (hc : GdN 0 (s_ c)) : GdN 3 (rowV x d c) := .tup fun v hv => by
 rcases List.mem_cons.mp hv with rfl | hv
 ·exact hx
 ·rcases List.mem_cons.mp hv with rfl | hv
  ·exact ⟨_, rfl, rfl, Nat.zero_le _⟩
  ·exact List.mem_singleton.mp hv ▸ hc.up (by decide)
theorem ref_gd {x : String} (h : PyData.canLay0 (.str (S x)) = true) : GdN 2 (refV x) :=
 ⟨_, rfl, by show (PyData.canLay0 (.str (S "ref")) && (PyData.canLay0 (.str (S x)) && _)) = true; rw [h, show PyData.canLay0 (.str (S "ref")) = true by kernel_rfl]; rfl, Nat.le_of_ble_eq_true rfl⟩
abbrev DrC (lo : List Str) (K : Params → Frag) (zs : List V) (many d : Int) (p p' : Dc) : Prop := CallR (GG lo K) FF 5 true 744 [.hnd 0, .int many] (penS zs p) (.ok (.int d)) (penS zs p')
inductive Drw2 (lo : List Str) (K : Params → Frag) (zs : List V) (m : Nat) (p : Dc) : Prop
 | mk (a : Bool) (p' : Dc) : Pen (m + 1) p' → DrC lo K zs 2 (bit a) p p' → Drw2 lo K zs m p
theorem draw2 (hz : Cells zs) {m : Nat} (hp : Pen m p) (hm : m ≤ 1000) : Drw2 lo K zs m p := by
 obtain ⟨d, p', a1, a2, a3, a4⟩ := draw_ok (lo := lo) (K := K) hz hp hm (by decide : 0 < (2 : Int)) (by decide)
 have : d = 0 ∨ d = 1 := by lia
 rcases this with rfl | rfl
 ·exact ⟨true, p', a3, a4⟩
 ·exact ⟨false, p', a3, a4⟩
inductive SdR (lo : List Str) (K : Params → Frag) (zs : List V) (k : Int) (m : Nat) (p : Dc) : Prop
 | mk (s : Stm) (p' : Dc) (rl : List V) : Stm.Ok s → Pen (m + 46) p' → flatVs rl = true → CallR (GG lo K) FF 13 true 798 [.hnd 0, .int k] (penS zs p) (.ok (s.v k)) (pS zs p' ++ [.list rl]) → SdR lo K zs k m p
theorem sd_ok (hz : Cells zs) (hk : k = 1 ∨ k = 2) {m : Nat} (hp : Pen m p) (hm : m + 46 ≤ 1000) : SdR lo K zs k m p := by
 have hf := hz.flat
 obtain ⟨a, p1, a1, a2⟩ := draw2 (lo := lo) (K := K) hz hp (by lia)
 obtain ⟨b, p2, b1, b2⟩ := draw2 (lo := lo) (K := K) hz a1 (by lia)
 obtain ⟨c, p3, c1, c2⟩ := draw2 (lo := lo) (K := K) hz b1 (by lia)
 have A : ∀ n, BlkR (GG lo K) FF (n + 12) f798 true penC deep (f798.body.take 4) [(S "number", .int k)] (pS zs p) (.ok (.next, rhoSt k (brV (10 * k) (10 * k + 1) (10 * k + 2) (brOf a b c)))) (pS zs p3) := fun n => .of G0_plain (sd_a hk a b c) ⟨pen_fits hf rfl, pen_fits hf rfl, pen_fits hf rfl, trivial⟩ ⟨a2.orc, b2.orc, c2.orc, trivial⟩
 have key : ∀ {q : Dc} {rl : List V}, Pen (m + 8) q → flatVs rl = true → GdN 4 (.tup rl) → (∀ n br, BlkR (GG lo K) FF (n + 12) f798 true penC deep ((f798.body.drop 4).take 1) (rhoSt k br) (pS zs p3) (.ok (.next, rhoSt k br ++ [(S "rows", .tup rl)])) (pS zs q ++ [.list rl])) → SdR lo K zs k m p := fun {q rl} hq hr hgd B => by
  obtain ⟨e, p', D⟩ := expr_ok (lo := lo) (K := K) hz 3 (Nat.le_refl _) hq (by show m + 8 + 38 ≤ 1000; lia)
  refine ⟨⟨e, .tup rl, brOf a b c⟩, p', rl, ⟨D.ok, D.ht, hr, hgd⟩, D.pen, hr, ?_⟩
  exact CallR.bodyC (k := 12) (F := FF) (r := .ok (.ret (stmtV (vE e) (.tup rl) (10 * k) (10 * k + 1) (10 * k + 2) (brOf a b c)), _)) (fn := f798) (cs := [S "pen"]) (cv := [.cell (some (.hnd 0))]) (by kernel_rfl) (by kernel_rfl) rfl (by kernel_rfl) (by kernel_rfl) (show f798.body = f798.body.take 4 ++ ((f798.body.drop 4).take 1 ++ f798.body.drop 5) by kernel_rfl)
   fun n => .app (A n) (.app (B n _) (.of G0_plain sd_c ⟨pen_fits hf (vE_flat e), trivial⟩ ⟨D.c.orc, trivial⟩))
 obtain ⟨r, p4, e1, e2⟩ := draw2 (lo := lo) (K := K) hz c1 (by lia)
 obtain ⟨x, p5, f1, f2⟩ := draw2 (lo := lo) (K := K) hz e1 (by lia)
 obtain ⟨y, p6, g1, g2, g3, g4⟩ := draw_ok (lo := lo) (K := K) hz f1 (by lia) (by decide : 0 < (5 : Int)) (by decide)
 obtain ⟨u, h1, h2⟩ := pick_s g1 g2
 have rg : GdN 3 (rowV "G0" (bit x) u) := row_gd (ref_gd (by kernel_rfl)) h2
 cases r with
 | true => exact key (g3.up (by lia)) rfl (.tup fun v hv => List.mem_singleton.mp hv ▸ rg) fun n br => .of G0_plain sd_b ⟨h1, pen_fits hf rfl, pen_fits hf rfl, pen_fits hf rfl, trivial⟩ ⟨e2.orc, f2.orc, g4.orc, trivial⟩
 | false =>
  obtain ⟨x', p7, k1, k2⟩ := draw2 (lo := lo) (K := K) hz g3 (by lia)
  obtain ⟨y', p8, l1, l2, l3, l4⟩ := draw_ok (lo := lo) (K := K) hz k1 (by lia) (by decide : 0 < (5 : Int)) (by decide)
  obtain ⟨u', m1, m2⟩ := pick_s l1 l2
  exact key l3 rfl (gd2 rg (row_gd (ref_gd (by kernel_rfl)) m2)) fun n br => .of G0_plain sd_b2 ⟨m1, pen_fits hf rfl, pen_fits hf rfl, h1, pen_fits hf rfl, pen_fits hf rfl, pen_fits hf rfl, trivial⟩ ⟨e2.orc, f2.orc, g4.orc, k2.orc, l4.orc, trivial⟩
end
theorem range_pick (l : List V) : ∀ (m : Nat), m ≤ l.length → (List.range m).filterMap (l[·]?) = l.take m
 | 0, _ => rfl
 | m + 1, h => by
  rw [List.range_succ, List.filterMap_append, range_pick l m (by lia), List.take_add_one]
  have : l[m]? = some l[m] := List.getElem?_eq_getElem (by lia)
  simp only [List.filterMap_cons, List.filterMap_nil, this, Option.toList]
theorem pick_upto (l : List V) (b : Nat) (h : l.length ≤ b) : pickV l none (some (b : Int)) none = l := by
 unfold pickV
 rw [sliceBounds_plain]
 simp only [Option.elim]
 rw [clipAt_nat, show min b l.length = l.length by lia]
 have : sliceRange ((0 : Nat) : Int) ((l.length : Nat) : Int) 1 = List.range l.length := by
  rw [sliceRange_one, Nat.sub_zero]
  conv => rhs; rw [← List.map_id (List.range l.length)]
  exact List.map_congr_left fun k _ => by simp
 rw [this, range_pick l _ (Nat.le_refl _), List.take_length]
noncomputable def nthE (l : List Expr) (i : Nat) : Expr := l.getD i default
def penS_ : Stmt := f737.body.getD 0 (.Pass pz)
def penL : List Expr := match planE true false (valOf penS_) with
 | .list es => es
 | _ => []
def penX : Expr := nthE penL 0
def slcO : Expr := match planE true false (itrOf penX) with
 | .slice o _ _ _ => o
 | _ => default
def slcH : Option Expr := match planE true false (itrOf penX) with
 | .slice _ _ h _ => h
 | _ => none
section
variable {lo : List Str} {K : Params → Frag} {n : Nat} {l : List Int}
abbrev rhoN (l : List Int) : Loc := [(S "script", .lstK (l.map .int))]
abbrev pnV (lo : List Str) (K : Params → Frag) (n d : Nat) := (evS (GG lo K) (callF (GG lo K) FF (n + 2)) f737 true d).val
theorem Run.newL {l : List V} {a : Sto} : Run V.mp (fun e => newO (O.list (V.mps e l))) a (.ok (.hnd a.length)) (a ++ [.list l]) := ⟨fun e b S => newO_tr (o := .list l) nofun _ _ _ _ (S.less (Nat.le_refl _) (by simp)) rfl (Nat.le_refl _), by simp⟩
theorem mps_ints {e : Nat → Nat} : V.mps e (l.map .int) = l.map .int := flat_mps (flat_ints l)
theorem pn_iter (hl : l.length ≤ 63) : ExR (GG lo K) FF (n + 2) f737 true [] 18 (itrOf penX) (rhoN l) [] (.ok (.hnd 0)) [.list (l.map .int)] := by
 refine (Run.newL (l := l.map .int) (a := [])).of_eq fun e => funext fun b => ?_
 show newO (O.list (V.mps e (l.map .int))) b = valS (GG lo K) (callF (GG lo K) FF (n + 2)) f737 true (evS (GG lo K) (callF (GG lo K) FF (n + 2)) f737 true 17) false f737.sc [] (mpP e (rhoN l)) (planE true false (itrOf penX)) b
 rw [show planE true false (itrOf penX) = .slice slcO none slcH none by kernel_rfl]
 symm
 have h1 : pnV lo K n 17 false f737.sc [] (mpP e (rhoN l)) slcO b = some (.ok (.lstK (V.mps e (l.map .int))), b) := by kernel_rfl
 have h2 : partE (pnV lo K n 17 false f737.sc [] (mpP e (rhoN l))) slcH b = some (.ok (.int 63), b) := by kernel_rfl
 unfold valS
 dsimp only
 refine (bind_ok h1).trans ?_
 refine (bind_ok (m := partE _ none) rfl).trans ?_
 refine (bind_ok h2).trans ?_
 refine (bind_ok (m := partE _ none) rfl).trans ?_
 have : sliceV (.lstK (V.mps e (l.map .int))) .none (.int 63) .none b = some (V.mps e (l.map .int)) := by
  rw [mps_ints]
  show (if (l.map V.int).length ≤ sizeLine ∧ (none : Option Int) ≠ some 0 then some (pickV (l.map .int) none (some ((63 : Nat) : Int)) none) else none) = _
  rw [if_pos ⟨by rw [List.length_map]; unfold sizeLine; lia, by simp⟩, pick_upto _ 63 (by rw [List.length_map]; exact hl)]
 unfold sliceM
 rw [this]; rfl
theorem pn_elt {zs : List V} (i : Int) : (evX (GG lo K) (callX (GG lo K) FF (n + 2)) f737 true 18).val true (cscOf penX) [] [(S "cell", .int i)] (eltOf penX) ⟨[.list zs], [], [], True⟩ = some (.ok (.int i), ⟨[.list zs], [], [], True⟩) := by kernel_rfl
theorem pn_comp (hl : l.length ≤ 63) : ∀ {suf pr : List Int} {k : Nat}, pr ++ suf = l → suf.length < k → CompR (S "cell") (fun e ρ' => (evS (GG lo K) (callF (GG lo K) FF (n + 2)) f737 true 18).val true (cscOf penX) (mpC e []) ρ' (eltOf penX)) (.lst 0) k pr.length (pr.map .int) [.list (l.map .int)] (.ok (l.map .int)) [.list (l.map .int)]
 | [], pr, k + 1, h, _ => by
  rw [List.append_nil] at h
  subst h
  exact .over (show some (pr.map V.int)[pr.length]? = _ by rw [List.getElem?_eq_none (by rw [List.length_map]; exact Nat.le_refl _)])
 | i :: suf, pr, k + 1, h, hk => by
  have hp : pr.length ≤ 63 := by rw [← h, List.length_append] at hl; lia
  have ih := pn_comp hl (suf := suf) (pr := pr ++ [i]) (k := k) (by rw [← h]; simp) (Nat.lt_of_succ_lt_succ hk)
  rw [List.length_append, List.map_append] at ih
  refine .go (y := .int i) (z := .int i) ?_ (.of (fun N e => (evX_tr G0_plain.1 (callX_tr G0_plain (n + 2)) 18).val true (cscOf penX) [] [(S "cell", .int i)] (eltOf penX)) (pn_elt i) trivial trivial) (by rw [List.length_map]; unfold sizeLine; lia) ih
  show some (l.map V.int)[pr.length]? = _
  rw [← h, List.map_append, List.getElem?_append_right (by rw [List.length_map]; exact Nat.le_refl _), List.length_map, Nat.sub_self]; rfl
theorem pen_ok (hl : l.length ≤ 63) : CallR (GG lo K) FF 3 true 737 [.lstK (l.map .int)] [] (.ok (.hnd 2)) [.list (l.map .int), .list (l.map .int), .list [.hnd 1, .int 0, .int 0]] := by
 refine CallR.body (k := 2) (fl := .ret (.hnd 2)) (fn := f737) (ρ := rhoN l) (ρ' := rhoN l) (by kernel_rfl) (by kernel_rfl) rfl (by kernel_rfl) (show f737.body = [penS_] by kernel_rfl) fun n => ?_
 have c : ExR (GG lo K) FF (n + 2) f737 true [] 19 penX (rhoN l) [] (.ok (.hnd 1)) [.list (l.map .int), .list (l.map .int)] := .comp (iter := itrOf penX) (y := S "cell") (csc := cscOf penX) (CL' := []) (it := .lst 0) (by kernel_rfl) (fun e => by kernel_rfl) (pn_iter hl) rfl (pn_comp hl (suf := l) (pr := []) rfl (by unfold turns; lia))
 have k1 : ∀ (e : Nat → Nat) (b : Sto), (evS (GG lo K) (callF (GG lo K) FF (n + 2)) f737 true 19).val false f737.sc [] (mpP e (rhoN l)) (nthE penL 1) b = some (.ok (.int 0), b) := fun e b => by kernel_rfl
 have k2 : ∀ (e : Nat → Nat) (b : Sto), (evS (GG lo K) (callF (GG lo K) FF (n + 2)) f737 true 19).val false f737.sc [] (mpP e (rhoN l)) (nthE penL 2) b = some (.ok (.int 0), b) := fun e b => by kernel_rfl
 have h : ExR (GG lo K) FF (n + 2) f737 true [] 20 (valOf penS_) (rhoN l) [] (.ok (.hnd 2)) [.list (l.map .int), .list (l.map .int), .list [.hnd 1, .int 0, .int 0]] := c.step (Run.newL (l := [.hnd 1, .int 0, .int 0])) fun e b b1 _ _ h => by
  show valS (GG lo K) (callF (GG lo K) FF (n + 2)) f737 true (evS (GG lo K) (callF (GG lo K) FF (n + 2)) f737 true 19) false f737.sc [] (mpP e (rhoN l)) (planE true false (valOf penS_)) b = _
  rw [show planE true false (valOf penS_) = .list [penX, nthE penL 1, nthE penL 2] by kernel_rfl]
  unfold valS
  dsimp only
  exact (bind_ok (evl_cons h (evl_cons (k1 e b1) (evl_cons (k2 e b1) rfl)))).trans rfl
 exact .ret (r := .ok (.hnd 2)) (by kernel_rfl) h
end
def lawT : O := .tab (S "law" ++ ".<locals>." ++ "<lambda>")
abbrev lawL : List (Str × Nat) := [(S "numbers", 2), (S "log", 3), (S "full", 4)]
structure Dn where
 zs : List V
 r1 : List V
 r2 : List V
 v1 : V
 v2 : V
noncomputable def penB (p : Dc) : O := .list [.hnd 6, .int p.1, .int p.2]
def penC1 (zs : List V) : Cal := ⟨⟨3, true, 737, [.lstK zs], [], .ok (.hnd 2), [.list zs, .list zs, .list [.hnd 1, .int 0, .int 0]]⟩, [], .ok (.hnd 7), [.list zs, .list zs, penB (0, 0)]⟩
def sdC (zs : List V) (k : Int) (v : V) (p p' : Dc) (rl : List V) : Cal := ⟨⟨13, true, 798, [.hnd 0, .int k], penS zs p, .ok v, pS zs p' ++ [.list rl]⟩, [7, 6], .ok v, [penB p', .list zs, .cell (some (.hnd 7)), .list rl]⟩
def drC (many d : Int) (zs : List V) (p p' : Dc) : Cal := ⟨⟨5, true, 744, [.hnd 0, .int many], penS zs p, .ok (.int d), penS zs p'⟩, [7, 6], .ok (.int d), [penB p', .list zs]⟩
def duO (v : V) (full : Bool) (w : Num) (l l' : List V) : Cal := ⟨⟨13, true, 793, [v, .hnd 0, .bool full, .hnd 1], lawS w l, .ok .none, lawS w l'⟩, [12, 14], .ok .none, lawS w l'⟩
def lwS (D : Dn) (p : Dc) (fu lg nu : Option V) : Sto := [lamT, lawT, .cell nu, .cell lg, .cell fu, .list D.zs, .list D.zs, penB p, .cell (some (.hnd 7)), .list D.r1, .cell (some (.hnd 7)), .list D.r2]
def rhoL (D : Dn) (t : Loc) : Loc := [(S "script", .lstK D.zs), (S "pen", .hnd 7), (S "statements", .tup [D.v1, D.v2, saidV 99])] ++ t
def numP (w : Num) : Nat → List (Str × V)
 | 0 => []
 | 1 => [(S "A", noV (w .A))]
 | 2 => [(S "A", noV (w .A)), (S "B", noV (w .B))]
 | 3 => [(S "A", noV (w .A)), (S "B", noV (w .B)), (S "C", noV (w .C))]
 | _ => [(S "A", noV (w .A)), (S "B", noV (w .B)), (S "C", noV (w .C)), (S "D", noV (w .D))]
noncomputable def Nm.ix : Nm → Nat
 | .A => 0
 | .B => 1
 | .C => 2
 | .D => 3
def lwW : Stmt := f805.body.getD 3 (.Pass pz)
def nmT (t : Option V) : Loc := match t with
 | none => []
 | some y => [(S "name", y)]
def prevN : Nm → Option V
 | .A => none
 | .B => some (s_ "A")
 | .C => some (s_ "B")
 | .D => some (s_ "C")
def namesO : O := .list [s_ "A", s_ "B", s_ "C", s_ "D"]
abbrev drF (n : Nat) (many d : Int) (zs : List V) (p p' : Dc) : Prop := CalC [7, 6] n (drC many d zs p p').o [.hnd 7, .int many] [penB p, .list zs] (.ok (.int d)) [penB p', .list zs]
abbrev sdF (n : Nat) (zs : List V) (k : Int) (v : V) (p p' : Dc) (rl : List V) : Prop := CalC [7, 6] n (sdC zs k v p p' rl).o [.hnd 7, .int k] [penB p, .list zs] (.ok v) [penB p', .list zs, .cell (some (.hnd 7)), .list rl]
abbrev duF (n : Nat) (v : V) (full : Bool) (w : Num) (l l' : List V) : Prop := CalC [12, 14] n (duO v full w l l').o [v, .hnd 12, .bool full, .hnd 14] [numD w, .list l] (.ok .none) [numD w, .list l']
abbrev rhoD (D : Dn) : Loc := rhoL D [(S "name", s_ "D"), (S "due", .hnd 14)]
section
variable {lo : List Str} {K : Params → Frag} {n : Nat} {D : Dn} {w : Num} {p p1 p2 p3 p4 : Dc} {d d1 d2 d3 d4 u s : Int} {f : Bool} {l1 l2 : List V}
theorem lw_a : blkX (GG lo K) FF (n + 16) f805 true lawL deep (f805.body.take 3) [(S "script", .lstK D.zs)] ⟨[lamT, lawT, .cell none, .cell none, .cell none], [], [penC1 D.zs, sdC D.zs 1 D.v1 (0, 0) p D.r1, sdC D.zs 2 D.v2 p p1 D.r2], True⟩ =
  some (.ok (.next, rhoL D []), ⟨lwS D p1 none none (some (.hnd 12)) ++ [.sdict []], [], [], sdF 10 D.zs 2 D.v2 p p1 D.r2 ∧ sdF 8 D.zs 1 D.v1 (0, 0) p D.r1 ∧ CalC [] 5 (penC1 D.zs).o [.lstK D.zs] [] (.ok (.hnd 7)) [.list D.zs, .list D.zs, penB (0, 0)] ∧ True⟩) := by kernel_rfl
theorem lw_it : exX (GG lo K) FF (n + 16) f805 true lawL (iterOf lwW) (rhoL D []) ⟨lwS D p none none (some (.hnd 12)) ++ [.sdict []], [], [], True⟩ = some (.ok (.hnd 13), ⟨lwS D p none none (some (.hnd 12)) ++ [.sdict [], namesO], [], [], True⟩) := by kernel_rfl
theorem lw_turn (a : Nm) : turnX (GG lo K) FF (n + 16) f805 true lawL 19 (S "name") (bodyOf lwW) (s_ a.str) (rhoL D (nmT (prevN a))) ⟨lwS D p none none (some (.hnd 12)) ++ [.sdict (numP w a.ix), namesO], [(10, .v (noV (w a)))], [drC 100 d1 D.zs p p1, drC 3 d2 D.zs p1 p2, decO (d1 - 40) d2 u s, drC 9 d3 D.zs p2 p3, drC 4 d4 D.zs p3 p4], True⟩ =
  some (.ok (.next, rhoL D (nmT (some (s_ a.str)))), ⟨lwS D p4 none none (some (.hnd 12)) ++ [.sdict (numP w (a.ix + 1)), namesO], [], [], pick d4 [pv (0, 0), pv (u, s), pv (d3, 0), .none] (noV (w a)) ∧ drF 14 4 d4 D.zs p3 p4 ∧ drF 14 9 d3 D.zs p2 p3 ∧ (decO (d1 - 40) d2 u s).p 14 ∧ drF 14 3 d2 D.zs p1 p2 ∧ drF 14 100 d1 D.zs p p1 ∧ True⟩) := by cases a <;> kernel_rfl
theorem lw_b : blkX (GG lo K) FF (n + 16) f805 true lawL deep ((f805.body.drop 4).take 2) (rhoL D (nmT (some (s_ "D")))) ⟨lwS D p none none (some (.hnd 12)) ++ [numD w, namesO], [], [drC 3 d D.zs p p1], True⟩ =
  some (.ok (.next, rhoD D), ⟨lwS D p1 (some (.bool (d == 0))) none (some (.hnd 12)) ++ [numD w, namesO, .list []], [], [], drF 14 3 d D.zs p p1 ∧ True⟩) := by kernel_rfl
theorem lw_c : blkX (GG lo K) FF (n + 16) f805 true lawL deep ((f805.body.drop 6).take 3) (rhoD D) ⟨lwS D p (some (.bool f)) none (some (.hnd 12)) ++ [numD w, namesO, .list []], [(3, .b true)], [duO D.v1 f w [] l1, duO D.v2 f w l1 l2], True⟩ =
  some (.ok (.next, rhoD D), ⟨lwS D p (some (.bool f)) none (some (.hnd 12)) ++ [numD w, namesO, .list (l2 ++ [saidV 99])], [], [], blC l2 ∧ duF 15 D.v2 f w l1 l2 ∧ duF 15 D.v1 f w [] l1 ∧ True⟩) := by kernel_rfl
theorem lw_d : blkX (GG lo K) FF (n + 16) f805 true lawL deep ((f805.body.drop 9).take 2) (rhoD D) ⟨lwS D p (some (.bool f)) none (some (.hnd 12)) ++ [numD w, namesO, .list l1], [], [], True⟩ =
  some (.ok (.next, rhoD D ++ [(S "deeds", .hnd 19)]), ⟨lwS D p (some (.bool f)) (some (.hnd 15)) (some (.hnd 12)) ++ [numD w, namesO, .list l1, .list [], lamE 0 [(S "log", 3)] dS, lamE 2 [(S "numbers", 2), (S "log", 3)] dS, lamE 3 [(S "log", 3), (S "full", 4)] dS, .inst 31 [(S "do", .hnd 16), (S "test", .none), (S "number", .hnd 17), (S "put", .hnd 18)]], [], [], True⟩) := by kernel_rfl
end
def lwE (D : Dn) (p : Dc) (f : Bool) (w : Num) (due : List V) : Sto := lwS D p (some (.bool f)) (some (.hnd 15)) (some (.hnd 12)) ++ [numD w, namesO, .list due, .list [], lamE 0 [(S "log", 3)] dS, lamE 2 [(S "numbers", 2), (S "log", 3)] dS, lamE 3 [(S "log", 3), (S "full", 4)] dS, .inst 31 [(S "do", .hnd 16), (S "test", .none), (S "number", .hnd 17), (S "put", .hnd 18)]]
abbrev rhoE_ (D : Dn) : Loc := rhoD D ++ [(S "deeds", .hnd 19)]
section
variable {lo : List Str} {K : Params → Frag} {n m : Nat} {D : Dn} {w : Num} {p p1 p2 p3 p4 : Dc} {f : Bool} {l1 l2 : List V}
theorem dr_fits {many d : Int} {zs : List V} (hz : flatVs zs = true) : drF n many d zs p p1 :=
 ⟨rfl, by show [_, O.list (V.mps _ zs)] = _; rw [flat_mps hz]; rfl, rfl, by show [_, O.list (V.mps _ zs)] = _; rw [flat_mps hz]; rfl, rfl⟩
theorem sd_fits {k : Int} {v : V} {zs rl : List V} (hz : flatVs zs = true) (hv : flatV v = true) (hr : flatVs rl = true) : sdF n zs k v p p1 rl :=
 ⟨rfl, by show [_, O.list (V.mps _ zs)] = _; rw [flat_mps hz]; rfl, congrArg Except.ok (flat_mp hv), by show [_, O.list (V.mps _ zs), _, O.list (V.mps _ rl)] = _; rw [flat_mps hz, flat_mps hr]; rfl, rfl⟩
theorem du_fits {v : V} (hv : flatV v = true) (h1 : flatVs l1 = true) (h2 : flatVs l2 = true) : duF n v f w l1 l2 :=
 ⟨by show [V.mp _ v, _, _, _] = _; rw [flat_mp hv]; rfl, by show [(numD w).mp _, O.list (V.mps _ l1)] = _; rw [numD_mp, flat_mps h1], rfl, by show [(numD w).mp _, O.list (V.mps _ l2)] = _; rw [numD_mp, flat_mps h2], rfl⟩
theorem pick_num {d d3 u s : Int} (h0 : 0 ≤ d) (h1 : d < 4) (hd : 0 ≤ d3 ∧ d3 < 9) (hu : Bd 480 (u, s)) : ∃ y : Option Dc, (∀ x, y = some x → Bd 480 x) ∧ pick d [pv (0, 0), pv (u, s), pv (d3, 0), .none] (noV y) := by
 have sm : ∀ {i : Int}, 0 ≤ i ∧ i < 9 → Bd 480 (i, 0) := fun h => ⟨int_bd (by dsimp only; lia) (by decide), Int.le_refl _, (by decide : (0 : Int) ≤ 30)⟩
 have : d = 0 ∨ d = 1 ∨ d = 2 ∨ d = 3 := by lia
 rcases this with rfl | rfl | rfl | rfl
 ·exact ⟨some (0, 0), fun x e => sInj e ▸ sm (by decide), by unfold pick; kernel_rfl⟩
 ·exact ⟨some (u, s), fun x e => sInj e ▸ hu, by unfold pick; kernel_rfl⟩
 ·exact ⟨some (d3, 0), fun x e => sInj e ▸ sm hd, by unfold pick; kernel_rfl⟩
 ·exact ⟨none, fun x e => noS e, by unfold pick; kernel_rfl⟩
inductive DrcR (lo : List Str) (K : Params → Frag) (D : Dn) (m : Nat) (p : Dc) (many : Int) : Prop
 | mk (d : Int) (p' : Dc) : 0 ≤ d → d < many → Pen (m + 1) p' → OrcOk (GG lo K) FF (drC many d D.zs p p').o → DrcR lo K D m p many
theorem dr_ok (hz : Cells D.zs) (hp : Pen m p) (hm : m ≤ 1000) {many : Int} (h1 : 0 < many) (h2 : many ≤ 1000) : DrcR lo K D m p many := by
 obtain ⟨d, p', a1, a2, a3, a4⟩ := draw_ok (lo := lo) (K := K) hz hp hm h1 h2
 exact ⟨d, p', a1, a2, a3, a4.orc⟩
theorem tn_ok (hz : Cells D.zs) (hp : Pen m p) (hm : m + 4 ≤ 1000) : ∃ (y : Option Dc) (p' : Dc), (∀ x, y = some x → Bd 480 x) ∧ Pen (m + 4) p' ∧ ∀ (w : Num) (a : Nm), w a = y → ∀ n, TurnR (GG lo K) FF (n + 16) f805 true lawL 19 (S "name") (bodyOf lwW) (s_ a.str) (rhoL D (nmT (prevN a))) (lwS D p none none (some (.hnd 12)) ++ [.sdict (numP w a.ix), namesO]) (.ok (.next, rhoL D (nmT (some (s_ a.str))))) (lwS D p' none none (some (.hnd 12)) ++ [.sdict (numP w (a.ix + 1)), namesO]) := by
 have hf := hz.flat
 obtain ⟨d1, p1, a1, a2, a3, a4⟩ := dr_ok (lo := lo) (K := K) hz hp (by lia) (by decide : 0 < (100 : Int)) (by decide)
 obtain ⟨d2, p2, b1, b2, b3, b4⟩ := dr_ok (lo := lo) (K := K) hz a3 (by lia) (by decide : 0 < (3 : Int)) (by decide)
 obtain ⟨u, s, e1, e2, e3, e4⟩ := dec_ok' (lo := lo) (K := K) (d1 - 40) d2 b1 (by lia)
 obtain ⟨d3, p3, c1, c2, c3, c4⟩ := dr_ok (lo := lo) (K := K) hz b3 (by lia) (by decide : 0 < (9 : Int)) (by decide)
 obtain ⟨d4, p4, g1, g2, g3, g4⟩ := dr_ok (lo := lo) (K := K) hz c3 (by lia) (by decide : 0 < (4 : Int)) (by decide)
 obtain ⟨y, h1, h2⟩ := pick_num (u := u) (s := s) g1 g2 ⟨c1, c2⟩ ⟨int_bd (Nat.lt_of_le_of_lt e2 (by lia)) (by decide), e3, by dsimp only; lia⟩
 refine ⟨y, p4, h1, g3, fun w a ha n => .of (fun N e => turn_tr G0_plain _ _ _ lawL _ _ _ _ _) (lw_turn a) ⟨by rw [ha]; exact h2, dr_fits hf, dr_fits hf, ⟨rfl, rfl, rfl, rfl, rfl⟩, dr_fits hf, dr_fits hf, trivial⟩ ⟨a4, b4, e1.orc, c4, g4, trivial⟩⟩
theorem law_go {l : List Int} (hl : l.length ≤ 63) : ∃ (D : Dn) (s1 s2 : Stm) (p : Dc) (f : Bool) (w : Num) (q1 q2 : List V) (r1 r2 : Option Dc), D.zs = l.map .int ∧ D.v1 = s1.v 1 ∧ D.v2 = s2.v 2 ∧ s1.Ok ∧ s2.Ok ∧ EvE lo K w s1.e q1 r1 ∧ EvE lo K w s2.e q2 r2 ∧ ∀ n,
  BlkR (GG lo K) FF (n + 16) f805 true lawL deep (f805.body.take 3 ++ ([lwW] ++ ((f805.body.drop 4).take 2 ++ ((f805.body.drop 6).take 3 ++ (f805.body.drop 9).take 2)))) [(S "script", .lstK D.zs)] [lamT, lawT, .cell none, .cell none, .cell none] (.ok (.next, rhoE_ D)) (lwE D p f w (s1.due f 1 q1 r1 ++ s2.due f 2 q2 r2 ++ [saidV 99])) := by
 have hz : Cells (l.map .int) := ⟨l, hl, rfl⟩
 have hf := hz.flat
 obtain ⟨s1, p1, rl1, a1, a2, a3, a4⟩ := sd_ok (lo := lo) (K := K) hz (k := 1) (.inl rfl) (p := (0, 0)) (m := 0) ⟨Int.le_refl _, Int.le_refl _, Int.le_refl _⟩ (by decide)
 obtain ⟨s2, p2, rl2, b1, b2, b3, b4⟩ := sd_ok (lo := lo) (K := K) hz (k := 2) (.inr rfl) a2 (by decide)
 let D : Dn := ⟨l.map .int, rl1, rl2, s1.v 1, s2.v 2⟩
 have hzD : Cells D.zs := hz
 obtain ⟨y1, p3, c1, c2, c3⟩ := tn_ok (lo := lo) (K := K) (D := D) hzD b2 (by decide)
 obtain ⟨y2, p4, d1, d2, d3⟩ := tn_ok (lo := lo) (K := K) (D := D) hzD c2 (by decide)
 obtain ⟨y3, p5, e1, e2, e3⟩ := tn_ok (lo := lo) (K := K) (D := D) hzD d2 (by decide)
 obtain ⟨y4, p6, g1, g2, g3⟩ := tn_ok (lo := lo) (K := K) (D := D) hzD e2 (by decide)
 let w : Num := fun a => match a with
  | .A => y1
  | .B => y2
  | .C => y3
  | .D => y4
 have hw : ∀ a x, w a = some x → Bd 480 x := fun a x h => by
  cases a with
  | A => exact c1 x h
  | B => exact d1 x h
  | C => exact e1 x h
  | D => exact g1 x h
 obtain ⟨d, p7, h1, h2, h3, h4⟩ := dr_ok (lo := lo) (K := K) (D := D) hzD g2 (by decide) (by decide : 0 < (3 : Int)) (by decide)
 obtain ⟨q1, r1, E1, _⟩ := ev_all (lo := lo) (K := K) hw s1.e a1.e (Nat.le_trans a1.ht (by decide))
 obtain ⟨q2, r2, E2, _⟩ := ev_all (lo := lo) (K := K) hw s2.e b1.e (Nat.le_trans b1.ht (by decide))
 have z1 := a1.sz
 have z2 := b1.sz
 have y1' := E1.log.2
 have y2' := E2.log.2
 have f1 := dueL_flat (full := d == 0) (x := 10 * 1) (y := 10 * 1 + 1) (z := 10 * 1 + 2) (b := s1.b) (r := r1) E1.flat a1.rows
 have f2 := dueL_flat (full := d == 0) (x := 10 * 2) (y := 10 * 2 + 1) (z := 10 * 2 + 2) (b := s2.b) (r := r2) E2.flat b1.rows
 have u1 := dueL_len (rows := s1.rows) (x := 10 * 1) (y := 10 * 1 + 1) (z := 10 * 1 + 2) (b := s1.b) (full := d == 0) (l := q1) (r := r1)
 have u2 := dueL_len (rows := s2.rows) (x := 10 * 2) (y := 10 * 2 + 1) (z := 10 * 2 + 2) (b := s2.b) (full := d == 0) (l := q2) (r := r2)
 have k1 := du_ok (lo := lo) (K := K) (w := w) (l := []) (full := d == 0) (k := 1) a1 E1 rfl (by show 0 + _ ≤ 800; lia)
 have k2 := du_ok (lo := lo) (K := K) (w := w) (l := s1.due (d == 0) 1 q1 r1) (full := d == 0) (k := 2) b1 E2 f1 (by unfold Stm.due; lia)
 refine ⟨D, s1, s2, p7, d == 0, w, q1, q2, r1, r2, rfl, rfl, rfl, a1, b1, E1, E2, fun n => ?_⟩
 let dA := s1.due (d == 0) 1 q1 r1
 let dB := s2.due (d == 0) 2 q2 r2
 have bA : BlkR (GG lo K) FF (n + 16) f805 true lawL deep (f805.body.take 3) [(S "script", .lstK D.zs)] [lamT, lawT, .cell none, .cell none, .cell none] (.ok (.next, rhoL D [])) (lwS D p2 none none (some (.hnd 12)) ++ [.sdict []]) :=
  .of G0_plain lw_a ⟨sd_fits hf (stm_flat b1) b3, sd_fits hf (stm_flat a1) a3, ⟨by show [V.lstK (V.mps _ (l.map .int))] = _; rw [flat_mps hf], rfl, rfl, by show [O.list (V.mps _ (l.map .int)), O.list (V.mps _ (l.map .int)), _] = _; rw [flat_mps hf]; rfl, rfl⟩, trivial⟩ ⟨(pen_ok hl).orc, a4.orc, b4.orc, trivial⟩
 have bL : BlkR (GG lo K) FF (n + 16) f805 true lawL deep [lwW] (rhoL D []) (lwS D p2 none none (some (.hnd 12)) ++ [.sdict []]) (.ok (.next, rhoL D (nmT (some (s_ "D"))))) (lwS D p6 none none (some (.hnd 12)) ++ [numD w, namesO]) :=
  .for (x := S "name") (ie := iterOf lwW) (l := bodyOf lwW) (y := .hnd 13) (it := .lst 13) (by kernel_rfl) (.of (fun N e => ex_tr G0_plain _ _ _ lawL _ _) lw_it trivial trivial) rfl
   (ForR.go (k := 4999) rfl (c3 w .A rfl n) (ForR.go (k := 4998) rfl (d3 w .B rfl n) (ForR.go (k := 4997) rfl (e3 w .C rfl n) (ForR.go (k := 4996) rfl (g3 w .D rfl n) (ForR.over (k := 4995) rfl)))))
 have bB : BlkR (GG lo K) FF (n + 16) f805 true lawL deep ((f805.body.drop 4).take 2) (rhoL D (nmT (some (s_ "D")))) (lwS D p6 none none (some (.hnd 12)) ++ [numD w, namesO]) (.ok (.next, rhoD D)) (lwS D p7 (some (.bool (d == 0))) none (some (.hnd 12)) ++ [numD w, namesO, .list []]) :=
  .of G0_plain lw_b ⟨dr_fits hf, trivial⟩ ⟨h4, trivial⟩
 have bC : BlkR (GG lo K) FF (n + 16) f805 true lawL deep ((f805.body.drop 6).take 3) (rhoD D) (lwS D p7 (some (.bool (d == 0))) none (some (.hnd 12)) ++ [numD w, namesO, .list []]) (.ok (.next, rhoD D)) (lwS D p7 (some (.bool (d == 0))) none (some (.hnd 12)) ++ [numD w, namesO, .list (dA ++ dB ++ [saidV 99])]) :=
  .of G0_plain lw_c ⟨blC_of (by rw [List.length_append]; show (dueL _ _ _ _ _ _ _ _).length + (dueL _ _ _ _ _ _ _ _).length ≤ 900; lia), du_fits (stm_flat b1) f1 (flat_app f1 f2), du_fits (stm_flat a1) rfl f1, trivial⟩ ⟨k1.orc, k2.orc, trivial⟩
 exact bA.app (bL.app (bB.app (bC.app (.of G0_plain lw_d trivial trivial))))
end
noncomputable def bopL : Expr → List Expr
 | .BoolOp _ xs _ => xs
 | _ => []
noncomputable def cmpLx : Expr → Expr
 | .Compare l _ _ _ => l
 | _ => default
noncomputable def cmpRx : Expr → Expr
 | .Compare _ _ [x] _ => x
 | _ => default
def retE : Expr := valOf (f805.body.getD 11 (.Pass pz))
def xA : Expr := nthE (bopL retE) 0
def xB : Expr := nthE (bopL retE) 1
def runE : Expr := cmpLx xA
def compE : Expr := argOf 0 runE
def paraI (ss : List V) : O := .inst 688 [(S "name", s_ "A"), (S "section", s_ ""), (S "statements", .tup ss)]
def procI : O := .inst 728 [(S "rows", .hnd 21), (S "using", .tup [])]
def lwF (D : Dn) (p : Dc) (f : Bool) (w : Num) (due : List V) (g : Sto) : Sto := lwE D p f w due ++ ([paraI [D.v1, D.v2, saidV 99], .list [.hnd 20], procI] ++ g)
def cpC (ss : List V) (g g' : Sto) (H : Nat) : Cal := ⟨⟨12, true, 326, [.hnd 3], cP (.tup ss), .ok (.hnd (4 + H)), cP (.tup ss) ++ g⟩, [0, 20, 21, 22], .ok (.hnd (23 + H)), [lamT, paraI ss, .list [.hnd 20], procI] ++ g'⟩
section
variable {G : Pg} {F : Fs} {n d : Nat} {fn : Fn} {q : Bool} {CL : List (Str × Nat)} {ρ : Loc} {a a1 a2 : Sto} {x : Expr}
theorem ExR.call3 {fe x0 x1 x2 : Expr} {fa : Addr} {v0 v1 v2 : V} {r : Except Addr V} (hp : planE q false x = .call fe [x0, x1, x2]) (hf : ∀ e b, (evS G (callF G F n) fn q d).val false fn.sc (mpC e CL) (mpP e ρ) fe b = some (.ok (.glob fa), b)) (hk : ∀ b, callable G (.glob fa) b = true) (h0 : ExR G F n fn q CL d x0 ρ a (.ok v0) a1)
  (h1 : ∀ e b, (evS G (callF G F n) fn q d).val false fn.sc (mpC e CL) (mpP e ρ) x1 b = some (.ok (v1.mp e), b)) (h2 : ∀ e b, (evS G (callF G F n) fn q d).val false fn.sc (mpC e CL) (mpP e ρ) x2 b = some (.ok (v2.mp e), b)) (hc : Run V.mp (fun e => callF G F n q (.glob fa) (V.mps e [v0, v1, v2])) a1 r a2) : ExR G F n fn q CL (d + 1) x ρ a r a2 :=
 h0.step hc fun e b b1 _ _ h => by
  show valS G (callF G F n) fn q (evS G (callF G F n) fn q d) false fn.sc (mpC e CL) (mpP e ρ) (planE q false x) b = _
  rw [hp]
  unfold valS
  dsimp only
  refine (bind_ok (hf e b)).trans ((bind_ok (evl_cons h (evl_cons (h1 e b1) (evl_cons (h2 e b1) rfl)))).trans ?_)
  show (if callable G (.glob fa) b1 then _ else none) = _
  rw [if_pos (hk b1)]; rfl
theorem ExR.eq {l r : Expr} {y z : V} {t : Bool} (hp : planE q false x = .cmp l .Eq r) (h0 : ExR G F n fn q CL d l ρ a (.ok y) a1) (h1 : ∀ e b, (evS G (callF G F n) fn q d).val false fn.sc (mpC e CL) (mpP e ρ) r b = some (.ok (z.mp e), b)) (hc : ∀ e b, cmpX .Eq (y.mp e) (z.mp e) b = some t) : ExR G F n fn q CL (d + 1) x ρ a (.ok (.bool t)) a1 :=
 h0.as fun e b b1 _ h => by
  show valS G (callF G F n) fn q (evS G (callF G F n) fn q d) false fn.sc (mpC e CL) (mpP e ρ) (planE q false x) b = _
  rw [hp]
  unfold valS
  dsimp only
  exact (bind_ok h).trans ((bind_ok (h1 e b1)).trans (still_ok (by rw [hc]; rfl)))
theorem ExR.and2 {xa xb : Expr} {t : Bool} (hp : planE q false x = .and_ xa [xb]) (h0 : ExR G F n fn q CL d xa ρ a (.ok (.bool true)) a1) (h1 : ExR G F n fn q CL d xb ρ a1 (.ok (.bool t)) a2) : ExR G F n fn q CL (d + 1) x ρ a (.ok (.bool t)) a2 :=
 h0.step h1 fun e b b1 _ _ h => by
  show valS G (callF G F n) fn q (evS G (callF G F n) fn q d) false fn.sc (mpC e CL) (mpP e ρ) (planE q false x) b = _
  rw [hp]
  exact (bind_ok h).trans ((bind_ok (still_ok (f := fun st => truthV (.bool true) st) rfl)).trans rfl)
theorem okJ_of {m : Nat} : ∀ {l : List Nat}, (∀ k ∈ l, k < m) → l.Nodup → okJ m l = true
 | [], _, _ => rfl
 | k :: r, h, hn => by
  obtain ⟨h1, h2⟩ := List.nodup_cons.mp hn
  rw [okJ, okJ_of (fun j hj => h j (List.mem_cons_of_mem _ hj)) h2, Nat.blt, Nat.ble_eq_true_of_le (h k List.mem_cons_self), List.all_eq_true.mpr fun j hj => by
   cases e : Nat.beq j k with
   | true => exact (h1 (Nat.eq_of_beq_eq_true e ▸ hj)).elim
   | false => rfl]
  rfl
theorem tabsFix_no {g : Sto} (h : noTab g = true) : ∀ (l : List Nat) (k : Nat), tabsFix k l g = true := by
 induction g with
 | nil => exact fun l k => by cases l <;> rfl
 | cons o g ih =>
  have h' := h
  unfold noTab at h
  rw [List.all_cons, Bool.and_eq_true] at h
  intro l k
  cases l with
  | nil => exact h'
  | cons j r => rw [tabsFix, h.1, ih h.2 r (k + 1)]; rfl
end
section
variable {lo : List Str} {K : Params → Frag} {n H : Nat} {D : Dn} {w : Num} {p : Dc} {f : Bool} {due : List V} {g g' : Sto}
theorem lf_comp : (evX (GG lo K) (callX (GG lo K) FF (n + 16)) f805 true 17).val false f805.sc lawL (rhoE_ D) compE ⟨lwE D p f w due, [], [cpC [D.v1, D.v2, saidV 99] g g' H], True⟩ = some (.ok (.hnd (23 + H)), ⟨lwF D p f w due g', [], [], CalC [0, 20, 21, 22] 23 (cpC [D.v1, D.v2, saidV 99] g g' H).o [.hnd 22] [lamT, paraI [D.v1, D.v2, saidV 99], .list [.hnd 20], procI] (.ok (.hnd (23 + H))) ([lamT, paraI [D.v1, D.v2, saidV 99], .list [.hnd 20], procI] ++ g') ∧ True⟩) := by kernel_rfl
theorem lf_1 : f805.body = f805.body.take 3 ++ ([lwW] ++ ((f805.body.drop 4).take 2 ++ ((f805.body.drop 6).take 3 ++ (f805.body.drop 9).take 2))) ++ [f805.body.getD 11 (.Pass pz)] := by kernel_rfl
theorem lf_2 : planS f805 true (f805.body.getD 11 (.Pass pz)) = .ret retE := by kernel_rfl
theorem lf_3 : planE true false retE = .and_ xA [xB] := by kernel_rfl
theorem lf_4 : planE true false xA = .cmp runE .Eq (cmpRx xA) := by kernel_rfl
theorem lf_5 : planE true false runE = .call (funOf runE) [compE, argOf 1 runE, argOf 2 runE] := by kernel_rfl
theorem lf_6 : planE true false xB = .cmp (cmpLx xB) .Eq (cmpRx xB) := by kernel_rfl
noncomputable def jR (H : Nat) : List Nat := [23 + H, 19, 16, 17, 18, 4, 3, 2, 15, 12]
theorem cpc_fits {ss : List V} (hs : flatVs ss = true) (hg : noTab g = true) (hl : g.length ≤ 3000) (hH : H < g.length) : CalC [0, 20, 21, 22] 23 (cpC ss g (g.map (O.mp (jof [0, 20, 21, 22] 23))) H).o [.hnd 22] [lamT, paraI ss, .list [.hnd 20], procI] (.ok (.hnd (23 + H))) ([lamT, paraI ss, .list [.hnd 20], procI] ++ g.map (O.mp (jof [0, 20, 21, 22] 23))) := by
 have h1 : (cP (.tup ss)).map (O.mp (jof [0, 20, 21, 22] 23)) = [lamT, paraI ss, .list [.hnd 20], procI] := by
  show [lamT, O.inst 688 [_, _, (_, V.tup (V.mps _ ss))], _, _] = _
  rw [flat_mps hs]; rfl
 refine ⟨rfl, h1, ?_, ?_, ?_⟩
 ·show Except.ok (V.hnd (jof [0, 20, 21, 22] 23 (4 + H))) = _
  rw [jof_new (by show 4 ≤ 4 + H; lia) (by unfold far; lia)]
  show Except.ok (V.hnd (23 + (4 + H - 4))) = _
  rw [Nat.add_sub_cancel_left]
 ·show (cP (.tup ss) ++ g).map _ = _
  rw [List.map_append, h1]
 ·show (Nat.ble (cP (.tup ss) ++ g).length far && tabsFix 0 [0, 20, 21, 22] (cP (.tup ss) ++ g)) = true
  rw [Nat.ble_eq_true_of_le (by rw [List.length_append]; show 4 + g.length ≤ far; unfold far; lia)]
  exact tabsFix_no hg [] 4
theorem rp_emb {out log : List V} {gr : Sto} (ho : flatVs out = true) (hG : g'[H]? = some (codeI out)) (hr : noTab gr = true) (hl : gr.length ≤ 100) : Emb (jR H) (rP ⟨out, w, f⟩ []) (rP ⟨out, w, f⟩ log ++ gr) (lwF D p f w due g') (putAll (jof (jR H) (lwF D p f w due g').length) (jR H) (rP ⟨out, w, f⟩ log ++ gr) (lwF D p f w due g')) := by
 have hH := lt_of_get hG
 have hlen : (lwF D p f w due g').length = 23 + g'.length := by
  rw [lwF, List.length_append, List.length_append]; show 20 + (3 + g'.length) = _; lia
 have lo : ∀ k ∈ [19, 16, 17, 18, 4, 3, 2, 15, 12], k < 23 := by decide
 refine ⟨rfl, okJ_of (fun k hk => ?_) ?_, ?_, ?_, ?_, ?_, rfl⟩
 ·rw [hlen]
  rcases List.mem_cons.mp hk with rfl | hk
  ·exact Nat.add_lt_add_left hH 23
  ·exact Nat.lt_of_lt_of_le (lo k hk) (Nat.le_add_right ..)
 ·exact List.nodup_cons.mpr ⟨fun h => absurd (lo _ h) (Nat.not_lt.mpr (Nat.le_add_right ..)), by decide⟩
 ·rw [List.length_append]; show 10 + gr.length ≤ far; unfold far; lia
 ·exact tabsFix_no (g := rP ⟨out, w, f⟩ []) (by kernel_rfl) _ _
 ·exact tabsFix_no (noTab_app (g := rP ⟨out, w, f⟩ log) (by kernel_rfl) hr) _ _
 ·have e0 : (lwF D p f w due g')[23 + H]? = some (codeI out) := by
   rw [lwF, List.getElem?_append_right (show (lwE D p f w due).length ≤ 23 + H by show 20 ≤ 23 + H; lia), show 23 + H - (lwE D p f w due).length = 3 + H by show 23 + H - 20 = _; lia, List.getElem?_append_right (show 3 ≤ 3 + H by lia), show 3 + H - ([paraI [D.v1, D.v2, saidV 99], .list [.hnd 20], procI] : Sto).length = H by show 3 + H - 3 = H; lia]
   exact hG
  show (codeI out).mp _ :: (rP ⟨out, w, f⟩ []).tail.map _ = ((lwF D p f w due g')[23 + H]?).getD default :: [19, 16, 17, 18, 4, 3, 2, 15, 12].map _
  refine congr (congrArg List.cons ?_) ?_
  ·rw [e0]
   show O.inst 138 [(_, V.tup (V.mps _ out)), _] = _
   rw [flat_mps ho]; rfl
  ·show [_, _, _, _, _, _, _, _, (numD w).mp _] = _
   rw [numD_mp]
   kernel_rfl
end
section
variable {lo : List Str} {K : Params → Frag} {n H : Nat} {D : Dn} {w : Num} {p : Dc} {f : Bool} {due l : List V} {g g' : Sto} {s s1 s2 : Stm} {q1 q2 : List V} {r r1 r2 : Option Dc} {v : V} {k x y z : Int} {b : Br}
theorem said_gd : GdN 8 (saidV x) := ⟨_, rfl, by kernel_rfl, Nat.le_of_ble_eq_true rfl⟩
theorem Opd.gd (h : Opd v) : GdN 8 v := by
 cases h with
 | num x => exact ⟨_, rfl, by kernel_rfl, Nat.le_of_ble_eq_true rfl⟩
 | ref a => cases a <;> exact ⟨_, rfl, by kernel_rfl, Nat.le_of_ble_eq_true rfl⟩
theorem brS_gd : ∀ v ∈ brS x y b, GdN 8 v := fun v hv => by
 cases b with
 | o => cases hv
 | n => cases hv
 | _ =>
  rcases List.mem_cons.mp hv with rfl | hv
  ·exact said_gd
  ·exact List.mem_singleton.mp hv ▸ said_gd
theorem brN_gd : ∀ v ∈ brN z b, GdN 8 v := fun v hv => by
 cases b with
 | o => cases hv
 | s => cases hv
 | _ => exact List.mem_singleton.mp hv ▸ said_gd
theorem due_gd (hs : s.Ok) (hl : ∀ v ∈ l, Opd v) : ∀ v ∈ s.due f k l r, GdN 8 v := fun v hv => by
 cases r with
 | none => exact (List.mem_append.mp hv).elim (fun h => (hl v h).gd) (brS_gd v)
 | some u =>
  rcases List.mem_append.mp hv with hv | hv
  ·rcases List.mem_append.mp hv with hv | hv
   ·exact (hl v hv).gd
   ·exact List.mem_singleton.mp hv ▸ (gd2 hs.gd ⟨_, rfl, rfl, Nat.le_of_ble_eq_true rfl⟩).up (by decide)
  ·cases f
   ·exact brN_gd v hv
   ·exact brS_gd v hv
theorem eq_ok {S : Sto} {i j : Nat} (h : ∀ v ∈ l, GdN 8 v) (hi : S[i]? = some (.list l)) (hj : S[j]? = some (.list l)) : cmpX .Eq (.hnd i) (.hnd j) S = some true := by
 obtain ⟨ds, h1, h2, h3⟩ := gd_all h
 have dv : ∀ {i : Nat}, S[i]? = some (.list l) → datV (.hnd i) S = some (.list ds) := fun {i} hi => by
  show (lstAt S i).bind _ = _
  unfold lstAt
  rw [hi]
  show (dats0 l).map _ = _
  rw [h1]; rfl
 have hs : SeqAt.shaped (.list ds) = true := by
  unfold SeqAt.shaped
  rw [PyData.canLay0, h2, PyData.depth, decide_eq_true (by lia)]; rfl
 show (cmpV .Eq (.hnd i) (.hnd j)).or (eqL (.hnd i) (.hnd j) S) = _
 rw [show cmpV .Eq (.hnd i) (.hnd j) = none from rfl]
 show eqL (.hnd i) (.hnd j) S = _
 unfold eqL
 rw [dv hi, dv hj]
 dsimp only [Option.bind_some]
 rw [hs]
 show some (PyData.eqv (.list ds) (.list ds)) = _
 rw [SeqAt.eqv_refl _ (by rw [PyData.canLay0]; exact h2)]
theorem due_flat (hs : s.Ok) (hl : flatVs l = true) : flatVs (s.due f k l r) = true := dueL_flat hl hs.rows
theorem run_ops {m : Int} (h : s.Ok) : OpsOk (s.run k m) := (opsE_ok _ s.e).app fun o ho => by
 obtain ⟨e, rows, b⟩ := s
 have hr : flatV rows = true := h.rows
 cases b <;> (simp only [tailR, List.mem_cons, List.not_mem_nil, or_false] at ho; rcases ho with rfl | rfl | rfl | rfl | rfl <;> first | exact hr | rfl | trivial)
theorem last_ok (h1 : s1.Ok) (h2 : s2.Ok) (e1 : D.v1 = s1.v 1) (e2 : D.v2 = s2.v 2) (E1 : EvE lo K w s1.e q1 r1) (E2 : EvE lo K w s2.e q2 r2) :
  ∃ S3, S3[0]? = some lamT ∧ S3[1]? = some lawT ∧ S3.length ≤ far ∧ ∀ n, BlkR (GG lo K) FF (n + 16) f805 true lawL deep [f805.body.getD 11 (.Pass pz)] (rhoE_ D) (lwE D p f w (s1.due f 1 q1 r1 ++ s2.due f 2 q2 r2 ++ [saidV 99])) (.ok (.ret (.bool true), rhoE_ D)) S3 := by
 obtain ⟨g2, H, a1, a2, a3, a4⟩ := comp_all (lo := lo) (K := K) h1 h2
 obtain ⟨gr, b1, b2, b3⟩ := run_all (lo := lo) (K := K) (c := ⟨opsV (progC s1 s2), w, f⟩) h1 h2 rfl E1 E2
 have fout : flatVs (opsV (progC s1 s2)) = true := by
  refine OpsOk.flat ((run_ops h1).app ((run_ops h2).app fun o ho => ?_))
  simp only [List.mem_cons, List.not_mem_nil, or_false] at ho
  rcases ho with rfl | rfl | rfl
  ·rfl
  ·trivial
  ·trivial
 have b3 : CallR (GG lo K) FF 13 true 664 [.hnd 0, .hnd 1, .int 600] (rP ⟨opsV (progC s1 s2), w, f⟩ []) (.ok (s_ "end")) (rP ⟨opsV (progC s1 s2), w, f⟩ (s1.due f 1 q1 r1 ++ s2.due f 2 q2 r2 ++ [saidV 99]) ++ gr) := b3
 have fss : flatVs (progV s1 s2) = true := by rw [progV, flatVs, flatVs, stm_flat h1, stm_flat h2]; rfl
 have ess : [D.v1, D.v2, saidV 99] = progV s1 s2 := by rw [e1, e2]; rfl
 have fdue : flatVs (s1.due f 1 q1 r1 ++ s2.due f 2 q2 r2 ++ [saidV 99]) = true := flat_app (flat_app (due_flat h1 E1.flat) (due_flat h2 E2.flat)) rfl
 have gdue : ∀ v ∈ s1.due f 1 q1 r1 ++ s2.due f 2 q2 r2 ++ [saidV 99], GdN 8 v := fun v hv => by
  rcases List.mem_append.mp hv with hv | hv
  ·exact (List.mem_append.mp hv).elim (due_gd h1 E1.log.1 v) (due_gd h2 E2.log.1 v)
  ·exact List.mem_singleton.mp hv ▸ said_gd
 generalize hdue : s1.due f 1 q1 r1 ++ s2.due f 2 q2 r2 ++ [saidV 99] = due at *
 let g' := g2.map (O.mp (jof [0, 20, 21, 22] 23))
 have hg' : g'[H]? = some (codeI (opsV (progC s1 s2))) := by
  rw [List.getElem?_map, a3]
  show some (O.inst 138 [(_, V.tup (V.mps _ _)), _]) = _
  rw [flat_mps fout]; rfl
 have X1 : ∀ n, ExR (GG lo K) FF (n + 16) f805 true lawL 17 compE (rhoE_ D) (lwE D p f w due) (.ok (.hnd (23 + H))) (lwF D p f w due g') := fun n =>
  .of (fun N e => (evX_tr G0_plain.1 (callX_tr G0_plain (n + 16)) 17).val false f805.sc lawL (rhoE_ D) compE) (lf_comp (g := g2)) ⟨cpc_fits (by rw [ess]; exact fss) a1 a2 (lt_of_get a3), trivial⟩ ⟨by rw [ess]; exact a4.orc, trivial⟩
 have Em := rp_emb (D := D) (p := p) (w := w) (f := f) (due := due) (log := due) fout hg' b1 b2
 have R := CallR.emb b3 Em (show V.mps _ [.hnd 0, .hnd 1, .int 600] = [.hnd (23 + H), .hnd 19, .int 600] from rfl) (show _ = Except.ok (s_ "end") from rfl)
 have at_ : ∀ {i k : Nat}, (jR H)[i]? = some k → i < 10 → (putAll (jof (jR H) (lwF D p f w due g').length) (jR H) (rP ⟨opsV (progC s1 s2), w, f⟩ due ++ gr) (lwF D p f w due g'))[k]? = ((rP ⟨opsV (progC s1 s2), w, f⟩ due ++ gr)[i]?).map (O.mp (jof (jR H) (lwF D p f w due g').length)) := fun {i k} h hi =>
  putAll_at _ _ _ i k (okJ_nd Em.j) (okJ_lt Em.j) (by rw [List.length_append]; show i < 10 + gr.length; lia) h
 have off : ∀ {k : Nat}, k < 20 → k ∉ jR H → (putAll (jof (jR H) (lwF D p f w due g').length) (jR H) (rP ⟨opsV (progC s1 s2), w, f⟩ due ++ gr) (lwF D p f w due g'))[k]? = (lwF D p f w due g')[k]? := fun {k} hk h =>
  putAll_off _ _ _ k (by rw [lwF, List.length_append]; show k < 20 + _; lia) h
 have nj : ∀ {k : Nat}, k = 0 ∨ k = 1 ∨ k = 14 → k ∉ jR H := fun {k} h hk => by
  rcases List.mem_cons.mp hk with rfl | hk
  ·lia
  ·have := (by decide : ∀ k ∈ [19, 16, 17, 18, 4, 3, 2, 15, 12], k ≠ 0 ∧ k ≠ 1 ∧ k ≠ 14) k hk
   lia
 have hlen : (putAll (jof (jR H) (lwF D p f w due g').length) (jR H) (rP ⟨opsV (progC s1 s2), w, f⟩ due ++ gr) (lwF D p f w due g')).length ≤ far := by
  rw [putAll_length _ _ _ (by rw [List.length_append]; show 10 ≤ 10 + gr.length; lia), List.length_append, lwF, List.length_append, List.length_append, List.length_map]
  show 20 + (3 + g2.length) + (10 + gr.length - 10) ≤ far
  unfold far; lia
 generalize putAll (jof (jR H) (lwF D p f w due g').length) (jR H) (rP ⟨opsV (progC s1 s2), w, f⟩ due ++ gr) (lwF D p f w due g') = S3 at R at_ off hlen
 have s0 : S3[0]? = some lamT := off (by decide) (nj (.inl rfl))
 have s1_ : S3[1]? = some lawT := off (by decide) (nj (.inr (.inl rfl)))
 have s14 : S3[14]? = some (.list due) := off (by decide) (nj (.inr (.inr rfl)))
 have s3 : S3[3]? = some (.cell (some (.hnd 15))) := at_ (i := 6) (k := 3) rfl (by decide)
 have s15 : S3[15]? = some (.list due) := (at_ (i := 8) (k := 15) rfl (by decide)).trans (by show some (O.list (V.mps _ due)) = _; rw [flat_mps fdue])
 refine ⟨S3, s0, s1_, hlen, fun n => ?_⟩
 have X2 : ExR (GG lo K) FF (n + 16) f805 true lawL 18 runE (rhoE_ D) (lwE D p f w due) (.ok (s_ "end")) S3 := .call3 (v0 := .hnd (23 + H)) (v1 := .hnd 19) (v2 := .int 600) (fa := 664) lf_5 (fun e b => by kernel_rfl) (fun b => by kernel_rfl) (X1 n) (fun e b => by kernel_rfl) (fun e b => by kernel_rfl) (R (n + 3))
 have X3 : ExR (GG lo K) FF (n + 16) f805 true lawL 19 xA (rhoE_ D) (lwE D p f w due) (.ok (.bool true)) S3 := .eq (z := s_ "end") lf_4 X2 (fun e b => by kernel_rfl) (fun e b => by kernel_rfl)
 have X4 : ExR (GG lo K) FF (n + 16) f805 true lawL 19 xB (rhoE_ D) S3 (.ok (.bool true)) S3 := .none fun e b S => by
  show valS (GG lo K) (callF (GG lo K) FF (n + 16)) f805 true (evS (GG lo K) (callF (GG lo K) FF (n + 16)) f805 true 18) false f805.sc (mpC e lawL) (mpP e (rhoE_ D)) (planE true false xB) b = _
  rw [lf_6]
  unfold valS
  dsimp only
  have hb : b[e 3]? = some (.cell (some (.hnd (e 15)))) := S.get _ _ s3
  have k1 : (evS (GG lo K) (callF (GG lo K) FF (n + 16)) f805 true 18).val false f805.sc (mpC e lawL) (mpP e (rhoE_ D)) (cmpLx xB) b = ((b[e 3]?).bind O.cel).map fun y => (.ok y, b) := by kernel_rfl
  have k2 : (evS (GG lo K) (callF (GG lo K) FF (n + 16)) f805 true 18).val false f805.sc (mpC e lawL) (mpP e (rhoE_ D)) (cmpRx xB) b = some (.ok (.hnd (e 14)), b) := by kernel_rfl
  rw [hb] at k1
  refine (bind_ok (y := .hnd (e 15)) k1).trans ((bind_ok k2).trans (still_ok ?_))
  rw [show cmpX .Eq (.hnd (e 15)) (.hnd (e 14)) b = some true from cmpX_tr S (eq_ok gdue s15 s14)]; rfl
 exact .ret (r := .ok (.bool true)) lf_2 (.and2 lf_3 X3 X4)
end
def eT (k : Nat) : Nat := if k < far then k else k - far
theorem eT_lt {k : Nat} (h : k < far) : eT k = k := if_pos h
abbrev base_ : Sto := [lamT, lawT, .cell none, .cell none, .cell none]
theorem base_sim {N : Nat} (h5 : 5 ≤ N) (hN : N ≤ far) : Sim N eT base_ base_ := by
 have low : ∀ {k : Nat} {o : O}, base_[k]? = some o → k < far ∧ o.mp eT = o := fun {k o} h => by
  refine ⟨Nat.lt_of_lt_of_le (lt_of_get h) (Nat.le_trans h5 hN), ?_⟩
  have := List.mem_of_getElem? h
  simp only [List.mem_cons, List.not_mem_nil, or_false] at this
  rcases this with rfl | rfl | rfl | rfl | rfl <;> rfl
 refine ⟨fun k o h => ?_, fun k h1 h2 => ?_, fun i j h1 h2 h => ?_, fun h => ?_, h5, hN, fun k q h => eT_lt (low h).1⟩
 ·rw [eT_lt (low h).1, (low h).2]; exact h
 ·rw [eT_lt (Nat.lt_of_lt_of_le h2 hN)]; lia
 ·rw [eT_lt (Nat.lt_of_lt_of_le h1 hN), eT_lt (Nat.lt_of_lt_of_le h2 hN)] at h; exact h
 ·unfold eT; rw [if_neg (by lia)]; lia
theorem law_fn {G : Pg} {cf : Bool → V → List V → M V} (l : List Int) : fnM f805 (bodyM G cf f805 true) [.lstK (l.map .int)] (qualL.map O.tab) = fnOut (bodyM G cf f805 true lawL (rhoN l) base_) := by
 have hn : f805.names = [S "script"] := by kernel_rfl
 have hd : f805.dfl = [] := by kernel_rfl
 have hc : (cellsFrom 0 f805.sc.names []).map (·.1) = [S "numbers", S "log", S "full"] := by kernel_rfl
 have hL : bindLV f805.sc [(S "script", .lstK (l.map .int))] [] = rhoN l := by kernel_rfl
 have hC : bindCV f805.sc [(S "script", .lstK (l.map .int))] [] = [] := by kernel_rfl
 unfold fnM
 rw [hn, hd, hc]
 dsimp only
 rw [if_pos ⟨Nat.le_refl _, Nat.le_refl _⟩]
 show fnOut (bodyM G cf f805 true lawL (bindLV f805.sc [(S "script", .lstK (l.map .int))] []) ([lamT, lawT] ++ cellsV [S "numbers", S "log", S "full"] (bindCV f805.sc [(S "script", .lstK (l.map .int))] []))) = _
 rw [hL, hC]
 rfl
theorem law_run (aL : Addr) (oL : Obj) (l : List Int) (hl : l.length ≤ 63) : ∃ st' : Sto, fnM f805 (bodyM (G0 aL oL) (callF (G0 aL oL) FF 39) f805 true) [.lstK (l.map .int)] (qualL.map O.tab) = some (.ok (.bool true), st') ∧ ∀ (i : Nat) (q : Addr × Addr), tabL[i]? = some q → ∃ qq, st'[i]? = some (O.tab qq) := by
 obtain ⟨D, s1, s2, p, f, w, q1, q2, r1, r2, z, v1, v2, o1, o2, E1, E2, B1⟩ := law_go (lo := lo0) (K := K1 aL oL) hl
 obtain ⟨S3, t0, t1, hN, B2⟩ := last_ok (D := D) (p := p) (f := f) o1 o2 v1 v2 E1 E2
 have B := (B1 23).app (B2 23)
 rw [← lf_1, z] at B
 obtain ⟨b', h1, X⟩ := B.ms eT base_ (base_sim B.le hN)
 refine ⟨b', ?_, fun i q h => ?_⟩
 ·have h2 : blkM (G0 aL oL) FF 39 f805 true lawL deep f805.body (rhoN l) base_ = some (.ok (.ret (.bool true), mpP eT (rhoE_ D)), b') := by
   have : mpP eT (rhoN l) = rhoN l := by show [(_, V.lstK (V.mps eT (l.map .int)))] = _; rw [mps_ints]
   have hC : mpC eT lawL = lawL := by
    show [(S "numbers", eT 2), (S "log", eT 3), (S "full", eT 4)] = _
    rw [eT_lt (by decide), eT_lt (by decide), eT_lt (by decide)]
   dsimp only at h1
   rw [this, hC] at h1
   exact h1
  have h3 : fnM f805 (bodyM (G0 aL oL) (callF (G0 aL oL) FF 39) f805 true) [.lstK (l.map .int)] (qualL.map O.tab) = fnOut (blkM (G0 aL oL) FF 39 f805 true lawL deep f805.body (rhoN l) base_) := law_fn l
  rw [h3, h2]; rfl
 ·match i, h with
  | 0, _ => exact ⟨_, X.S.get 0 _ t0⟩
  | 1, _ => exact ⟨_, X.S.get 1 _ t1⟩
end Mine
end
theorem PySem.Challenge.cw_pc0149_01_holds : PySem.Challenge.rw_pc0149_01.Holds :=
  Mine.join_ Mine.law_run
