import PyProof.Rows.All
import Wide.All
import OpenK.AllK
import Wide.FinOn
import Lean
import PySem.Challenge.RW_pc0149_02
open PySem PySem.W PySem.Calls PyProof.Rows
set_option Elab.async false
set_option autoImplicit false
set_option maxRecDepth 100000
set_option maxHeartbeats 1000000
set_option linter.unusedVariables false
set_option genInjectivity false
set_option genSizeOf false
set_option genSizeOfSpec false
set_option genCtorIdx false
set_option tactic.hygienic false
set_option backward.match.sparseCases false
set_option bootstrap.genMatcherCode false
noncomputable section
namespace Mine
theorem sInj {α : Type} {a b : α} (h : some a = some b) : a = b := Option.some.inj h
theorem noS {α : Type} {a : α} {P : Prop} (h : none = some a) : P := by cases h
theorem noB {P : Prop} (h : false = true) : P := by cases h
theorem noR {α ε β : Type} {a : α} {x : ε} {s t : β} {P : Prop} (h : (Except.ok a, s) = (Except.error x, t)) : P := by cases h
theorem E1 {α : Type} {a : α} {motive : ∀ b : α, some a = some b → Prop} (k : motive a rfl) {b : α} (e : some a = some b) : motive b e := by cases e; exact k
theorem E1r {α : Type} {b : α} {motive : ∀ a : α, some a = some b → Prop} (k : motive b rfl) {a : α} (e : some a = some b) : motive a e := by cases e; exact k
theorem E2 {α β : Type} {a : α} {s : β} {motive : ∀ (b : α) (t : β), some (a, s) = some (b, t) → Prop} (k : motive a s rfl) {b : α} {t : β} (e : some (a, s) = some (b, t)) : motive b t e := by cases e; exact k
theorem E3 {α β ε : Type} {a : α} {s : β} {motive : ∀ (b : α) (t : β), some ((Except.ok a : Except ε α), s) = some (Except.ok b, t) → Prop} (k : motive a s rfl) {b : α} {t : β} (e : some ((Except.ok a : Except ε α), s) = some (Except.ok b, t)) : motive b t e := by cases e; exact k
theorem E4 {α β : Type} {a : α} {s : β} {motive : ∀ (b : α) (t : β), (a, s) = (b, t) → Prop} (k : motive a s rfl) {b : α} {t : β} (e : (a, s) = (b, t)) : motive b t e := by cases e; exact k
theorem E8 {α : Type} {a : α} {motive : ∀ b : α, a = b → Prop} (k : motive a rfl) {b : α} (e : a = b) : motive b e := by cases e; exact k
theorem iteE {α : Type} {c : Prop} [h : Decidable c] {a b r : α} {P : Prop} (e : (if c then a else b) = r) (k1 : c → a = r → P) (k2 : ¬c → b = r → P) : P := by
  cases h with
  | isTrue h => exact k1 h e
  | isFalse h => exact k2 h e
theorem iteS {α : Type} {c : Prop} [h : Decidable c] {a : Option α} {r : α} {P : Prop} (e : (if c then a else none) = some r) (k1 : c → a = some r → P) : P := by
  cases h with
  | isTrue h => exact k1 h e
  | isFalse h => cases e
theorem bindE {α β : Type} {o : Option α} {f : α → Option β} {r : β} {P : Prop} (e : o.bind f = some r) (k : ∀ d, o = some d → f d = some r → P) : P := by
  cases o with
  | some d => exact k d rfl e
  | none => cases e
theorem orE {β : Type} {o p : Option β} {r : β} {P : Prop} (e : o.or p = some r) (k1 : o = some r → P) (k2 : p = some r → P) : P := by
  cases o with
  | some d => exact k1 e
  | none => exact k2 e
theorem mapD {β : Type} {o : Option β} {f : β → Bool} (e : (o.map f).getD false = true) : ∃ d, o = some d ∧ f d = true := by
  cases o with
  | some d => exact ⟨d, rfl, e⟩
  | none => cases e
theorem mapE {α β : Type} {o : Option α} {f : α → β} {r : β} {P : Prop} (e : o.map f = some r) (k : ∀ d, o = some d → f d = r → P) : P := by
  cases o with
  | some d => exact k d rfl (sInj e)
  | none => cases e
noncomputable def arg1 {α : Type} : List α → Option α
  | [x] => some x
  | _ => none
noncomputable def arg2 {α : Type} : List α → Option (α × α)
  | [x, y] => some (x, y)
  | _ => none
noncomputable def arg3 {α : Type} : List α → Option (α × α × α)
  | [x, y, z] => some (x, y, z)
  | _ => none
theorem arg1_of {α : Type} {l : List α} {x : α} (h : arg1 l = some x) : l = [x] := by
  cases l with
  | nil => exact noS h
  | cons a l => cases l with
    | nil => rw [sInj h]
    | cons b l => exact noS h
theorem arg2_of {α : Type} {l : List α} {p : α × α} (h : arg2 l = some p) : l = [p.1, p.2] := by
  cases l with
  | nil => exact noS h
  | cons a l => cases l with
    | nil => exact noS h
    | cons b l => cases l with
      | nil => rw [← sInj h]
      | cons c l => exact noS h
theorem arg3_of {α : Type} {l : List α} {p : α × α × α} (h : arg3 l = some p) : l = [p.1, p.2.1, p.2.2] := by
  cases l with
  | nil => exact noS h
  | cons a l => cases l with
    | nil => exact noS h
    | cons b l => cases l with
      | nil => exact noS h
      | cons c l => cases l with
        | nil => rw [← sInj h]
        | cons d l => exact noS h
theorem iteT {α β : Type} {c : Prop} [h : Decidable c] {a b r : α} {a' b' r' : β} (e : (if c then a else b) = r) (k1 : c → a = r → a' = r') (k2 : ¬c → b = r → b' = r') : (if c then a' else b') = r' := by
  cases h with
  | isTrue h => exact k1 h e
  | isFalse h => exact k2 h e
set_option genCtorIdx true in
inductive V where
  | none
  | bool (b : Bool)
  | int (i : Int)
  | str (s : Str)
  | tup (l : List V)
  | hnd (k : Nat)
  | glob (a : Addr)
  | bi (id : String)
  | ty (id : String)
  | rng (a b c : Int)
  | lstK (l : List V)
  deriving Inhabited
set_option genCtorIdx true in
inductive O where
  | list (l : List V)
  | sdict (l : List (Str × V))
  | idict (l : List (Int × V))
  | inst (C : Addr) (fs : List (Str × V))
  | cell (v : Option V)
  | lam (params : Arguments) (body : Expr) (sc : Scope) (qual : Str) (cl : List (Str × Nat))
  | tab (qual : Str)
  deriving Inhabited
abbrev Sto := List O
abbrev Led := List (Addr × Obj)
abbrev Al := List (Addr × Option Addr)
noncomputable def flat (al : Al) : List Addr := al.flatMap fun p => p.1 :: p.2.toList
section
variable (K : Frag)
mutual
inductive VR (news : Led) (al : Al) : Value → V → Prop where
  | none : VR news al .none .none
  | bool {b : Bool} : VR news al (.bool b) (.bool b)
  | int {i : Int} {t : Tok} : VR news al (.int i t) (.int i)
  | str {s : Str} {t : Tok} : VR news al (.str s t) (.str s)
  | tup {a : Addr} {vs : List Value} {l : List V} {n : Nat} : (a, ({ cls := .type "tuple", data := .seq vs.toArray n } : Obj)) ∈ news → VRs news al vs l → VR news al (.ref a) (.tup l)
  | tupK {a : Addr} {vs : List Value} {l : List V} {n : Nat} : K.lookup a = some { cls := .type "tuple", data := .seq vs.toArray n } → VRs news al vs l → VR news al (.ref a) (.tup l)
  | hnd {k : Nat} {a : Addr} {x : Option Addr} : al[k]? = some (a, x) → VR news al (.ref a) (.hnd k)
  | glob {a : Addr} : VR news al (.ref a) (.glob a)
  | bi {id : String} : VR news al (.builtin id) (.bi id)
  | ty {id : String} : VR news al (.type id) (.ty id)
  | rng {x : Addr} {a b c : Int} {t u v : Tok} : (x, ({ cls := .type "range", data := .fields #[.int a t, .int b u, .int c v] } : Obj)) ∈ news → VR news al (.ref x) (.rng a b c)
  | lstK {a : Addr} {o : Obj} {vs : List Value} {l : List V} {n : Nat} : K.lookup a = some o → o.cls = .type "list" → o.data = .seq vs.toArray n → VRs news al vs l → VR news al (.ref a) (.lstK l)
inductive VRs (news : Led) (al : Al) : List Value → List V → Prop where
  | nil : VRs news al [] []
  | cons {v : Value} {x : V} {vs : List Value} {l : List V} : VR news al v x → VRs news al vs l → VRs news al (v :: vs) (x :: l)
end
inductive FR (P : Params) (news : Led) (al : Al) : List DictEntry → List (Str × V) → Prop where
  | nil : FR P news al [] []
  | cons {x : Str} {t : Tok} {v : Value} {y : V} {es : List DictEntry} {fs : List (Str × V)} : VR K news al v y → FR P news al es fs → FR P news al (⟨PyData.keyHash P x, .str x t, v⟩ :: es) ((x, y) :: fs)
inductive PR (news : Led) (al : Al) {κ : Type} : List (κ × Value) → List (κ × V) → Prop where
  | nil : PR news al [] []
  | cons {k : κ} {v : Value} {y : V} {es : List (κ × Value)} {fs : List (κ × V)} : VR K news al v y → PR news al es fs → PR news al ((k, v) :: es) ((k, y) :: fs)
end
section
variable {K : Frag} {news : Led} {al : Al} {v : Value} {y : V} {vs : List Value} {l : List V}
theorem VR.inv (h : VR K news al v y) : match y with
    | .none => v = .none
    | .bool b => v = .bool b
    | .int i => ∃ t, v = .int i t
    | .str s => ∃ t, v = .str s t
    | .glob a => v = .ref a
    | .bi id => v = .builtin id
    | .ty id => v = .type id
    | .hnd k => ∃ a, v = .ref a ∧ ∃ x, al[k]? = some (a, x)
    | .rng a b c => ∃ x t u w, v = .ref x ∧ (x, ({ cls := .type "range", data := .fields #[.int a t, .int b u, .int c w] } : Obj)) ∈ news
    | .lstK l => ∃ a o vs n, v = .ref a ∧ K.lookup a = some o ∧ o.cls = .type "list" ∧ o.data = .seq vs.toArray n ∧ VRs K news al vs l
    | .tup l => ∃ a, v = .ref a := by
  cases h with
  | hnd h => exact ⟨_, rfl, _, h⟩
  | rng h => exact ⟨_, _, _, _, rfl, h⟩
  | lstK h h1 h2 h3 => exact ⟨_, _, _, _, rfl, h, h1, h2, h3⟩
  | _ => first | exact rfl | exact ⟨_, rfl⟩
noncomputable def V.int? : V → Option Int
  | .int i => some i
  | _ => Option.none
noncomputable def V.str? : V → Option Str
  | .str x => some x
  | _ => Option.none
noncomputable def V.tup? : V → Option (List V)
  | .tup l => some l
  | _ => Option.none
noncomputable def V.hnd? : V → Option Nat
  | .hnd k => some k
  | _ => Option.none
noncomputable def O.list? : O → Option (List V)
  | .list l => some l
  | _ => Option.none
noncomputable def O.sdict? : O → Option (List (Str × V))
  | .sdict l => some l
  | _ => Option.none
theorem V.int_of {i : Int} (h : y.int? = some i) : y = .int i := by cases y <;> first | exact noS h | exact congrArg V.int (sInj h)
theorem V.str_of {i : Str} (h : y.str? = some i) : y = .str i := by cases y <;> first | exact noS h | exact congrArg V.str (sInj h)
theorem V.tup_of {i : List V} (h : y.tup? = some i) : y = .tup i := by cases y <;> first | exact noS h | exact congrArg V.tup (sInj h)
theorem V.hnd_of {i : Nat} (h : y.hnd? = some i) : y = .hnd i := by cases y <;> first | exact noS h | exact congrArg V.hnd (sInj h)
theorem O.list_of {o : O} {i : List V} (h : o.list? = some i) : o = .list i := by cases o <;> first | exact noS h | exact congrArg O.list (sInj h)
theorem O.sdict_of {o : O} {i : List (Str × V)} (h : o.sdict? = some i) : o = .sdict i := by cases o <;> first | exact noS h | exact congrArg O.sdict (sInj h)
theorem VR.vint (h : VR K news al v y) {i : Int} (e : y.int? = some i) : ∃ t, v = .int i t := (V.int_of e ▸ h : VR K news al v (.int i)).inv
theorem VR.vstr (h : VR K news al v y) {i : Str} (e : y.str? = some i) : ∃ t, v = .str i t := (V.str_of e ▸ h : VR K news al v (.str i)).inv
theorem VR.vtup (h : VR K news al v y) {i : List V} (e : y.tup? = some i) : ∃ a, v = .ref a ∧ VR K news al (.ref a) (.tup i) := let ⟨a, ha⟩ := (V.tup_of e ▸ h : VR K news al v (.tup i)).inv; ⟨a, ha, ha ▸ V.tup_of e ▸ h⟩
theorem VR.vhnd (h : VR K news al v y) {i : Nat} (e : y.hnd? = some i) : ∃ a, v = .ref a ∧ VR K news al (.ref a) (.hnd i) := let ⟨a, ha, _⟩ := (V.hnd_of e ▸ h : VR K news al v (.hnd i)).inv; ⟨a, ha, ha ▸ V.hnd_of e ▸ h⟩
noncomputable def lstAt (st : Sto) (k : Nat) : Option (List V) := st[k]?.bind O.list?
noncomputable def dicAt (st : Sto) (k : Nat) : Option (List (Str × V)) := st[k]?.bind O.sdict?
theorem lstAt_of {st : Sto} {k : Nat} {l : List V} (h : lstAt st k = some l) : st[k]? = some (.list l) := bindE h fun _ h1 h2 => O.list_of h2 ▸ h1
theorem dicAt_of {st : Sto} {k : Nat} {l : List (Str × V)} (h : dicAt st k = some l) : st[k]? = some (.sdict l) := bindE h fun _ h1 h2 => O.sdict_of h2 ▸ h1
theorem VRs.inv (h : VRs K news al vs l) : match l with
    | [] => vs = []
    | y :: r => ∃ v ws, vs = v :: ws ∧ VR K news al v y ∧ VRs K news al ws r := by
  cases h with
  | nil => exact rfl
  | cons h1 h2 => exact ⟨_, _, rfl, h1, h2⟩
theorem VRs.inv1 (h : VRs K news al vs [y]) : ∃ v, vs = [v] ∧ VR K news al v y := by
  obtain ⟨v, ws, e, h1, h2⟩ := h.inv
  have e2 : ws = [] := h2.inv
  exact ⟨v, e2 ▸ e, h1⟩
def int1 (l : List V) : Option Int := (arg1 l).bind V.int?
def int2 (l : List V) : Option (Int × Int) := (arg2 l).bind fun p => p.1.int?.bind fun a => p.2.int?.bind fun b => some (a, b)
def int3 (l : List V) : Option (Int × Int × Int) := (arg3 l).bind fun p => p.1.int?.bind fun a => p.2.1.int?.bind fun b => p.2.2.int?.bind fun c => some (a, b, c)
theorem VRs.a1 (h : VRs K news al vs l) {x : V} (e : arg1 l = some x) : ∃ v, vs = [v] ∧ VR K news al v x := (arg1_of e ▸ h : VRs K news al vs [x]).inv1
theorem VRs.a2 (h : VRs K news al vs l) {p : V × V} (e : arg2 l = some p) : ∃ v w, vs = [v, w] ∧ VR K news al v p.1 ∧ VR K news al w p.2 := by
  obtain ⟨v, ws, e1, h1, h2⟩ := (arg2_of e ▸ h : VRs K news al vs [p.1, p.2]).inv
  obtain ⟨w, e2, h3⟩ := VRs.inv1 h2
  exact ⟨v, w, e2 ▸ e1, h1, h3⟩
theorem VRs.a3 (h : VRs K news al vs l) {p : V × V × V} (e : arg3 l = some p) : ∃ v w u, vs = [v, w, u] ∧ VR K news al v p.1 ∧ VR K news al w p.2.1 ∧ VR K news al u p.2.2 := by
  obtain ⟨v, ws, e1, h1, h2⟩ := (arg3_of e ▸ h : VRs K news al vs [p.1, p.2.1, p.2.2]).inv
  obtain ⟨w, u, e2, h3, h4⟩ := VRs.a2 h2 (p := p.2) rfl
  exact ⟨v, w, u, e2 ▸ e1, h1, h3, h4⟩
theorem VRs.i1 (h : VRs K news al vs l) {i : Int} (e : int1 l = some i) : ∃ t, vs = [.int i t] := bindE e fun x e1 e => by
  obtain ⟨v, e2, h1⟩ := h.a1 e1
  obtain ⟨t, e3⟩ := h1.vint e
  exact ⟨t, e3 ▸ e2⟩
theorem VRs.i2 (h : VRs K news al vs l) {i : Int × Int} (e : int2 l = some i) : ∃ t u, vs = [.int i.1 t, .int i.2 u] := bindE e fun x e1 e => bindE e fun a e2 e => bindE e fun b e3 e => by
  obtain ⟨v, w, e4, h1, h2⟩ := h.a2 e1
  obtain ⟨t, e5⟩ := h1.vint e2
  obtain ⟨u, e6⟩ := h2.vint e3
  exact sInj e ▸ ⟨t, u, e5 ▸ e6 ▸ e4⟩
theorem VRs.i3 (h : VRs K news al vs l) {i : Int × Int × Int} (e : int3 l = some i) : ∃ t u y, vs = [.int i.1 t, .int i.2.1 u, .int i.2.2 y] := bindE e fun x e1 e => bindE e fun a e2 e => bindE e fun b e3 e => bindE e fun c e4 e => by
  obtain ⟨v, w, z, e5, h1, h2, h3⟩ := h.a3 e1
  obtain ⟨t, e6⟩ := h1.vint e2
  obtain ⟨u, e7⟩ := h2.vint e3
  obtain ⟨y, e8⟩ := h3.vint e4
  exact sInj e ▸ ⟨t, u, y, e6 ▸ e7 ▸ e8 ▸ e5⟩
theorem VRs.ind {P : ∀ (vs : List Value) (l : List V), VRs K news al vs l → Prop} (nil : P [] [] .nil) (cons : ∀ {v : Value} {x : V} {vs : List Value} {l : List V} (h : VR K news al v x) (hs : VRs K news al vs l), P vs l hs → P (v :: vs) (x :: l) (.cons h hs)) {vs : List Value} {l : List V} (h : VRs K news al vs l) : P vs l h :=
  VRs.rec (motive_1 := fun _ _ _ => True) (motive_2 := fun vs l h => P vs l h) trivial trivial trivial trivial (fun _ _ _ => trivial) (fun _ _ _ => trivial) (fun _ => trivial) trivial trivial trivial (fun _ => trivial) (fun _ _ _ _ _ => trivial) nil (fun h hs _ ih => cons h hs ih) h
end
end Mine
namespace Mine
section
variable (K : Frag) (prog : Program) (w : World)
inductive OR (news : Led) (al : Al) : Addr × Option Addr → O → Prop where
  | list {a : Addr} {vs : List Value} {n : Nat} {l : List V} : (a, listOf vs.toArray n) ∈ news → VRs K news al vs l → OR news al (a, none) (.list l)
  | sdict {a : Addr} {o : Obj} {kvs : List (Str × Value)} {fs : List (Str × V)} : (a, o) ∈ news → o.IsDictOf (strKind prog w) kvs → (a == sysModules) = false → PR K news al kvs fs → OR news al (a, none) (.sdict fs)
  | idict {a : Addr} {o : Obj} {kvs : List (Int × Value)} {fs : List (Int × V)} : (a, o) ∈ news → o.IsDictOf (intKind prog w) kvs → (a == sysModules) = false → PR K news al kvs fs → OR news al (a, none) (.idict fs)
  | inst {a C dx : Addr} {es : List DictEntry} {n : Nat} {fs : List (Str × V)} : (a, instObj C dx) ∈ news → (dx, dictOf es n) ∈ news → FR K w.params news al es fs → OR news al (a, some dx) (.inst C fs)
  | cell {a : Addr} {o : Obj} {v : Value} {x : V} : (a, o) ∈ news → o.data = .cell (some v) → VR K news al v x → OR news al (a, none) (.cell (some x))
  | cell0 {a : Addr} {o : Obj} : (a, o) ∈ news → o.data = .cell none → OR news al (a, none) (.cell none)
  | lam {f c' : Addr} {oc : Obj} {vs : Array Value} {t : Tok} {name qual : Str} {params : Arguments} {body : Expr} {sc : Scope} {clos : List (Str × Addr)} {cl : List (Str × Nat)} {pm ctv : Value} :
      (f, kla_obj name qual params body sc clos pm c' ctv) ∈ news → (c', oc) ∈ news → oc.data = .fields vs → vs[1]? = some (.str qual t) →
      (∀ x k, cl.lookup x = some k → ∃ a, clos.lookup x = some a ∧ al[k]? = some (a, none)) → OR news al (f, none) (.lam params body sc qual cl)
  | tab {P : Addr} {ps : Array Value} {qual : Str} : (P, tabObj ps) ∈ news → TriplesOk ps.toList →
      (∀ pos cv, codeAmong pos ps.toList = some cv → ∃ c' oc vs t, cv = .ref c' ∧ (c', oc) ∈ news ∧ oc.data = .fields vs ∧ vs[1]? = some (.str qual t)) → OR news al (P, none) (.tab qual)
structure HR (news : Led) (al : Al) (st : Sto) : Prop where
  nd : (news.map (·.1)).Nodup
  len : al.length = st.length
  nda : (flat al).Nodup
  obj : ∀ (k : Nat) (p : Addr × Option Addr) (o : O), al[k]? = some p → st[k]? = some o → OR K prog w news al p o
structure Ext (news : Led) (al : Al) (news' : Led) (al' : Al) : Prop where
  more : ∃ β : Al, al' = al ++ β ∧ ∀ a ∈ flat β, a ∉ news.map (·.1)
  keep : ∀ p ∈ news, p.1 ∉ flat al → p ∈ news'
  dom : ∀ a ∈ news.map (·.1), a ∈ news'.map (·.1)
variable {K prog w}
theorem nodup_eq {news : Led} (nd : (news.map (·.1)).Nodup) {a : Addr} {o o' : Obj} (h : (a, o) ∈ news) (h' : (a, o') ∈ news) : o = o' := by
  induction news with
  | nil => cases h
  | cons p r ih =>
    simp only [List.map_cons, List.nodup_cons] at nd
    rcases List.mem_cons.mp h with e | h
    · rcases List.mem_cons.mp h' with e' | h'
      · rw [← e] at e'; exact (Prod.mk.inj e'.symm).2
      · exact absurd (List.mem_map_of_mem (f := (·.1)) h') (by rw [← e] at nd; exact nd.1)
    · rcases List.mem_cons.mp h' with e' | h'
      · exact absurd (List.mem_map_of_mem (f := (·.1)) h) (by rw [← e'] at nd; exact nd.1)
      · exact ih nd.2 h h'
theorem mem_flat {al : Al} {a : Addr} : a ∈ flat al ↔ ∃ (k : Nat) (p : Addr × Option Addr), al[k]? = some p ∧ (a = p.1 ∨ p.2 = some a) := by
  unfold flat
  rw [List.mem_flatMap]
  constructor
  · rintro ⟨p, hp, ha⟩
    obtain ⟨k, hk⟩ := List.getElem?_of_mem hp
    refine ⟨k, p, hk, ?_⟩
    rcases List.mem_cons.mp ha with e | h
    · exact .inl e
    · exact .inr (Option.mem_toList.mp h)
  · rintro ⟨k, p, hk, h⟩
    refine ⟨p, List.mem_of_getElem? hk, ?_⟩
    rcases h with e | h
    · exact e ▸ List.mem_cons_self
    · exact List.mem_cons_of_mem _ (Option.mem_toList.mpr h)
theorem flat_append (a b : Al) : flat (a ++ b) = flat a ++ flat b := List.flatMap_append
theorem HR.at {news : Led} {al : Al} {st : Sto} (H : HR K prog w news al st) {k : Nat} {p : Addr × Option Addr} (hk : al[k]? = some p) : ∃ o, st[k]? = some o ∧ OR K prog w news al p o := by
  have : k < st.length := H.len ▸ (List.getElem?_eq_some_iff.mp hk).1
  exact ⟨st[k], List.getElem?_eq_getElem this, H.obj k p _ hk (List.getElem?_eq_getElem this)⟩
def Free (o : Obj) : Prop := (o.cls = .type "tuple" ∧ ∃ vs n, o.data = .seq vs n) ∨ (∃ vs, o.data = .fields vs ∧ (o.cls = .type "range" ∨ ∃ x t, vs[1]? = some (.str x t)))
theorem triples_1 {l : List Value} (h : TriplesOk l) : ∀ x t, l[1]? ≠ some (.str x t) := by
  intro x t e
  cases l with
  | nil => cases e
  | cons a l => cases l with
    | nil => cases e
    | cons b l =>
      have e1 : b = .str x t := sInj e
      subst e1
      cases a <;> exact h.elim
theorem nf_of {o : Obj} (h1 : o.cls ≠ .type "tuple") (h2 : ∀ vs, o.data = .fields vs → o.cls ≠ .type "range" ∧ ∀ x t, vs[1]? ≠ some (.str x t)) : ¬ Free o := fun q => q.elim (fun q => h1 q.1) fun ⟨_, e, q⟩ => q.elim (fun q => (h2 _ e).1 q) fun ⟨x, t, q⟩ => (h2 _ e).2 x t q
theorem nf_data {o : Obj} (h1 : ∀ vs n, o.data ≠ .seq vs n) (h2 : ∀ vs, o.data ≠ .fields vs) : ¬ Free o := fun q => q.elim (fun ⟨_, vs, n, e⟩ => h1 vs n e) fun ⟨vs, e, _⟩ => h2 vs e
theorem ty_ne {a b : String} (h : a ≠ b) : Value.type a ≠ .type b := fun e => h (Value.type.inj e)
theorem OR.own {news : Led} {al : Al} {p : Addr × Option Addr} {o : O} (h : OR K prog w news al p o) : (∃ ob, (p.1, ob) ∈ news ∧ ¬ Free ob) ∧ ∀ d, p.2 = some d → ∃ ob, (d, ob) ∈ news ∧ ¬ Free ob := by
  cases h with
  | list h _ => exact ⟨⟨_, h, nf_of (ty_ne (by decide)) nofun⟩, nofun⟩
  | sdict h hd _ _ => exact ⟨⟨_, h, let ⟨es, ep, _, hdat, _⟩ := hd; nf_data (hdat ▸ nofun) (hdat ▸ nofun)⟩, nofun⟩
  | idict h hd _ _ => exact ⟨⟨_, h, let ⟨es, ep, _, hdat, _⟩ := hd; nf_data (hdat ▸ nofun) (hdat ▸ nofun)⟩, nofun⟩
  | inst h h' _ => exact ⟨⟨_, h, nf_data nofun nofun⟩, fun _ e => ⟨_, sInj e ▸ h', nf_data (fun _ _ e => by cases e) (fun _ e => by cases e)⟩⟩
  | cell h hd _ => exact ⟨⟨_, h, nf_data (hd ▸ nofun) (hd ▸ nofun)⟩, nofun⟩
  | cell0 h hd => exact ⟨⟨_, h, nf_data (hd ▸ nofun) (hd ▸ nofun)⟩, nofun⟩
  | lam h _ _ _ _ => exact ⟨⟨_, h, nf_data nofun nofun⟩, nofun⟩
  | tab h ht _ => exact ⟨⟨_, h, nf_of nofun fun vs e => ⟨nofun, fun x t q => triples_1 ht x t ((Array.getElem?_toList (xs := _)).symm ▸ by cases e; exact q)⟩⟩, nofun⟩
theorem OR.inv {news : Led} {al : Al} {p : Addr × Option Addr} {o : O} (h : OR K prog w news al p o) : match o with
    | .list l => p.2 = none ∧ ∃ vs n, (p.1, listOf vs.toArray n) ∈ news ∧ VRs K news al vs l
    | .sdict fs => p.2 = none ∧ ∃ o kvs, (p.1, o) ∈ news ∧ o.IsDictOf (strKind prog w) kvs ∧ (p.1 == sysModules) = false ∧ PR K news al kvs fs
    | .idict fs => p.2 = none ∧ ∃ o kvs, (p.1, o) ∈ news ∧ o.IsDictOf (intKind prog w) kvs ∧ (p.1 == sysModules) = false ∧ PR K news al kvs fs
    | .inst C fs => ∃ dx es n, p.2 = some dx ∧ (p.1, instObj C dx) ∈ news ∧ (dx, dictOf es n) ∈ news ∧ FR K w.params news al es fs
    | .cell y => p.2 = none ∧ ∃ o v, (p.1, o) ∈ news ∧ o.data = .cell v ∧ ∀ z, y = some z → ∃ u, v = some u ∧ VR K news al u z
    | .lam ps b sc q cl => p.2 = none ∧ ∃ c' oc vs t name clos pm ctv, (p.1, kla_obj name q ps b sc clos pm c' ctv) ∈ news ∧ (c', oc) ∈ news ∧ oc.data = .fields vs ∧ vs[1]? = some (.str q t) ∧ ∀ x k, cl.lookup x = some k → ∃ a, clos.lookup x = some a ∧ al[k]? = some (a, none)
    | .tab q => p.2 = none ∧ ∃ ps, (p.1, tabObj ps) ∈ news ∧ TriplesOk ps.toList ∧ ∀ pos cv, codeAmong pos ps.toList = some cv → ∃ c' oc vs t, cv = .ref c' ∧ (c', oc) ∈ news ∧ oc.data = .fields vs ∧ vs[1]? = some (.str q t) := by
  cases h with
  | list h h1 => exact ⟨rfl, _, _, h, h1⟩
  | sdict h h1 h2 h3 => exact ⟨rfl, _, _, h, h1, h2, h3⟩
  | idict h h1 h2 h3 => exact ⟨rfl, _, _, h, h1, h2, h3⟩
  | inst h h1 h2 => exact ⟨_, _, _, rfl, h, h1, h2⟩
  | cell h h1 h2 => exact ⟨rfl, _, _, h, h1, fun z e => ⟨_, rfl, sInj e ▸ h2⟩⟩
  | cell0 h h1 => exact ⟨rfl, _, _, h, h1, nofun⟩
  | lam h h1 h2 h3 h4 => exact ⟨rfl, _, _, _, _, _, _, _, _, h, h1, h2, h3, h4⟩
  | tab h h1 h2 => exact ⟨rfl, _, h, h1, h2⟩
theorem HR.own {news : Led} {al : Al} {st : Sto} (H : HR K prog w news al st) {a : Addr} (h : a ∈ flat al) : ∃ ob, (a, ob) ∈ news ∧ ¬ Free ob := by
  obtain ⟨k, p, hk, e⟩ := mem_flat.mp h
  obtain ⟨o, _, ho⟩ := H.at hk
  rcases e with rfl | e
  · exact ho.own.1
  · exact ho.own.2 a e
theorem HR.own_dom {news : Led} {al : Al} {st : Sto} (H : HR K prog w news al st) {a : Addr} (h : a ∈ flat al) : a ∈ news.map (·.1) := by
  obtain ⟨ob, hm, _⟩ := H.own h
  exact List.mem_map_of_mem (f := (·.1)) hm
theorem HR.free_of {news : Led} {al : Al} {st : Sto} (H : HR K prog w news al st) {a : Addr} {o : Obj} (h : (a, o) ∈ news) (hf : Free o) : a ∉ flat al := fun ha => by
  obtain ⟨ob, hm, hn⟩ := H.own ha
  exact hn (nodup_eq H.nd hm h ▸ hf)
theorem free_code {o : Obj} {vs : Array Value} {x : Str} {t : Tok} (h : o.data = .fields vs) (h' : vs[1]? = some (.str x t)) : Free o := .inr ⟨vs, h, .inr ⟨x, t, h'⟩⟩
structure Kp (news : Led) (al : Al) (news' : Led) (al' : Al) : Prop where
  more : ∃ β : Al, al' = al ++ β
  keep : ∀ p ∈ news, Free p.2 → p ∈ news'
theorem Kp.at {news news' : Led} {al al' : Al} (X : Kp news al news' al') {k : Nat} {p : Addr × Option Addr} (h : al[k]? = some p) : al'[k]? = some p := by
  obtain ⟨β, e⟩ := X.more
  rw [e]; exact (List.getElem?_append_left (List.getElem?_eq_some_iff.mp h).1).trans h
theorem Ext.kp {news news' : Led} {al al' : Al} {st : Sto} (H : HR K prog w news al st) (X : Ext news al news' al') : Kp news al news' al' :=
  ⟨let ⟨β, e, _⟩ := X.more; ⟨β, e⟩, fun p hp hf => X.keep p hp (H.free_of hp hf)⟩
theorem VR.kp {news news' : Led} {al al' : Al} (X : Kp news al news' al') {v : Value} {x : V} (h : VR K news al v x) : VR K news' al' v x :=
  VR.rec (motive_1 := fun v x _ => VR K news' al' v x) (motive_2 := fun vs l _ => VRs K news' al' vs l) .none .bool .int .str (fun h _ hs => .tup (X.keep _ h (.inl ⟨rfl, _, _, rfl⟩)) hs) (fun h _ hs => .tupK h hs) (fun h => .hnd (X.at h)) .glob .bi .ty (fun h => .rng (X.keep _ h (.inr ⟨_, rfl, .inl rfl⟩))) (fun h h1 h2 _ hs => .lstK h h1 h2 hs) .nil (fun _ _ h hs => .cons h hs) h
theorem VRs.kp {news news' : Led} {al al' : Al} (X : Kp news al news' al') {v : List Value} {x : List V} (h : VRs K news al v x) : VRs K news' al' v x := VRs.ind (P := fun vs l _ => VRs K news' al' vs l) .nil (fun h _ ih => .cons (h.kp X) ih) h
theorem FR.kp {P : Params} {news news' : Led} {al al' : Al} (X : Kp news al news' al') {es : List DictEntry} {fs} (h : FR K P news al es fs) : FR K P news' al' es fs := by
  induction h with
  | nil => exact .nil
  | cons h _ ih => exact .cons (h.kp X) ih
theorem PR.kp {κ : Type} {news news' : Led} {al al' : Al} (X : Kp news al news' al') {es : List (κ × Value)} {fs : List (κ × V)} (h : PR K news al es fs) : PR K news' al' es fs := by
  induction h with
  | nil => exact .nil
  | cons h _ ih => exact .cons (h.kp X) ih
theorem OR.kp {news news' : Led} {al al' : Al} (X : Kp news al news' al') {p : Addr × Option Addr} {o : O} (hm : ∀ a ob, (a = p.1 ∨ p.2 = some a) → (a, ob) ∈ news → (a, ob) ∈ news') (h : OR K prog w news al p o) : OR K prog w news' al' p o := by
  cases h with
  | list h hs => exact .list (hm _ _ (.inl rfl) h) (hs.kp X)
  | sdict h hd hn hs => exact .sdict (hm _ _ (.inl rfl) h) hd hn (hs.kp X)
  | idict h hd hn hs => exact .idict (hm _ _ (.inl rfl) h) hd hn (hs.kp X)
  | inst h h' hs => exact .inst (hm _ _ (.inl rfl) h) (hm _ _ (.inr rfl) h') (hs.kp X)
  | cell h hd hv => exact .cell (hm _ _ (.inl rfl) h) hd (hv.kp X)
  | cell0 h hd => exact .cell0 (hm _ _ (.inl rfl) h) hd
  | lam h hc h1 h2 h3 => exact .lam (hm _ _ (.inl rfl) h) (X.keep _ hc (free_code h1 h2)) h1 h2 (by
      intro x k e
      obtain ⟨a, e1, e2⟩ := h3 x k e
      exact ⟨a, e1, X.at e2⟩)
  | tab h ht hc => exact .tab (hm _ _ (.inl rfl) h) ht (by
      intro pos cv e
      obtain ⟨c', oc, vs, t, e1, e2, e3, e4⟩ := hc pos cv e
      exact ⟨c', oc, vs, t, e1, X.keep _ e2 (free_code e3 e4), e3, e4⟩)
theorem VR.ext {news news' : Led} {al al' : Al} {st : Sto} (H : HR K prog w news al st) (X : Ext news al news' al') {v : Value} {x : V} (h : VR K news al v x) : VR K news' al' v x := h.kp (X.kp H)
theorem VRs.ext {news news' : Led} {al al' : Al} {st : Sto} (H : HR K prog w news al st) (X : Ext news al news' al') {v : List Value} {x : List V} (h : VRs K news al v x) : VRs K news' al' v x := h.kp (X.kp H)
theorem FR.ext {P : Params} {news news' : Led} {al al' : Al} {st : Sto} (H : HR K prog w news al st) (X : Ext news al news' al') {es : List DictEntry} {fs} (h : FR K P news al es fs) : FR K P news' al' es fs := h.kp (X.kp H)
theorem PR.ext {κ : Type} {news news' : Led} {al al' : Al} {st : Sto} (H : HR K prog w news al st) (X : Ext news al news' al') {es : List (κ × Value)} {fs : List (κ × V)} (h : PR K news al es fs) : PR K news' al' es fs := h.kp (X.kp H)
theorem OR.ext {news news' : Led} {al al' : Al} {st : Sto} (H : HR K prog w news al st) (X : Ext news al news' al') {p : Addr × Option Addr} {o : O} (hm : ∀ a ob, (a = p.1 ∨ p.2 = some a) → (a, ob) ∈ news → (a, ob) ∈ news') (h : OR K prog w news al p o) : OR K prog w news' al' p o := h.kp (X.kp H) hm
theorem Ext.refl {news : Led} {al : Al} : Ext news al news al := ⟨⟨[], by simp, by simp [flat]⟩, fun _ h _ => h, fun _ h => h⟩
theorem Ext.trans {n1 n2 n3 : Led} {a1 a2 a3 : Al} {st : Sto} (H : HR K prog w n1 a1 st) (X : Ext n1 a1 n2 a2) (Y : Ext n2 a2 n3 a3) : Ext n1 a1 n3 a3 := by
  obtain ⟨β, rfl, hβ⟩ := X.more
  obtain ⟨γ, rfl, hγ⟩ := Y.more
  refine ⟨⟨β ++ γ, by rw [List.append_assoc], fun a ha => ?_⟩, fun p hp hn => ?_, fun a ha => Y.dom a (X.dom a ha)⟩
  · rw [flat_append] at ha
    rcases List.mem_append.mp ha with h | h
    · exact hβ a h
    · exact fun q => hγ a h (X.dom a q)
  · refine Y.keep p (X.keep p hp hn) fun q => ?_
    rw [flat_append] at q
    rcases List.mem_append.mp q with h | h
    · exact hn h
    · exact hβ p.1 h (List.mem_map_of_mem (f := (·.1)) hp)
theorem Ext.free {news : Led} {al : Al} {a : Addr} {o : Obj} : Ext news al ((a, o) :: news) al :=
  ⟨⟨[], by simp, by simp [flat]⟩, fun _ h _ => List.mem_cons_of_mem _ h, fun _ h => List.mem_cons_of_mem _ h⟩
theorem Ext.owned {news : Led} {al : Al} {a : Addr} {o : Obj} (h : a ∉ news.map (·.1)) : Ext news al ((a, o) :: news) (al ++ [(a, none)]) :=
  ⟨⟨[(a, none)], rfl, fun b hb => by simp [flat] at hb; subst hb; exact h⟩, fun _ h _ => List.mem_cons_of_mem _ h, fun _ h => List.mem_cons_of_mem _ h⟩
def dropLed (a : Addr) (news : Led) : Led := news.filter fun p => p.1 != a
theorem mem_dropLed {a : Addr} {p : Addr × Obj} {news : Led} : p ∈ dropLed a news ↔ p ∈ news ∧ p.1 ≠ a := by
  unfold dropLed; rw [List.mem_filter]; simp
theorem dropLed_nodup {a : Addr} : ∀ {news : Led}, (news.map (·.1)).Nodup → ((dropLed a news).map (·.1)).Nodup
  | [], _ => List.nodup_nil
  | p :: r, h => by
    simp only [List.map_cons, List.nodup_cons] at h
    unfold dropLed
    rw [List.filter_cons]
    split
    · simp only [List.map_cons, List.nodup_cons]
      refine ⟨fun q => h.1 ?_, dropLed_nodup (a := a) h.2⟩
      obtain ⟨x, hx, e⟩ := List.mem_map.mp q
      exact List.mem_map.mpr ⟨x, (List.mem_filter.mp hx).1, e⟩
    · exact dropLed_nodup h.2
theorem HR.drop {news : Led} {al : Al} {st : Sto} {a : Addr} (H : HR K prog w news al st) (ha : a ∉ flat al) (hf : ∀ o, (a, o) ∈ news → ¬ Free o) : HR K prog w (dropLed a news) al st ∧ Kp news al (dropLed a news) al := by
  have X : Kp news al (dropLed a news) al := ⟨⟨[], by simp⟩, fun p hp hfr => mem_dropLed.mpr ⟨hp, fun e => hf p.2 (by rw [← e]; exact hp) hfr⟩⟩
  exact ⟨⟨dropLed_nodup H.nd, H.len, H.nda, fun k p o hk hs => (H.obj k p o hk hs).kp X fun b ob hb hm => mem_dropLed.mpr ⟨hm, fun e => ha (mem_flat.mpr ⟨k, p, hk, by rw [← (show b = a from e)]; exact hb⟩)⟩⟩, X⟩
theorem HR.free {news : Led} {al : Al} {st : Sto} {a : Addr} {o : Obj} (H : HR K prog w news al st) (h : a ∉ news.map (·.1)) : HR K prog w ((a, o) :: news) al st :=
  ⟨List.nodup_cons.mpr ⟨h, H.nd⟩, H.len, H.nda, fun k p ob hk hs => (H.obj k p ob hk hs).ext H Ext.free fun _ _ _ hm => List.mem_cons_of_mem _ hm⟩
theorem HR.snoc {news : Led} {al : Al} {st : Sto} {p : Addr × Option Addr} {x : O} (H : HR K prog w news al st) (h1 : (p.1 :: p.2.toList).Nodup) (h2 : ∀ a ∈ p.1 :: p.2.toList, a ∉ flat al) (hx : OR K prog w news (al ++ [p]) p x) : HR K prog w news (al ++ [p]) (st ++ [x]) := by
  refine ⟨H.nd, by rw [List.length_append, List.length_append, H.len]; rfl, ?_, fun k q ob hk hs => ?_⟩
  · rw [flat_append]
    refine List.nodup_append.mpr ⟨H.nda, ?_, fun b hb c hc e => h2 c ?_ (e ▸ hb)⟩
    · rw [show flat [p] = p.1 :: p.2.toList from List.append_nil _]; exact h1
    · rw [show flat [p] = p.1 :: p.2.toList from List.append_nil _] at hc; exact hc
  · by_cases hlt : k < al.length
    · rw [List.getElem?_append_left hlt] at hk
      rw [List.getElem?_append_left (H.len ▸ hlt)] at hs
      exact (H.obj k q ob hk hs).kp ⟨⟨[p], rfl⟩, fun _ h _ => h⟩ fun _ _ _ hm => hm
    · have hk2 : k = al.length := by have := (List.getElem?_eq_some_iff.mp hk).1; rw [List.length_append] at this; exact Nat.le_antisymm (Nat.le_of_lt_succ this) (Nat.not_lt.mp hlt)
      rw [hk2, List.getElem?_concat_length] at hk
      rw [hk2, H.len, List.getElem?_concat_length] at hs
      rw [← sInj hk, ← sInj hs]
      exact hx
theorem HR.owned {news : Led} {al : Al} {st : Sto} {a : Addr} {o : Obj} {x : O} (H : HR K prog w news al st) (h : a ∉ news.map (·.1)) (hx : OR K prog w ((a, o) :: news) (al ++ [(a, none)]) (a, none) x) : HR K prog w ((a, o) :: news) (al ++ [(a, none)]) (st ++ [x]) :=
  (H.free h).snoc (p := (a, none)) (List.nodup_cons.mpr ⟨nofun, List.nodup_nil⟩) (fun b hb => List.mem_singleton.mp hb ▸ fun q => h (H.own_dom q)) hx
noncomputable def putLed (d : Addr) (o : Obj) (news : Led) : Led := news.map fun p => if p.1 = d then (d, o) else p
theorem putLed_dom (d : Addr) (o : Obj) (news : Led) : (putLed d o news).map (·.1) = news.map (·.1) := by
  induction news with
  | nil => rfl
  | cons p r ih =>
    unfold putLed at ih ⊢
    simp only [List.map_cons]
    rw [ih]
    split
    · rename_i e; rw [e]
    · rfl
theorem putLed_off {d : Addr} {o : Obj} : ∀ {news : Led}, d ∉ news.map (·.1) → putLed d o news = news
  | [], _ => rfl
  | p :: r, h => by
    simp only [List.map_cons, List.mem_cons, not_or] at h
    show (if p.1 = d then (d, o) else p) :: putLed d o r = p :: r
    rw [if_neg (Ne.symm h.1), putLed_off h.2]
theorem putLed_upd {d : Addr} {o o' : Obj} : ∀ {news : Led}, (news.map (·.1)).Nodup → (d, o) ∈ news → Upd d o o' news (putLed d o' news)
  | p :: r, nd, h => by
    simp only [List.map_cons, List.nodup_cons] at nd
    rcases List.mem_cons.mp h with e | h
    · subst e
      show Upd d o o' ((d, o) :: r) ((if d = d then (d, o') else (d, o)) :: putLed d o' r)
      rw [if_pos rfl, putLed_off nd.1]
      exact .head fun p hp e => nd.1 (e ▸ List.mem_map_of_mem (f := (·.1)) hp)
    · have hne : p.1 ≠ d := fun e => nd.1 (e ▸ List.mem_map_of_mem (f := (·.1)) h)
      show Upd d o o' (p :: r) ((if p.1 = d then (d, o') else p) :: putLed d o' r)
      rw [if_neg hne]
      exact .tail hne (putLed_upd nd.2 h)
theorem mem_putLed_ne {d a : Addr} {o ob : Obj} {news : Led} (h : (a, ob) ∈ news) (hn : a ≠ d) : (a, ob) ∈ putLed d o news :=
  List.mem_map.mpr ⟨(a, ob), h, if_neg hn⟩
theorem mem_putLed_at {d : Addr} {o ob : Obj} {news : Led} (h : (d, ob) ∈ news) : (d, o) ∈ putLed d o news := List.mem_map.mpr ⟨(d, ob), h, if_pos rfl⟩
theorem Ext.put {news : Led} {al : Al} {d : Addr} {o : Obj} (hd : d ∈ flat al) : Ext news al (putLed d o news) al :=
  ⟨⟨[], by simp, by simp [flat]⟩, fun p h hn => mem_putLed_ne (a := p.1) (ob := p.2) h fun e => hn (e ▸ hd), fun a ha => by rw [putLed_dom]; exact ha⟩
theorem flat_disj {al : Al} : (flat al).Nodup → ∀ {j k : Nat} {p q : Addr × Option Addr} {a : Addr}, al[j]? = some p → al[k]? = some q → j ≠ k → (a = p.1 ∨ p.2 = some a) → ¬ (a = q.1 ∨ q.2 = some a) := by
  induction al with
  | nil => intro _ j k p q a h; simp at h
  | cons x r ih =>
    intro nd j k p q a hj hk hne hp hq
    have nd' : (flat (x :: r)) = (x.1 :: x.2.toList) ++ flat r := rfl
    rw [nd', List.nodup_append] at nd
    obtain ⟨_, nr, dj⟩ := nd
    have inX : ∀ {b : Addr}, (b = x.1 ∨ x.2 = some b) → b ∈ x.1 :: x.2.toList := fun h => h.elim (fun e => e ▸ List.mem_cons_self) fun e => List.mem_cons_of_mem _ (Option.mem_toList.mpr e)
    cases j with
    | zero =>
      cases k with
      | zero => exact hne rfl
      | succ k =>
        simp at hj hk
        subst hj
        exact dj a (inX hp) a (mem_flat.mpr ⟨k, q, hk, hq⟩) rfl
    | succ j =>
      cases k with
      | zero =>
        simp at hj hk
        subst hk
        exact dj a (inX hq) a (mem_flat.mpr ⟨j, p, hj, hp⟩) rfl
      | succ k =>
        simp at hj hk
        exact ih nr hj hk (fun e => hne (by rw [e])) hp hq
theorem HR.put {news : Led} {al : Al} {st : Sto} {k : Nat} {p : Addr × Option Addr} {d : Addr} {o : Obj} {x : O} (H : HR K prog w news al st) (hk : al[k]? = some p) (hd : d = p.1 ∨ p.2 = some d)
    (hx : OR K prog w (putLed d o news) al p x) : HR K prog w (putLed d o news) al (st.set k x) := by
  have hdf : d ∈ flat al := mem_flat.mpr ⟨k, p, hk, hd⟩
  refine ⟨by rw [putLed_dom]; exact H.nd, by rw [List.length_set]; exact H.len, H.nda, fun j q ob hj hs => ?_⟩
  by_cases e : k = j
  · subst e
    rw [hk] at hj
    induction hj using E1
    have hlt : k < st.length := H.len ▸ (List.getElem?_eq_some_iff.mp hk).1
    rw [List.getElem?_set_self hlt] at hs
    induction hs using E1
    exact hx
  · rw [List.getElem?_set_ne e] at hs
    exact (H.obj j q ob hj hs).ext H (Ext.put hdf) fun a ob ha hm => mem_putLed_ne hm fun z => flat_disj H.nda hj hk (Ne.symm e) ha (z ▸ hd)
end
noncomputable def M (α : Type) : Type := Sto → Option (Except Addr α × Sto)
noncomputable def M.pure {α : Type} (a : α) : M α := fun st => some (.ok a, st)
noncomputable def M.bind {α β : Type} (m : M α) (f : α → M β) : M β := fun st => match m st with
  | none => none
  | some (.ok a, st') => f a st'
  | some (.error C, st') => some (.error C, st')
noncomputable def stop {α : Type} : M α := fun _ => none
theorem M.elim {α β : Type} {m : M α} {f : α → M β} {st : Sto} {r : Except Addr β × Sto} {P : Prop} (e : M.bind m f st = some r) (k1 : ∀ a st1, m st = some (.ok a, st1) → f a st1 = some r → P) (k2 : ∀ C st1, m st = some (.error C, st1) → (.error C, st1) = r → P) : P := by
  unfold M.bind at e
  cases h : m st with
  | none => rw [h] at e; exact noS e
  | some p =>
    obtain ⟨r1, st1⟩ := p
    rw [h] at e
    cases r1 with
    | ok a => exact k1 a st1 h e
    | error C => exact k2 C st1 h (sInj e)
noncomputable def ofOpt {α : Type} (o : Option α) : M α := match o with
  | some a => M.pure a
  | none => stop
structure Pg where
  prog : Program
  p : Program
  loose : List Str
  K : Params → Frag
  tabs : List (Addr × Addr)
  gl : Str → Option V
  keep : Addr → Bool
  flds : Addr → List Str
  meth : Addr → Str → Option Addr
structure Act where
  w : World
  mean : ExcName → Option Value
  mg : Str → Option Value
  mb : Str → Option Value
  A₀ : Around
  base : Heap
  h₀ : Heap
  outer : List Env
  cn : Str
  cs : Scope
  L : Addr
  a : Addr
  ccd : Value
  cl : List (Str × Addr)
  comp : Option (Addr × Scope × List (Str × Addr))
  fly : (Str → Option Value) → Addr → Value → Shared → Led → Al → Sto → Prop
abbrev Act.fenv (c : Act) : Env := envX c.cn c.cs c.L c.a c.ccd c.cl
noncomputable def Act.env (c : Act) : Env := match c.comp with
  | none => c.fenv
  | some (C, sc, cl) => compEnvC sc cl C c.fenv
def Act.nsc (c : Act) : Scope := match c.comp with
  | none => c.cs
  | some (_, sc, _) => relabel sc c.fenv
def Act.ncl (c : Act) : List (Str × Addr) := match c.comp with
  | none => c.cl
  | some (_, _, cl) => cl
def Act.Look (c : Act) (news : Led) (al : Al) (m : Str → Option Value) (x : Str) (v : Value) : Prop := match c.comp with
  | none => m x = some v
  | some (C, _, _) => ∃ oC mm, (C, oC) ∈ news ∧ C ∉ flat al ∧ LCg.NsObj oC mm ∧ mm x = some v
structure Act.Ok (G : Pg) (c : Act) : Prop where
  B : Below c.A₀ c.base c.outer c.h₀
  hk : c.cs.kind = .function
  hc : ∀ C sc cl, c.comp = some (C, sc, cl) → sc.kind = .function
  X : (G.K c.w.params).In c.h₀
  T : Top G.p G.loose c.mean c.mg c.mb c.h₀
  cd : ∀ q ∈ G.tabs, CodeHd c.h₀ q.1 q.2
structure Ar (c : Act) (k : Nat) (q : Bool) (A : Around) : Prop where
  fr : A.frames = some (c.fenv :: c.outer)
  dep : A.depth + 8 * k + 16 < recursionLimit
  un : A.units + 64 * k + 128 < cLine
  hd : q = true → A.handled = none
def Same (s s' : Shared) : Prop := s'.os = s.os ∧ s'.gens = s.gens
theorem Same.refl {s : Shared} : Same s s := ⟨rfl, rfl⟩
theorem Same.trans {s s' s'' : Shared} (x : Same s s') (y : Same s' s'') : Same s s'' := ⟨y.1.trans x.1, y.2.trans x.2⟩
structure St (G : Pg) (c : Act) (CL : List (Str × Nat)) (ρ : List (Str × V)) (m : Str → Option Value) (s : Shared) (news : Led) (al : Al) (st : Sto) : Prop where
  F : Fr c.h₀ c.L s.heap m
  N : News c.h₀ c.L s.heap news
  H : HR (G.K c.w.params) G.prog c.w news al st
  R : ∀ x y, ρ.lookup x = some y → ∃ v, c.Look news al m x v ∧ VR (G.K c.w.params) news al v y
  C : ∀ x k, CL.lookup x = some k → ∃ a, c.ncl.lookup x = some a ∧ al[k]? = some (a, none)
  I : ∀ (i : Nat) (q : Addr × Addr), G.tabs[i]? = some q → al[i]? = some (q.2, none)
section
variable {G : Pg} {c : Act} {k : Nat} {q : Bool} {CL : List (Str × Nat)} {ρ : List (Str × V)} {m : Str → Option Value} {s s' : Shared} {news news' : Led} {al al' : Al} {st st' : Sto}
theorem Act.Look.ext {x : Str} {v : Value} (h : c.Look news al m x v) (X : Ext news al news' al') : c.Look news' al' m x v := by
  unfold Act.Look at h ⊢
  split at h
  · exact h
  · obtain ⟨oC, mm, h1, h2, h3, h4⟩ := h
    refine ⟨oC, mm, X.keep _ h1 h2, fun q => ?_, h3, h4⟩
    obtain ⟨β, e, hβ⟩ := X.more
    rw [e, flat_append] at q
    rcases List.mem_append.mp q with q | q
    · exact h2 q
    · exact hβ _ q (List.mem_map_of_mem (f := (·.1)) h1)
theorem St.ext (S : St G c CL ρ m s news al st) (X : Ext news al news' al') (F : Fr c.h₀ c.L s'.heap m) (N : News c.h₀ c.L s'.heap news') (H : HR (G.K c.w.params) G.prog c.w news' al' st') : St G c CL ρ m s' news' al' st' :=
  ⟨F, N, H, fun x y e => let ⟨v, h1, h2⟩ := S.R x y e; ⟨v, h1.ext X, h2.ext S.H X⟩, fun x k e => by
    obtain ⟨a, h1, h2⟩ := S.C x k e
    obtain ⟨β, rfl, _⟩ := X.more
    exact ⟨a, h1, (List.getElem?_append_left (List.getElem?_eq_some_iff.mp h2).1).trans h2⟩, fun i q e => by
    have h2 := S.I i q e
    obtain ⟨β, rfl, _⟩ := X.more
    exact (List.getElem?_append_left (List.getElem?_eq_some_iff.mp h2).1).trans h2⟩
def ErrK {α : Type} (c : Act) (m : Str → Option Value) (E : Value → Shared → Prop) (s : Shared) (news : Led) (al : Al) (r : Except Addr α × Sto) : Prop :=
  ∀ C st', r = (.error C, st') → ∀ e s' news' al', c.fly m C e s' news' al' st' → Ext news al news' al' → Same s s' → E e s'
theorem ErrK.step {α : Type} {E : Value → Shared → Prop} {r : Except Addr α × Sto} (h : ErrK c m E s news al r) (S : St G c CL ρ m s news al st) (X : Ext news al news' al') (G : Same s s') : ErrK c m E s' news' al' r :=
  fun C st' e x s'' n' a' hf X' G' => h C st' e x s'' n' a' hf (X.trans S.H X') (G.trans G')
def Sound (G : Pg) (c : Act) (k : Nat) (q : Bool) (CL : List (Str × Nat)) (ρ : List (Str × V)) {α β : Type} (rel : Frag → Led → Al → α → β → Prop) (t : Sem α) (mm : M β) : Prop :=
  ∀ (st : Sto) (r : Except Addr β × Sto), mm st = some r → ∀ (A : Around) (s : Shared) (m : Str → Option Value) (news : Led) (al : Al) (Q : α → Shared → Prop) (E : Value → Shared → Prop),
    Ar c k q A → St G c CL ρ m s news al st → ErrK c m E s news al r →
    (∀ y st', r = (.ok y, st') → ∀ v s' news' al', St G c CL ρ m s' news' al' st' → Ext news al news' al' → rel (G.K c.w.params) news' al' v y → Same s s' → Q v s') →
    wpAny (model G.prog c.w) A t Q E s
theorem Sound.go {α β γ : Type} {rel : Frag → Led → Al → α → β → Prop} {t : Sem α} {m1 : M β} {f : β → M γ} {r : Except Addr γ × Sto} {A : Around} {Q : α → Shared → Prop} {E : Value → Shared → Prop}
    (h1 : Sound G c k q CL ρ rel t m1) (hr : M.bind m1 f st = some r) (hA : Ar c k q A) (S : St G c CL ρ m s news al st) (hE : ErrK c m E s news al r)
    (hQ : ∀ y st1, f y st1 = some r → ∀ v s1 n1 a1, St G c CL ρ m s1 n1 a1 st1 → Ext news al n1 a1 → rel (G.K c.w.params) n1 a1 v y → Same s s1 → Q v s1) : wpAny (model G.prog c.w) A t Q E s := by
  unfold M.bind at hr
  cases e : m1 st with
  | none => rw [e] at hr; cases hr
  | some p =>
    obtain ⟨r1, st1⟩ := p
    rw [e] at hr
    cases r1 with
    | ok y => exact h1 st _ e A s m news al Q E hA S (fun C st' x => by cases x) fun y' st' x v s1 n1 a1 S1 X1 R1 G1 => by cases x; exact hQ y st1 hr v s1 n1 a1 S1 X1 R1 G1
    | error C =>
      cases hr
      exact h1 st _ e A s m news al Q E hA S (fun C' st' x => by cases x; exact hE C st1 rfl) fun y' st' x => by cases x
abbrev relV (K : Frag) (news : Led) (al : Al) : Value → V → Prop := VR K news al
abbrev relVs (K : Frag) (news : Led) (al : Al) : List Value → List V → Prop := VRs K news al
abbrev relB (_ : Frag) (_ : Led) (_ : Al) (a b : Bool) : Prop := a = b
abbrev relU (_ : Frag) (_ : Led) (_ : Al) (_ _ : Unit) : Prop := True
theorem Sound.stop_ {α β : Type} {rel : Frag → Led → Al → α → β → Prop} {t : Sem α} : Sound G c k q CL ρ rel t (stop : M β) := fun st r e => by exact noS e
end
section
variable {K : Frag} {news news' : Led} {al : Al}
theorem VRs.length {vs : List Value} {l : List V} (h : VRs K news al vs l) : vs.length = l.length := VRs.ind (P := fun vs l _ => vs.length = l.length) rfl (fun _ _ ih => congrArg (· + 1) ih) h
theorem VRs.get {vs : List Value} {l : List V} (h : VRs K news al vs l) {i : Nat} {y : V} : l[i]? = some y → ∃ v, vs[i]? = some v ∧ VR K news al v y := by
  induction h using VRs.ind generalizing i with
  | nil => exact nofun
  | cons h hs ih => cases i with
    | zero => exact fun e => ⟨_, rfl, sInj e ▸ h⟩
    | succ i => exact ih
theorem VRs.append {vs ws : List Value} {l l' : List V} (h : VRs K news al vs l) (h' : VRs K news al ws l') : VRs K news al (vs ++ ws) (l ++ l') := VRs.ind (P := fun vs l _ => VRs K news al (vs ++ ws) (l ++ l')) h' (fun h _ ih => .cons h ih) h
theorem VRs.nil_iff {vs : List Value} {l : List V} (h : VRs K news al vs l) : vs = [] ↔ l = [] := by
  cases h <;> simp
end
section
variable {G : Pg} {c : Act} {k : Nat} {q : Bool} {CL : List (Str × Nat)} {ρ : List (Str × V)} {m : Str → Option Value} {s s' : Shared} {news news' : Led} {al al' : Al} {st st' : Sto} {A : Around} {E : Value → Shared → Prop}
theorem St.at (S : St G c CL ρ m s news al st) (e : s'.heap = s.heap) : St G c CL ρ m s' news al st := ⟨e ▸ S.F, e ▸ S.N, S.H, S.R, S.C, S.I⟩
theorem St.fresh (S : St G c CL ρ m s news al st) : s.heap.objs.size ∉ news.map (·.1) := fun h => by
  obtain ⟨p, hp, e⟩ := List.mem_map.mp h
  exact absurd (Heap.lt_size (S.N p hp).1) (by rw [e]; exact Nat.lt_irrefl _)
theorem St.new (S : St G c CL ρ m s news al st) {o : Obj} {h' : Heap} {tk : Nat} (F : Fr c.h₀ c.L h' m) (N : News c.h₀ c.L h' ((s.heap.objs.size, o) :: news)) :
    St G c CL ρ m { s with heap := h', toks := tk } ((s.heap.objs.size, o) :: news) al st := S.ext Ext.free F N (S.H.free S.fresh)
theorem St.tup (hc : c.Ok G) (S : St G c CL ρ m s news al st) {a : Addr} {l : List V} (h : VR (G.K c.w.params) news al (.ref a) (.tup l)) : ∃ vs : List Value, IsTup s.heap a vs.toArray ∧ VRs (G.K c.w.params) news al vs l := by
  cases h with
  | tup h hs => exact ⟨_, S.N.isTup h, hs⟩
  | tupK h hs => exact ⟨_, tupK (hc.X.keeps S.F.keep) h, hs⟩
def Cont {α β : Type} (G : Pg) (c : Act) (CL : List (Str × Nat)) (ρ : List (Str × V)) (m : Str → Option Value) (s : Shared) (news : Led) (al : Al) (rel : Frag → Led → Al → α → β → Prop) (y : β) (st' : Sto) (Q : α → Shared → Prop) : Prop :=
  ∀ v s' news' al', St G c CL ρ m s' news' al' st' → Ext news al news' al' → rel (G.K c.w.params) news' al' v y → Same s s' → Q v s'
theorem Cont.here {α β : Type} {rel : Frag → Led → Al → α → β → Prop} {y : β} {Q : α → Shared → Prop} (h : Cont G c CL ρ m s news al rel y st Q) (S : St G c CL ρ m s news al st) {v : α} (r : rel (G.K c.w.params) news al v y) {s' : Shared} (e : s'.heap = s.heap) (x : Same s s') : Q v s' :=
  h v s' news al (S.at e) Ext.refl r x
theorem St.newTup (S : St G c CL ρ m s news al st) {vs : List Value} {l : List V} {Q : Value → Shared → Prop} (h : VRs (G.K c.w.params) news al vs l) (hsz : l.length ≤ sizeLine) (hQ : Cont G c CL ρ m s news al relV (.tup l) st Q) :
    wpAny (model G.prog c.w) A (newTuple vs) Q E s :=
  newTuple_N S.F S.N (fun h' F N => hQ _ _ _ _ (S.new (tk := s.toks) F N) Ext.free (.tup (.head _) (h.ext S.H Ext.free)) ⟨rfl, rfl⟩) (by rw [h.length]; exact hsz)
def mulOk (a b : Int) : Bool := !(decide (Builtin.Int.intBits a > shortFactorBits) && decide (Builtin.Int.intBits b > shortFactorBits) && Builtin.Int.intTooBig (Builtin.Int.intBits a + Builtin.Int.intBits b))
def powOk (a n : Int) : Bool := decide (0 ≤ n) && decide ((Builtin.Int.intBits a : Int) * n ≤ 2 ^ 27)
def isAdd : Operator → Bool
  | .Add => true
  | _ => false
noncomputable def binI (op : Operator) (i j : Int) : Option Int := match op with
  | .Add => some (i + j)
  | .Sub => some (i - j)
  | .Mult => if mulOk i j then some (i * j) else none
  | .FloorDiv => if j = 0 ∨ Builtin.divisionGoesByPylong i j = true then none else some (i.fdiv j)
  | .Mod => if j = 0 then none else some (i.fmod j)
  | .Pow => if powOk i j then some (i ^ j.toNat) else none
  | _ => none
def binV (op : Operator) (a b : V) : Option V := match a with
  | .int i => b.int?.bind fun j => (binI op i j).map .int
  | .str x => b.str?.bind fun y => if isAdd op = true ∧ x.length + y.length ≤ sizeLine then some (.str (x ++ y)) else none
  | .tup l => b.tup?.bind fun l' => if isAdd op = true ∧ l.length + l'.length ≤ sizeLine then some (.tup (l ++ l')) else none
  | _ => none
theorem isAdd_of {op : Operator} (h : isAdd op = true) : op = .Add := by cases op <;> first | rfl | exact noB h
theorem binI_sound (S : St G c CL ρ m s news al st) {op : Operator} {i j r : Int} {t u : Tok} {Q : Value → Shared → Prop} (e : binI op i j = some r) (hQ : Cont G c CL ρ m s news al relV (.int r) st Q) : wpAny (model G.prog c.w) A (binaryOp op (.int i t) (.int j u)) Q E s := by
  have H : ∀ tk, Q (.int r tk) { s with toks := s.toks + 1 } := fun tk => hQ.here S .int rfl ⟨rfl, rfl⟩
  cases op with
  | Add => exact add_int (sInj e ▸ H _)
  | Sub => exact sub_int' (sInj e ▸ H _)
  | Mult => exact iteS e fun hm e => mul_int (sInj e ▸ H _) fun z => by unfold mulOk at hm; rw [z] at hm; exact noB hm
  | FloorDiv =>
    exact iteE e (fun _ e => noS e) fun hm e => by
      rw [not_or, Bool.not_eq_true] at hm
      exact floordiv_int hm.1 (sInj e ▸ H _) (.inl hm.2)
  | Mod => exact iteE e (fun _ e => noS e) fun hm e => mod_int' hm (sInj e ▸ H _)
  | Pow =>
    exact iteS e fun hm e => by
      unfold powOk at hm
      rw [Bool.and_eq_true, decide_eq_true_iff, decide_eq_true_iff] at hm
      exact pow_int hm.1 hm.2 (sInj e ▸ H _)
  | _ => exact noS e
theorem binV_sound (hc : c.Ok G) (S : St G c CL ρ m s news al st) {op : Operator} {v1 v2 : Value} {y1 y2 y : V} {Q : Value → Shared → Prop} (h1 : VR (G.K c.w.params) news al v1 y1) (h2 : VR (G.K c.w.params) news al v2 y2) (e : binV op y1 y2 = some y)
    (hQ : Cont G c CL ρ m s news al relV y st Q) : wpAny (model G.prog c.w) A (binaryOp op v1 v2) Q E s := by
  cases y1 with
  | int i =>
    obtain ⟨t, e1⟩ := h1.inv
    refine bindE e fun j e2 e => ?_
    obtain ⟨u, e3⟩ := h2.vint e2
    obtain ⟨r, e4, e5⟩ := Option.map_eq_some_iff.mp e
    rw [e1, e3]
    exact binI_sound S e4 (e5 ▸ hQ)
  | str x =>
    obtain ⟨t, e1⟩ := h1.inv
    refine bindE e fun y' e2 e => iteS e fun hl e => ?_
    obtain ⟨u, e3⟩ := h2.vstr e2
    rw [e1, e3, isAdd_of hl.1]
    rw [← sInj e] at hQ
    exact add_str (fun t' tk => hQ.here S .str rfl ⟨rfl, rfl⟩) hl.2
  | tup l =>
    obtain ⟨a, e1⟩ := h1.inv
    refine bindE e fun l' e2 e => iteS e fun hl e => ?_
    obtain ⟨b, e3, h2⟩ := h2.vtup e2
    rw [e1] at h1
    rw [e1, e3, isAdd_of hl.1]
    rw [← sInj e] at hQ
    obtain ⟨vs, t1, r1⟩ := S.tup hc h1
    obtain ⟨ws, t2, r2⟩ := S.tup hc h2
    refine add_tuples S.F S.N t1 t2 (fun q => ?_) (fun _ q => ?_) (fun _ _ h' F N => hQ _ _ _ _ (S.new (tk := s.toks) F N) Ext.free (.tup (.head _) ((r1.append r2).ext S.H Ext.free)) ⟨rfl, rfl⟩) (by rw [r1.length, r2.length]; exact hl.2)
    · rw [r1.nil_iff.mp q] at hQ; exact hQ.here S h2 rfl ⟨rfl, rfl⟩
    · rw [r2.nil_iff.mp q, List.append_nil] at hQ; exact hQ.here S h1 rfl ⟨rfl, rfl⟩
  | _ => exact noS e
def truO : O → Option Bool
  | .list l => if l.length ≤ sizeLine then some (!l.isEmpty) else none
  | _ => none
noncomputable def truthV (y : V) (st : Sto) : Option Bool := match y with
  | .none => some false
  | .bool b => some b
  | .int i => some (i != 0)
  | .str x => if x.length ≤ sizeLine then some ((x.length : Int) != 0) else none
  | .tup l => if l.length ≤ sizeLine then some (!l.isEmpty) else none
  | .hnd k => st[k]?.bind truO
  | _ => none
theorem St.list (S : St G c CL ρ m s news al st) {a : Addr} {k : Nat} {l : List V} (h : VR (G.K c.w.params) news al (.ref a) (.hnd k)) (e : st[k]? = some (.list l)) : ∃ (vs : List Value) (n : Nat), al[k]? = some (a, none) ∧ (a, listOf vs.toArray n) ∈ news ∧ s.heap.IsList a vs.toArray ∧ VRs (G.K c.w.params) news al vs l := by
  obtain ⟨a', e0, x, hal⟩ := h.inv
  rw [← Value.ref.inj e0] at hal
  obtain ⟨e1, vs, n, hm, hs⟩ := (S.H.obj k _ _ hal e).inv
  exact ⟨vs, n, (show x = none from e1) ▸ hal, hm, ⟨_, S.N.get hm, rfl, _, rfl⟩, hs⟩
theorem VRs.empty {K : Frag} {vs : List Value} {l : List V} (h : VRs K news al vs l) : (!vs.toArray.isEmpty) = !l.isEmpty := by
  cases l with
  | nil => rw [show vs = [] from h.inv]; rfl
  | cons y r => obtain ⟨v, ws, e, _⟩ := h.inv; rw [e]; rfl
theorem truthV_sound (hc : c.Ok G) (S : St G c CL ρ m s news al st) {v : Value} {y : V} {b : Bool} {Q : Bool → Shared → Prop} (h : VR (G.K c.w.params) news al v y) (e : truthV y st = some b)
    (hQ : Cont G c CL ρ m s news al relB b st Q) : wpAny (model G.prog c.w) A (truthy v) Q E s := by
  have H : ∀ {b' : Bool} {tk : Nat}, b' = b → Q b' { s with toks := tk } := fun e => hQ.here S e rfl ⟨rfl, rfl⟩
  cases y with
  | none => exact (show v = _ from h.inv) ▸ truthy_none (H (sInj e))
  | bool b' => exact (show v = _ from h.inv) ▸ wpAny_truthy_bool (H (sInj e))
  | int i =>
    obtain ⟨t, e0⟩ := h.inv
    exact e0 ▸ PySem.P.truthy_int (H (sInj e))
  | str x =>
    obtain ⟨t, e0⟩ := h.inv
    exact iteS e fun hl e => e0 ▸ PySem.P.truthy_str (by simp only [sizeLine] at hl; lia) (H (sInj e))
  | tup l =>
    obtain ⟨a, e0⟩ := h.inv
    rw [e0] at h ⊢
    obtain ⟨vs, t1, r1⟩ := S.tup hc h
    exact iteS e fun hl e => truthy_tuple t1 (by have := r1.length; simp only [sizeLine] at hl; simp; lia) (H (r1.empty.trans (sInj e)))
  | hnd k =>
    refine bindE e fun o hk e => ?_
    cases o with
    | list l =>
      obtain ⟨a, e0, _⟩ := h.inv
      rw [e0] at h ⊢
      obtain ⟨vs, n, _, _, t1, r1⟩ := S.list h hk
      exact iteS e fun hl e => wpAny_truthy_list t1 (by have := r1.length; simp only [sizeLine] at hl; simp; lia) (H (r1.empty.trans (sInj e)))
    | _ => exact noS e
  | _ => exact noS e
end
mutual
def dat0 : V → Option PyData
  | .none => some .none
  | .bool b => some (.bool b)
  | .int i => some (.int i)
  | .str x => some (.str x)
  | .tup l => (dats0 l).map .tuple
  | _ => none
def dats0 : List V → Option (List PyData)
  | [] => some []
  | y :: r => (dat0 y).bind fun d => (dats0 r).bind fun ds => some (d :: ds)
end
def strL : List V → Option (List Str)
  | [] => some []
  | .str x :: r => (strL r).map (x :: ·)
  | _ => none
def datV (y : V) (st : Sto) : Option PyData := y.hnd?.bind fun k => (lstAt st k).bind fun l => (dats0 l).map .list
def eq0 (y z : V) : Option Bool := (dat0 y).bind fun d => (dat0 z).bind fun e => if SeqAt.shaped d && SeqAt.shaped e then some (PyData.eqv d e) else none
noncomputable def ordI (op : CmpOp) (i j : Int) : Option Bool := match op with
  | .Eq => some (i == j)
  | .NotEq => some (i != j)
  | .Lt => some (decide (i < j))
  | .LtE => some (decide (i ≤ j))
  | .Gt => some (decide (j < i))
  | .GtE => some (decide (j ≤ i))
  | _ => none
def eqX (op : CmpOp) (r : Bool) : Option Bool := match op with
  | .Eq => some r
  | .NotEq => some (!r)
  | _ => none
def inX (op : CmpOp) (r : Bool) : Option Bool := match op with
  | .In => some r
  | .NotIn => some (!r)
  | _ => none
def cmpI (op : CmpOp) (a b : V) : Option Bool := a.int?.bind fun i => b.int?.bind fun j => ordI op i j
def cmpS (op : CmpOp) (a b : V) : Option Bool := a.str?.bind fun x => b.str?.bind fun y => eqX op (x == y)
def cmpIn (op : CmpOp) (a b : V) : Option Bool := a.str?.bind fun x => b.tup?.bind fun l => (strL l).bind fun zs => inX op (zs.any (· == x))
def cmpD (op : CmpOp) (a b : V) : Option Bool := (eq0 a b).bind fun r => eqX op r
def cmpV (op : CmpOp) (a b : V) : Option Bool := (cmpI op a b).or ((cmpS op a b).or ((cmpIn op a b).or (cmpD op a b)))
section
variable {G : Pg} {c : Act} {k : Nat} {q : Bool} {CL : List (Str × Nat)} {ρ : List (Str × V)} {m : Str → Option Value} {s s' : Shared} {news news' : Led} {al al' : Al} {st st' : Sto} {A : Around} {E : Value → Shared → Prop}
theorem dats0_cons {h : Heap} {v : Value} {y : V} {vs : List Value} {l : List V} (h1 : ∀ {d : PyData}, dat0 y = some d → ∃ as, Reads h v d as) (h2 : ∀ {ds : List PyData}, dats0 l = some ds → ∃ as, ReadsAll h vs ds as) {ds : List PyData} (e : dats0 (y :: l) = some ds) : ∃ as, ReadsAll h (v :: vs) ds as := by
  unfold dats0 at e
  refine bindE e fun d e1 e => bindE e fun ds e2 e => ?_
  obtain ⟨as, r⟩ := h1 e1
  obtain ⟨bs, r'⟩ := h2 e2
  exact sInj e ▸ ⟨_, .cons r r'⟩
theorem dat0_reads (hc : c.Ok G) (S : St G c CL ρ m s news al st) {v : Value} {y : V} {d : PyData} (h : VR (G.K c.w.params) news al v y) : dat0 y = some d → ∃ as, Reads s.heap v d as :=
  VR.rec (motive_1 := fun v y _ => ∀ {d}, dat0 y = some d → ∃ as, Reads s.heap v d as) (motive_2 := fun vs l _ => ∀ {ds}, dats0 l = some ds → ∃ as, ReadsAll s.heap vs ds as)
    (fun e => sInj e ▸ ⟨_, .none⟩) (fun e => sInj e ▸ ⟨_, .bool _⟩) (fun e => sInj e ▸ ⟨_, .int _ _⟩) (fun e => sInj e ▸ ⟨_, .str _ _⟩)
    (fun h _ ih _ e => by
      obtain ⟨ds, e1, e2⟩ := Option.map_eq_some_iff.mp e
      obtain ⟨as, r⟩ := ih e1
      exact e2 ▸ ⟨_, .tuple (S.N.get h) rfl rfl r⟩)
    (fun h _ ih _ e => by
      obtain ⟨ds, e1, e2⟩ := Option.map_eq_some_iff.mp e
      obtain ⟨as, r⟩ := ih e1
      exact e2 ▸ ⟨_, .tuple (hc.X.keeps S.F.keep _ _ h) rfl rfl r⟩)
    (fun _ _ e => noS e) (fun e => noS e) (fun e => noS e) (fun e => noS e) (fun _ _ e => noS e) (fun _ _ _ _ _ _ e => noS e)
    (fun e => sInj e ▸ ⟨_, .nil⟩) (fun _ _ h1 h2 _ e => dats0_cons h1 h2 e) h
theorem dats0_reads (hc : c.Ok G) (S : St G c CL ρ m s news al st) {vs : List Value} {l : List V} (h : VRs (G.K c.w.params) news al vs l) : ∀ {ds : List PyData}, dats0 l = some ds → ∃ as, ReadsAll s.heap vs ds as :=
  VRs.ind (P := fun vs l _ => ∀ {ds : List PyData}, dats0 l = some ds → ∃ as, ReadsAll s.heap vs ds as) (fun e => sInj e ▸ ⟨_, .nil⟩) (fun h _ h2 _ e => dats0_cons (dat0_reads hc S h) h2 e) h
theorem datV_reads (hc : c.Ok G) (S : St G c CL ρ m s news al st) {v : Value} {y : V} {d : PyData} (h : VR (G.K c.w.params) news al v y) (e : datV y st = some d) : ∃ as, Reads s.heap v d as :=
  bindE e fun k e1 e => bindE e fun l e2 e => by
    obtain ⟨ds, e3, e4⟩ := Option.map_eq_some_iff.mp e
    obtain ⟨a, e5, h'⟩ := h.vhnd e1
    obtain ⟨vs, n, _, hm, t1, r1⟩ := S.list h' (lstAt_of e2)
    obtain ⟨as, r⟩ := dats0_reads hc S r1 e3
    exact e4 ▸ e5 ▸ ⟨_, .list (S.N.get hm) rfl rfl r⟩
theorem strL_vals {K : Frag} {vs : List Value} {l : List V} (h : VRs K news al vs l) : ∀ {zs : List Str}, strL l = some zs → vs.length = zs.length ∧ (∀ v ∈ vs, ∃ x t, v = .str x t ∧ x ∈ zs) ∧ ∀ x ∈ zs, ∃ t, Value.str x t ∈ vs := by
  induction h using VRs.ind with
  | nil => intro zs e; rw [← sInj e]; exact ⟨rfl, nofun, nofun⟩
  | @cons v y vs l h hs ih =>
    intro zs e
    cases y with
    | str x =>
      obtain ⟨t, e3⟩ := h.inv
      obtain ⟨zs, e1, e2⟩ := Option.map_eq_some_iff.mp e
      rw [← e2, e3]
      obtain ⟨l1, l2, l3⟩ := ih e1
      refine ⟨congrArg (· + 1) l1, fun v hv => ?_, fun y hy => ?_⟩
      · rcases List.mem_cons.mp hv with e | hv
        · exact ⟨x, t, e, .head _⟩
        · obtain ⟨y, u, e2, e3⟩ := l2 v hv
          exact ⟨y, u, e2, .tail _ e3⟩
      · rcases List.mem_cons.mp hy with e | hy
        · exact ⟨t, e ▸ .head _⟩
        · obtain ⟨u, e2⟩ := l3 y hy
          exact ⟨u, .tail _ e2⟩
    | _ => exact noS e
def isStr (x : Str) : Value → Bool
  | .str z _ => z == x
  | _ => false
theorem isStr_any {vs : List Value} {zs : List Str} {x : Str} (l2 : ∀ v ∈ vs, ∃ z u, v = .str z u ∧ z ∈ zs) (l3 : ∀ z ∈ zs, ∃ u, Value.str z u ∈ vs) : vs.toArray.any (isStr x) = zs.any (· == x) := by
  rw [List.any_toArray, Bool.eq_iff_iff, List.any_eq_true, List.any_eq_true]
  exact ⟨fun ⟨v, hv, hz⟩ => by
    obtain ⟨z, u, rfl, hm⟩ := l2 v hv
    exact ⟨z, hm, hz⟩, fun ⟨z, hz, hx⟩ => by
    obtain ⟨u, hm⟩ := l3 z hz
    exact ⟨_, hm, hx⟩⟩
theorem ordI_sound {prog : Program} {w : World} {op : CmpOp} {i j : Int} {t u : Tok} {b : Bool} {Q : Value → Shared → Prop} (e : ordI op i j = some b) (H : Q (.bool b) s) : wpAny (model prog w) A (compareOp op (.int i t) (.int j u)) Q E s := by
  cases op with
  | Eq => exact eq_int (sInj e ▸ H)
  | NotEq => exact ne_int (sInj e ▸ H)
  | Lt => exact lt_int (sInj e ▸ H)
  | LtE => exact le_int (sInj e ▸ H)
  | Gt => exact gt_int (sInj e ▸ H)
  | GtE => exact ge_int (sInj e ▸ H)
  | _ => exact noS e
theorem eqX_str {prog : Program} {w : World} {op : CmpOp} {x y : Str} {t u : Tok} {b : Bool} {Q : Value → Shared → Prop} (e : eqX op (x == y) = some b) (H : Q (.bool b) s) : wpAny (model prog w) A (compareOp op (.str x t) (.str y u)) Q E s := by
  cases op with
  | Eq => exact eq_str (sInj e ▸ H)
  | NotEq => exact ne_str (show Q (.bool (!(x == y))) s from sInj e ▸ H)
  | _ => exact noS e
theorem eq0_reads (hc : c.Ok G) (S : St G c CL ρ m s news al st) {v1 v2 : Value} {y1 y2 : V} {b : Bool} {P : Prop} (h1 : VR (G.K c.w.params) news al v1 y1) (h2 : VR (G.K c.w.params) news al v2 y2) (e : eq0 y1 y2 = some b)
    (k : ∀ d d' as bs, Reads s.heap v1 d as → Reads s.heap v2 d' bs → SeqAt.shaped d = true → SeqAt.shaped d' = true → PyData.eqv d d' = b → P) : P :=
  bindE e fun d e1 e => bindE e fun d' e2 e => iteS e fun hs e => by
    rw [Bool.and_eq_true] at hs
    obtain ⟨as, r1⟩ := dat0_reads hc S h1 e1
    obtain ⟨bs, r2⟩ := dat0_reads hc S h2 e2
    exact k d d' as bs r1 r2 hs.1 hs.2 (sInj e)
theorem cmpIn_sound (hc : c.Ok G) (S : St G c CL ρ m s news al st) {op : CmpOp} {x : Str} {t : Tok} {a : Addr} {l : List V} {zs : List Str} {b : Bool} {Q : Value → Shared → Prop} (h2 : VR (G.K c.w.params) news al (.ref a) (.tup l)) (e1 : strL l = some zs) (e : inX op (zs.any (· == x)) = some b) (H : Q (.bool b) s) : wpAny (model G.prog c.w) A (compareOp op (.str x t) (.ref a)) Q E s := by
  obtain ⟨vs, t1, r1⟩ := S.tup hc h2
  obtain ⟨_, l2, l3⟩ := strL_vals r1 e1
  have hq : ∀ y ∈ vs.toArray, SeqAt.EqAt A.in1 s y (.str x t) (isStr x y) := fun y hy => by
    obtain ⟨z, u, e, _⟩ := l2 y (List.mem_toArray.mp hy)
    exact e ▸ SeqAt.EqAt.str_str z u x t
  cases op with
  | In => exact SeqAt.in_tupleAt (isStr x) t1 hq (isStr_any (x := x) l2 l3 ▸ sInj e ▸ H)
  | NotIn => exact SeqAt.notIn_tupleAt (isStr x) t1 hq (isStr_any (x := x) l2 l3 ▸ sInj e ▸ H)
  | _ => exact noS e
theorem cmpV_sound (hc : c.Ok G) (hA : Ar c k q A) (S : St G c CL ρ m s news al st) {op : CmpOp} {v1 v2 : Value} {y1 y2 : V} {b : Bool} {Q : Value → Shared → Prop} (h1 : VR (G.K c.w.params) news al v1 y1) (h2 : VR (G.K c.w.params) news al v2 y2) (e : cmpV op y1 y2 = some b)
    (H : Q (.bool b) s) : wpAny (model G.prog c.w) A (compareOp op v1 v2) Q E s := by
  refine orE e (fun e => bindE e fun i e1 e => bindE e fun j e2 e => ?_) fun e => orE e (fun e => bindE e fun x e1 e => bindE e fun y e2 e => ?_) fun e => orE e (fun e => bindE e fun x e1 e => bindE e fun l e2 e => bindE e fun zs e3 e => ?_) fun e => bindE e fun r e1 e => eq0_reads hc S h1 h2 e1 fun d d' as bs r1 r2 s1 s2 e3 => ?_
  · obtain ⟨t, e3⟩ := h1.vint e1
    obtain ⟨u, e4⟩ := h2.vint e2
    exact e3 ▸ e4 ▸ ordI_sound e H
  · obtain ⟨t, e3⟩ := h1.vstr e1
    obtain ⟨u, e4⟩ := h2.vstr e2
    exact e3 ▸ e4 ▸ eqX_str e H
  · obtain ⟨t, e4⟩ := h1.vstr e1
    obtain ⟨a, e5, h⟩ := h2.vtup e2
    exact e4 ▸ e5 ▸ cmpIn_sound hc S h e3 e H
  · have hu : A.units + 64 < cLine := by have := hA.un; lia
    cases op with
    | Eq => exact PyProof.Rows.eq_dataH r1 r2 s1 s2 hu (e3 ▸ sInj e ▸ H)
    | NotEq => exact PyProof.Rows.ne_dataH r1 r2 s1 s2 hu (e3 ▸ sInj e ▸ H)
    | _ => exact noS e
end
end Mine
namespace Mine
noncomputable def clsChk (K : Frag) (C : Addr) (fl : List Str) : Bool :=
  makesIn K C && plainOver K C && hasDictIn K C && (findIn K (.ref C) "__setattr__" == some (some (.builtin "object.__setattr__"))) && plainGet K C "" && fl.all fun x => findIn K (.ref C) x == some none
noncomputable def putF (x : Str) (y : V) : List (Str × V) → List (Str × V)
  | [] => [(x, y)]
  | (x', y') :: r => if x' == x then (x', y) :: r else (x', y') :: putF x y r
section
variable {K : Frag} {P : Params} {news : Led} {al : Al}
theorem isStr_str (x y : Str) (t : Tok) : (Value.str x t).isStr y = (x == y) := by
  rw [isStr_of]; rfl
theorem FR.getL {es : List DictEntry} {fs : List (Str × V)} (h : FR K P news al es fs) {x : Str} {y : V} : fs.lookup x = some y → ∃ v, PySem.W.getL x es = some (some v) ∧ VR K news al v y := by
  induction h with
  | nil => exact nofun
  | @cons x' t v y' es fs h hs ih =>
    intro e
    unfold PySem.W.getL at ih ⊢
    rw [List.find?_cons, isStr_str]
    rw [List.lookup_cons] at e
    cases hb : x == x' with
    | true =>
      rw [hb] at e
      rw [show (x' == x) = true from BEq.comm.trans hb]
      exact ⟨v, rfl, sInj e ▸ h⟩
    | false =>
      rw [hb] at e
      rw [show (x' == x) = false from BEq.comm.trans hb]
      exact ih e
theorem FR.getN {es : List DictEntry} {fs : List (Str × V)} (h : FR K P news al es fs) {x : Str} : fs.lookup x = none → es.find? (·.key.isStr x) = none ∧ es.any (·.refKey) = false ∧ es.any (·.key.isStr x) = false := by
  induction h with
  | nil => exact fun _ => ⟨rfl, rfl, rfl⟩
  | @cons x' t v y es fs h hs ih =>
    intro e
    rw [List.lookup_cons] at e
    cases hb : x == x' with
    | true => rw [hb] at e; cases e
    | false =>
      rw [hb] at e
      obtain ⟨h1, h2, h3⟩ := ih e
      have hb' : (x' == x) = false := BEq.comm.trans hb
      exact ⟨by rw [List.find?_cons, isStr_str, hb']; exact h1, by rw [List.any_cons, h2]; rfl, by rw [List.any_cons, h3, isStr_str, hb']; rfl⟩
theorem FR.putL {es : List DictEntry} {fs : List (Str × V)} (h : FR K P news al es fs) {x : Str} {v : Value} {y : V} (t : Tok) (hv : VR K news al v y) : FR K P news al (PySem.W.putL x (PyData.keyHash P x) (.str x t) v es) (putF x y fs) := by
  induction h with
  | nil => exact .cons hv .nil
  | @cons x' t' v' y' es fs h' hs ih =>
    unfold PySem.W.putL putF
    dsimp only
    rw [isStr_str]
    cases x' == x with
    | true => exact .cons hv hs
    | false => exact .cons h' ih
theorem FR.length {es : List DictEntry} {fs : List (Str × V)} (h : FR K P news al es fs) : es.length = fs.length := by
  induction h with
  | nil => rfl
  | cons _ _ ih => exact congrArg (· + 1) ih
theorem putF_length (x : Str) (y : V) : ∀ fs : List (Str × V), (putF x y fs).length ≤ fs.length + 1
  | [] => by simp [putF]
  | (x', y') :: r => by
    unfold putF
    split
    · simp
    · simpa using putF_length x y r
theorem FR.someL {es : List DictEntry} {fs : List (Str × V)} (h : FR K P news al es fs) (x : Str) : (PySem.W.getL x es).isSome = true := by
  cases e : fs.lookup x with
  | some y => obtain ⟨v, h1, _⟩ := h.getL e; rw [h1]; rfl
  | none =>
    obtain ⟨h1, h2, _⟩ := h.getN e
    unfold PySem.W.getL
    rw [h1, h2]; rfl
end
structure Pg.Ok (G : Pg) : Prop where
  cls : ∀ P C x, x ∈ G.flds C → clsChk (G.K P) C (G.flds C) = true
  gl : ∀ P x y, G.gl x = some y → (∃ v, nsIn (G.K P) mainGlobals x = some (some v) ∧ ∀ news al, VR (G.K P) news al v y) ∨ (∃ v, nsIn (G.K P) mainGlobals x = some none ∧ bootBuiltins x = some v ∧ x ≠ "__name__" ∧ ∀ news al, VR (G.K P) news al v y)
  tab : ∀ P q, q ∈ G.tabs → ∀ h, (G.K P).In h → CodeHd h q.1 q.2
  keep : ∀ P a, G.keep a = true → keepIn (G.K P) (.ref a) = true
  meth : ∀ P C x f, G.meth C x = some f → plainGet (G.K P) C x = true ∧ findIn (G.K P) (.ref C) x = some (some (.ref f)) ∧ isFn (G.K P) (.ref f) = true ∧ keepIn (G.K P) (.ref f) = true
section
variable {G : Pg} {c : Act} {k : Nat} {q : Bool} {CL : List (Str × Nat)} {ρ : List (Str × V)} {m : Str → Option Value} {s s' : Shared} {news news' : Led} {al al' : Al} {st st' : Sto} {A : Around} {E : Value → Shared → Prop}
theorem St.inst (S : St G c CL ρ m s news al st) {v : Value} {k : Nat} {C : Addr} {fs : List (Str × V)} (h : VR (G.K c.w.params) news al v (.hnd k)) (e : st[k]? = some (.inst C fs)) :
    ∃ (a dx : Addr) (es : List DictEntry) (n : Nat), v = .ref a ∧ al[k]? = some (a, some dx) ∧ (a, instObj C dx) ∈ news ∧ (dx, dictOf es n) ∈ news ∧ InstAt s.heap a (instObj C dx) C (some (dictOf es n)) ∧ FR (G.K c.w.params) c.w.params news al es fs := by
  obtain ⟨a, e0, x, hal⟩ := h.inv
  obtain ⟨dx, es, n, e1, hm, hd, hs⟩ := (S.H.obj k _ _ hal e).inv
  exact ⟨a, dx, es, n, e0, (show x = some dx from e1) ▸ hal, hm, hd, InstAt.of_news S.N hm hd, hs⟩
structure ClsOk (K : Frag) (C : Addr) (x : Str) : Prop where
  get : plainGet K C x = true
  has : hasDictIn K C = true
  non : findIn K (.ref C) x = some none
  set : findIn K (.ref C) "__setattr__" = some (some (.builtin "object.__setattr__"))
  over : plainOver K C = true
  mak : makesIn K C = true
theorem clsOk_of {K : Frag} {C : Addr} {fl : List Str} (h : clsChk K C fl = true) {x : Str} (hx : x ∈ fl) : ClsOk K C x := by
  unfold clsChk at h
  simp only [Bool.and_eq_true] at h
  obtain ⟨⟨⟨⟨⟨h1, h2⟩, h3⟩, h4⟩, h5⟩, h6⟩ := h
  exact ⟨h5, h3, beq_iff_eq.mp (List.all_eq_true.mp h6 x hx), beq_iff_eq.mp h4, h2, h1⟩
def notBi : V → Bool
  | .bi _ => false
  | _ => true
theorem handed_of {K : Frag} {v : Value} {y : V} (h : VR K news al v y) (e : notBi y = true) : handedIn v = true := by
  cases y with
  | bi _ => exact noB e
  | hnd _ => obtain ⟨_, e, _⟩ := h.inv; rw [e]; rfl
  | rng _ _ _ => obtain ⟨_, _, _, _, e, _⟩ := h.inv; rw [e]; rfl
  | lstK _ => obtain ⟨_, _, _, _, e, _⟩ := h.inv; rw [e]; rfl
  | int _ => obtain ⟨_, e⟩ := h.inv; rw [e]; rfl
  | str _ => obtain ⟨_, e⟩ := h.inv; rw [e]; rfl
  | tup _ => obtain ⟨_, e⟩ := h.inv; rw [e]; rfl
  | _ => rw [show v = _ from h.inv]; rfl
theorem St.getAttr (hc : c.Ok G) (S : St G c CL ρ m s news al st) {v : Value} {k : Nat} {C : Addr} {fs : List (Str × V)} {x : Str} {y : V} {ex : Bool} {Q : Value → Shared → Prop} (h : VR (G.K c.w.params) news al v (.hnd k)) (e : st[k]? = some (.inst C fs))
    (ok : ClsOk (G.K c.w.params) C x) (hl : fs.lookup x = some y) (hb : notBi y = true) (hQ : Cont G c CL ρ m s news al relV y st Q) : wpAny (model G.prog c.w) A (PySem.getAttr v x ex) Q E s := by
  obtain ⟨a, dx, es, n, rfl, _, _, _, I, hf⟩ := S.inst h e
  obtain ⟨u, h1, h2⟩ := hf.getL hl
  exact get_own S.F hc.X I ok.get ok.has ok.non rfl h1 (handed_of h2 hb) (hQ.here S h2 rfl ⟨rfl, rfl⟩)
theorem St.clsMeth (hc : c.Ok G) (S : St G c CL ρ m s news al st) {v : Value} {k : Nat} {C f : Addr} {fs : List (Str × V)} {x : Str} {pl : Sem Bool} {Q : Value × List Value → Shared → Prop} (h : VR (G.K c.w.params) news al v (.hnd k)) (e : st[k]? = some (.inst C fs))
    (hg : plainGet (G.K c.w.params) C x = true) (hf : findIn (G.K c.w.params) (.ref C) x = some (some (.ref f))) (ht : isFn (G.K c.w.params) (.ref f) = true) (hl : fs.lookup x = none) (hQ : Q (.ref f, [v]) s) : wpAny (model G.prog c.w) A (PySem.getMethod v x pl) Q E s := by
  obtain ⟨a, dx, es, n, rfl, _, _, _, I, hfr⟩ := S.inst h e
  refine method_inst S.F hc.X I hg hf ht ?_ hQ
  obtain ⟨h1, h2, _⟩ := hfr.getN hl
  unfold PySem.W.getL
  rw [h1, h2]; rfl
theorem St.setAttr (hc : c.Ok G) (S : St G c CL ρ m s news al st) {v u : Value} {k : Nat} {C : Addr} {fs : List (Str × V)} {x : Str} {y : V} {Q : Unit → Shared → Prop} (h : VR (G.K c.w.params) news al v (.hnd k)) (e : st[k]? = some (.inst C fs))
    (ok : ClsOk (G.K c.w.params) C x) (hz : fs.length ≤ 900) (hu : VR (G.K c.w.params) news al u y) (hQ : Cont G c CL ρ m s news al relU () (st.set k (.inst C (putF x y fs))) Q) : wpAny (model G.prog c.w) A (PySem.setAttr v x u) Q E s := by
  obtain ⟨a, dx, es, n, rfl, hk, hm, hd, I, hf⟩ := S.inst h e
  have hdf : dx ∈ flat al := mem_flat.mpr ⟨k, _, hk, .inr rfl⟩
  have hf' := hf.putL (x := x) (s.toks + 1) hu
  have hne : a ≠ dx := fun q => by
    have := nodup_eq S.H.nd hm (q ▸ hd); simp at this
  refine set_dict S.F hc.X S.N I rfl ok.set ok.over (by unfold takerIn; rw [ok.non]; rfl) ok.has (hf.someL x) rfl (putLed_upd S.H.nd hd) ?_ fun h' F N => ?_
  · rw [hf'.length]
    have := putF_length x y fs
    lia
  · have X := Ext.put (o := dictOf (PySem.W.putL x (PyData.keyHash c.w.params x) (.str x (s.toks + 1)) u es) (putN x es n)) (news := news) hdf
    have hf'' := FR.ext S.H X hf'
    refine hQ _ _ _ _ (S.ext X F N (S.H.put hk (.inr rfl) (.inst (n := putN x es n) ?_ ?_ hf''))) X trivial ⟨rfl, rfl⟩
    · exact mem_putLed_ne hm hne
    · exact mem_putLed_at hd
end
section
variable {K : Frag} {news news' : Led} {al al' : Al}
theorem VRs.set {vs : List Value} {l : List V} (h : VRs K news al vs l) (i : Nat) {v : Value} {y : V} (h' : VR K news al v y) : VRs K news al (vs.set i v) (l.set i y) := by
  induction h using VRs.ind generalizing i with
  | nil => exact .nil
  | cons h hs ih => exact Nat.casesOn i (.cons h' hs) fun i => .cons h (ih i)
theorem VRs.take {vs : List Value} {l : List V} (h : VRs K news al vs l) : ∀ (i : Nat), VRs K news al (vs.take i) (l.take i) := by
  induction h using VRs.ind with
  | nil => intro i; rw [List.take_nil, List.take_nil]; exact .nil
  | cons h _ ih => exact fun i => Nat.casesOn i .nil fun i => .cons h (ih i)
theorem VRs.drop : ∀ {vs : List Value} {l : List V}, VRs K news al vs l → ∀ (i : Nat), VRs K news al (vs.drop i) (l.drop i)
  | _, _, .nil, i => by simp; exact .nil
  | _, _, .cons h hs, 0 => .cons h hs
  | _, _, .cons h hs, i + 1 => VRs.drop hs i
theorem VRs.one {v : Value} {y : V} (h : VR K news al v y) : VRs K news al [v] [y] := .cons h .nil
theorem VRs.reverse {vs : List Value} {l : List V} (h : VRs K news al vs l) : VRs K news al vs.reverse l.reverse := by
  induction h using VRs.ind with
  | nil => exact .nil
  | cons h _ ih => rw [List.reverse_cons, List.reverse_cons]; exact ih.append (.one h)
theorem PR.at_ {κ : Type} [DecidableEq κ] {kvs : List (κ × Value)} {fs : List (κ × V)} (h : PR K news al kvs fs) (k : κ) : (∀ y, fs.lookup k = some y → ∃ v, valueAt kvs k = some v ∧ VR K news al v y) ∧ (fs.lookup k = none → valueAt kvs k = none) := by
  induction h with
  | nil => exact ⟨nofun, fun _ => rfl⟩
  | @cons k' v y' es fs h hs ih =>
    unfold valueAt at ih ⊢
    rw [List.find?_cons, List.lookup_cons]
    by_cases e : k' = k
    · rw [show (k == k') = true from beq_iff_eq.mpr e.symm, decide_eq_true e]
      exact ⟨fun y q => ⟨v, rfl, sInj q ▸ h⟩, nofun⟩
    · rw [show (k == k') = false from beq_eq_false_iff_ne.mpr (Ne.symm e), decide_eq_false e]
      exact ih
theorem PR.length {κ : Type} {kvs : List (κ × Value)} {fs : List (κ × V)} (h : PR K news al kvs fs) : kvs.length = fs.length := by
  induction h with
  | nil => rfl
  | cons _ _ ih => exact congrArg (· + 1) ih
noncomputable def putD {κ : Type} [DecidableEq κ] (k : κ) (y : V) (fs : List (κ × V)) : List (κ × V) :=
  if fs.any (fun p => p.1 = k) then fs.map (fun p => if p.1 = k then (p.1, y) else p) else fs ++ [(k, y)]
theorem PR.any {κ : Type} [DecidableEq κ] {kvs : List (κ × Value)} {fs : List (κ × V)} (h : PR K news al kvs fs) (k : κ) : kvs.any (fun p => p.1 = k) = fs.any (fun p => p.1 = k) := by
  induction h with
  | nil => rfl
  | cons _ _ ih => rw [List.any_cons, List.any_cons, ih]
theorem PR.map {κ : Type} [DecidableEq κ] {kvs : List (κ × Value)} {fs : List (κ × V)} (h : PR K news al kvs fs) (k : κ) {v : Value} {y : V} (h' : VR K news al v y) : PR K news al (kvs.map fun p => if p.1 = k then (p.1, v) else p) (fs.map fun p => if p.1 = k then (p.1, y) else p) := by
  induction h with
  | nil => exact .nil
  | @cons k' v' y' es fs h hs ih =>
    rw [List.map_cons, List.map_cons]
    dsimp only
    by_cases e : k' = k
    · rw [if_pos e, if_pos e]; exact .cons h' ih
    · rw [if_neg e, if_neg e]; exact .cons h ih
theorem PR.snoc {κ : Type} {kvs : List (κ × Value)} {fs : List (κ × V)} (h : PR K news al kvs fs) (k : κ) {v : Value} {y : V} (h' : VR K news al v y) : PR K news al (kvs ++ [(k, v)]) (fs ++ [(k, y)]) := by
  induction h with
  | nil => exact .cons h' .nil
  | cons h _ ih => exact .cons h ih
theorem PR.put {κ : Type} [DecidableEq κ] {kvs : List (κ × Value)} {fs : List (κ × V)} (h : PR K news al kvs fs) (k : κ) {v : Value} {y : V} (h' : VR K news al v y) : PR K news al (PySem.stored kvs k v) (putD k y fs) := by
  unfold PySem.stored putD
  rw [h.any k]
  split
  · exact h.map k h'
  · exact h.snoc k h'
end
section
variable {G : Pg} {c : Act} {k : Nat} {q : Bool} {CL : List (Str × Nat)} {ρ : List (Str × V)} {m : Str → Option Value} {s s' : Shared} {news news' : Led} {al al' : Al} {st st' : Sto} {A : Around} {E : Value → Shared → Prop}
theorem St.upd (S : St G c CL ρ m s news al st) {k : Nat} {p : Addr × Option Addr} {d : Addr} {o o' : Obj} {x : O} {h' : Heap} {tk : Nat} (hk : al[k]? = some p) (hd : d = p.1 ∨ p.2 = some d) (hm : (d, o) ∈ news) (hs : Heap.SameBut d s.heap h') (ho : h'.get? d = some o')
    (hx : OR (G.K c.w.params) G.prog c.w (putLed d o' news) al p x) : St G c CL ρ m { s with heap := h', toks := tk } (putLed d o' news) al (st.set k x) ∧ Ext news al (putLed d o' news) al := by
  have hdf : d ∈ flat al := mem_flat.mpr ⟨k, p, hk, hd⟩
  have X : Ext news al (putLed d o' news) al := Ext.put hdf
  exact ⟨S.ext X (S.F.update S.N hm hs) (S.N.update hm hs ho) (S.H.put hk hd hx), X⟩
theorem St.sdict (S : St G c CL ρ m s news al st) {v : Value} {k : Nat} {fs : List (Str × V)} (h : VR (G.K c.w.params) news al v (.hnd k)) (e : st[k]? = some (.sdict fs)) :
    ∃ (a : Addr) (o : Obj) (kvs : List (Str × Value)), v = .ref a ∧ al[k]? = some (a, none) ∧ (a, o) ∈ news ∧ o.IsDictOf (strKind G.prog c.w) kvs ∧ (a == sysModules) = false ∧ s.heap.DictOf (strKind G.prog c.w) a kvs ∧ PR (G.K c.w.params) news al kvs fs := by
  obtain ⟨a, e0, x, hal⟩ := h.inv
  obtain ⟨e1, o, kvs, hm, hd, hn, hp⟩ := (S.H.obj k _ _ hal e).inv
  exact ⟨a, o, kvs, e0, (show x = none from e1) ▸ hal, hm, hd, hn, Heap.dictOf_iff.mpr ⟨_, S.N.get hm, hd⟩, hp⟩
theorem St.idict (S : St G c CL ρ m s news al st) {v : Value} {k : Nat} {fs : List (Int × V)} (h : VR (G.K c.w.params) news al v (.hnd k)) (e : st[k]? = some (.idict fs)) :
    ∃ (a : Addr) (o : Obj) (kvs : List (Int × Value)), v = .ref a ∧ al[k]? = some (a, none) ∧ (a, o) ∈ news ∧ o.IsDictOf (intKind G.prog c.w) kvs ∧ (a == sysModules) = false ∧ s.heap.DictOf (intKind G.prog c.w) a kvs ∧ PR (G.K c.w.params) news al kvs fs := by
  obtain ⟨a, e0, x, hal⟩ := h.inv
  obtain ⟨e1, o, kvs, hm, hd, hn, hp⟩ := (S.H.obj k _ _ hal e).inv
  exact ⟨a, o, kvs, e0, (show x = none from e1) ▸ hal, hm, hd, hn, Heap.dictOf_iff.mpr ⟨_, S.N.get hm, hd⟩, hp⟩
theorem dictOf_empty {h : Heap} {a : Addr} (x : h.DictOf (strKind G.prog c.w) a []) : h.DictOf (intKind G.prog c.w) a [] := by
  obtain ⟨o, es, ep, h1, h2, h3, _, h5, _⟩ := x
  have : es = #[] := by
    cases es with | mk l => cases h5; rfl
  subst this
  exact ⟨o, #[], ep, h1, h2, h3, fun e he => by simp at he, .nil, List.nodup_nil⟩
theorem setItem_lst {l : Addr} {its : Array Value} {n : Nat} {k : Int} {t : Tok} {v : Value} {Q : Unit → Shared → Prop} (ho : s.heap.get? l = some (listOf its n)) (h0 : 0 ≤ k) (hfit : k < 2 ^ 63) (hn : k < its.size)
    (hQ : ∀ h', h'.get? l = some (listOf (its.setIfInBounds k.toNat v) n) → Heap.SameBut l s.heap h' → Q () { s with heap := h' }) : wpAny (model G.prog c.w) A (setItem (.ref l) (.int k t) v) Q E s := by
  have hl : s.heap.IsList l its := ⟨_, ho, rfl, n, rfl⟩
  unfold setItem
  refine wpAny_holding (wpAny_bind (wpAny_sequenceKey hl.typeIs (by decide) (wpAny_bind (wpAny_callSpecial?_slot (name := Str.ofString "__setitem__") hl.typeIs slot_list_setitem
    (wpAny_call_entry slot_list_setitem hl.typeIs entry_list_setitem ?_ (args_list_setitem _ _ _))))))
  show wpAny _ _ (Builtin.List.listSubscript? (.int k t) >>= _) _ _ s
  refine wpAny_bind (wpAny_listSubscript_int (fitsIndex_of h0 hfit) ?_)
  obtain ⟨j, rfl⟩ := Int.eq_ofNat_of_zero_le h0
  have hj : j < its.size := by lia
  show wpAny _ _ ((seqItemAt l j >>= fun r => pure (r.map (j, ·))) >>= _) _ _ s
  refine wpAny_bind (wpAny_bind (wpAny_seqItemAt ho rfl (wpAny_pure ?_)))
  rw [Array.getElem?_eq_getElem hj]
  show wpAny _ _ (setSeqItemAt l j v >>= _) _ _ s
  have e : Obj.mapSeq (·.setIfInBounds j v) (listOf its n) = listOf (its.setIfInBounds j v) n := by simp [Obj.mapSeq]
  have hg : (s.heap.update l (Obj.mapSeq (·.setIfInBounds j v))).get? l = some (listOf (its.setIfInBounds j v) n) := by
    have := Heap.get?_update_self (f := Obj.mapSeq (·.setIfInBounds j v)) ho (by rw [e]; rfl)
    rw [e] at this; exact this
  refine wpAny_bind (wpAny_setSeqItemAt ho rfl ?_)
  first
    | exact wpAny_bind (wpAny_pure (wpAny_pure ⟨.none, rfl, wpAny_pure (hQ _ hg (Heap.SameBut.update ..))⟩))
    | exact wpAny_pure ⟨.none, rfl, wpAny_pure (hQ _ hg (Heap.SameBut.update ..))⟩
def setO (i u : V) : O → Option O
  | .list l => i.int?.bind fun j => if 0 ≤ j ∧ j < l.length ∧ l.length ≤ sizeLine then some (.list (l.set j.toNat u)) else none
  | .sdict fs => if fs.length ≤ sizeLine then (match i with
    | .str x => some (.sdict (putD x u fs))
    | .int j => if fs.isEmpty = true then some (.idict (putD j u [])) else none
    | _ => none) else none
  | .idict fs => i.int?.bind fun j => if fs.length ≤ sizeLine then some (.idict (putD j u fs)) else none
  | _ => none
def setItV (y i u : V) (st : Sto) : Option Sto := y.hnd?.bind fun k => st[k]?.bind fun o => (setO i u o).map fun o' => st.set k o'
theorem setItV_sound (S : St G c CL ρ m s news al st) {v vi vu : Value} {y i u : V} {Q : Unit → Shared → Prop} (h : VR (G.K c.w.params) news al v y) (hi : VR (G.K c.w.params) news al vi i) (hu : VR (G.K c.w.params) news al vu u) (e : setItV y i u st = some st')
    (hQ : Cont G c CL ρ m s news al relU () st' Q) : wpAny (model G.prog c.w) A (setItem v vi vu) Q E s := by
  refine bindE e fun k e1 e => bindE e fun o hk e => ?_
  obtain ⟨o', e2, e3⟩ := Option.map_eq_some_iff.mp e
  rw [← e3] at hQ
  have h := (V.hnd_of e1 ▸ h : VR (G.K c.w.params) news al v (.hnd k))
  cases o with
  | list l =>
    refine bindE e2 fun j e4 e2 => iteS e2 fun hz e2 => ?_
    obtain ⟨a, e0, _⟩ := h.inv
    obtain ⟨t, e5⟩ := hi.vint e4
    rw [e0] at h
    rw [e0, e5]
    obtain ⟨vs, n, hal, hm, hl, hs⟩ := S.list h hk
    have hlen := hs.length
    simp only [sizeLine] at hz
    refine setItem_lst (S.N.get hm) hz.1 (by lia) (by simp; lia) fun h' ho' hsb => ?_
    have e3 : listOf (vs.toArray.setIfInBounds j.toNat vu) n = listOf (vs.set j.toNat vu).toArray n := by rw [List.setIfInBounds_toArray]
    rw [e3] at ho'
    obtain ⟨S', X⟩ := S.upd (tk := s.toks) (x := .list (l.set j.toNat u)) hal (.inl rfl) hm hsb ho' (.list (mem_putLed_at hm) ((hs.set _ hu).ext S.H (Ext.put (mem_flat.mpr ⟨_, _, hal, .inl rfl⟩))))
    exact hQ _ _ _ _ (sInj e2 ▸ S') X trivial ⟨rfl, rfl⟩
  | sdict fs =>
    obtain ⟨a, o, kvs, e0, hal, hm, hd, hn, hD, hp⟩ := S.sdict h hk
    refine iteS e2 fun hz e2 => ?_
    have hx : Ext news al (putLed a o news) al := Ext.put (mem_flat.mpr ⟨_, _, hal, .inl rfl⟩)
    cases i with
    | str x =>
      obtain ⟨t, e5⟩ := hi.inv
      rw [e0, e5]
      refine wpAny_setItem_pairs (strKind_is _ _ _ _) hD (fun h' hD' hsb => ?_) (by rw [hp.length]; exact hz)
      obtain ⟨o', ho', hd'⟩ := Heap.dictOf_iff.mp hD'
      obtain ⟨S', X⟩ := S.upd (tk := s.toks + 1) hal (.inl rfl) hm hsb ho' (.sdict (mem_putLed_at hm) hd' hn ((hp.put _ hu).ext S.H (Ext.put (mem_flat.mpr ⟨_, _, hal, .inl rfl⟩))))
      exact hQ _ _ _ _ (sInj e2 ▸ S') X trivial ⟨rfl, rfl⟩
    | int j =>
      refine iteS e2 fun h0 e2 => ?_
      have h0 := List.isEmpty_iff.mp h0
      subst h0
      obtain ⟨t, e5⟩ := hi.inv
      rw [e0, e5]
      have hk0 : kvs = [] := List.length_eq_zero_iff.mp hp.length
      subst hk0
      refine wpAny_setItem_pairs (intKind_is _ _ _ _) (dictOf_empty hD) (fun h' hD' hsb => ?_) (Nat.zero_le _)
      obtain ⟨o', ho', hd'⟩ := Heap.dictOf_iff.mp hD'
      obtain ⟨S', X⟩ := S.upd (tk := s.toks + 1) hal (.inl rfl) hm hsb ho' (.idict (mem_putLed_at hm) hd' hn ((PR.put .nil _ hu).ext S.H (Ext.put (mem_flat.mpr ⟨_, _, hal, .inl rfl⟩))))
      exact hQ _ _ _ _ (sInj e2 ▸ S') X trivial ⟨rfl, rfl⟩
    | _ => exact noS e2
  | idict fs =>
    refine bindE e2 fun j e4 e2 => iteS e2 fun hz e2 => ?_
    obtain ⟨a, o, kvs, e0, hal, hm, hd, hn, hD, hp⟩ := S.idict h hk
    obtain ⟨t, e5⟩ := hi.vint e4
    rw [e0, e5]
    refine wpAny_setItem_pairs (intKind_is _ _ _ _) hD (fun h' hD' hsb => ?_) (by rw [hp.length]; exact hz)
    obtain ⟨o', ho', hd'⟩ := Heap.dictOf_iff.mp hD'
    obtain ⟨S', X⟩ := S.upd (tk := s.toks + 1) hal (.inl rfl) hm hsb ho' (.idict (mem_putLed_at hm) hd' hn ((hp.put _ hu).ext S.H (Ext.put (mem_flat.mpr ⟨_, _, hal, .inl rfl⟩))))
    exact hQ _ _ _ _ (sInj e2 ▸ S') X trivial ⟨rfl, rfl⟩
  | _ => exact noS e2
end
noncomputable def lget (j : Int) (l : List V) : Option V := if -(2 ^ 63) ≤ j ∧ j < 2 ^ 63 then (seqIndex? j l.length).bind (l[·]?) else none
def getO (i : V) : O → Option V
  | .list l => i.int?.bind fun j => lget j l
  | .sdict fs => i.str?.bind fun x => fs.lookup x
  | .idict fs => i.int?.bind fun j => fs.lookup j
  | _ => none
def getItV (y i : V) (st : Sto) : Option V := match y with
  | .tup l => i.int?.bind fun j => lget j l
  | .str x => i.int?.bind fun j => if -(2 ^ 63) ≤ j ∧ j < 2 ^ 63 then ((seqIndex? j x.length).bind (x.cps[·]?)).map fun ch => .str ⟨#[ch]⟩ else none
  | .hnd k => st[k]?.bind (getO i)
  | _ => none
def plainIdx : Expr → Bool
  | .Slice _ _ _ _ => false
  | _ => true
section
variable {G : Pg} {c : Act} {k : Nat} {q : Bool} {CL : List (Str × Nat)} {ρ : List (Str × V)} {m : Str → Option Value} {s s' : Shared} {news news' : Led} {al al' : Al} {st st' : Sto} {A : Around} {E : Value → Shared → Prop}
theorem sub_plain {slice : Expr} (h : plainIdx slice = true) (o i : Value) : subscripted slice false o i = operate [o, i] (getItem o i) := by
  cases slice <;> first | rfl | cases h
theorem listGet {Q : Value → Shared → Prop} {a : Addr} {vs : List Value} {j : Int} {u : Tok} {i : Nat} {x : Value} (hl : s.heap.IsList a vs.toArray) (hlo : -(2 ^ 63) ≤ j) (hhi : j < 2 ^ 63) (hj : seqIndex? j vs.length = some i) (hx : vs[i]? = some x) (h : Q x s) :
    wpAny (model G.prog c.w) A (getItem (.ref a) (.int j u)) Q E s := by
  by_cases h0 : j < 0
  · exact kde_getNeg hl h0 hlo hj hx h
  · refine wpAny_getItem_list hl (by lia) hhi ?_ h
    unfold seqIndex? at hj
    rw [if_neg h0] at hj
    dsimp only at hj
    refine iteS hj fun _ hj => ?_
    · induction hj using E1; simpa using hx
theorem lget_of {K : Frag} {news : Led} {al : Al} {vs : List Value} {l : List V} {j : Int} {z : V} {P : Prop} (r : VRs K news al vs l) (e : lget j l = some z) (k : -(2 ^ 63) ≤ j → j < 2 ^ 63 → ∀ n u, seqIndex? j vs.length = some n → vs[n]? = some u → VR K news al u z → P) : P :=
  iteS e fun hb e => bindE e fun n e1 e2 => by
    obtain ⟨u, e3, e4⟩ := r.get e2
    exact k hb.1 hb.2 n u (r.length ▸ e1) e3 e4
theorem getItV_sound (hc : c.Ok G) (S : St G c CL ρ m s news al st) {v vi : Value} {y i z : V} {value slice : Expr} {Q : Value → Shared → Prop} (h : VR (G.K c.w.params) news al v y) (hi : VR (G.K c.w.params) news al vi i) (e : getItV y i st = some z) (hp : plainIdx slice = true)
    (hQ : Cont G c CL ρ m s news al relV z st Q) : wpAny (model G.prog c.w) A (subscriptTail value slice v vi) Q E s := by
  cases y with
  | tup l =>
    obtain ⟨a, e0⟩ := h.inv
    rw [e0] at h ⊢
    obtain ⟨vs, t1, r1⟩ := S.tup hc h
    refine bindE e fun j e1 e => lget_of r1 e fun b1 b2 n u e2 e3 e4 => ?_
    obtain ⟨t, e5⟩ := hi.vint e1
    rw [e5]
    exact tail_any t1.typeIs slot_tuple_getitem.lookup (getItem_tuple t1 b1 b2 e2 (List.getElem?_toArray.trans e3) (hQ.here S e4 rfl .refl)) (sub_plain hp _ _)
  | str x =>
    obtain ⟨t, e0⟩ := h.inv
    rw [e0]
    refine bindE e fun j e1 e => iteS e fun hb e => ?_
    obtain ⟨u, e5⟩ := hi.vint e1
    obtain ⟨ch, e2, e3⟩ := Option.map_eq_some_iff.mp e
    rw [e5]
    rw [← e3] at hQ
    exact tail_any (typeIs_str _ _ _) slot_str_getitem.lookup (getItem_str (by rw [decide_eq_false (Int.not_lt.mpr hb.1), decide_eq_false (Int.not_le.mpr hb.2)]; rfl) e2 (hQ.here S .str rfl ⟨rfl, rfl⟩)) (sub_plain hp _ _)
  | hnd k =>
    refine bindE e fun o hk e => ?_
    cases o with
    | list l =>
      obtain ⟨a, e0, _⟩ := h.inv
      rw [e0] at h ⊢
      obtain ⟨vs, n, _, hm, hl, r1⟩ := S.list h hk
      refine bindE e fun j e1 e => lget_of r1 e fun b1 b2 n u e2 e3 e4 => ?_
      obtain ⟨t, e5⟩ := hi.vint e1
      rw [e5]
      exact tail_any hl.typeIs slot_list_getitem.lookup (listGet hl b1 b2 e2 e3 (hQ.here S e4 rfl .refl)) (sub_plain hp _ _)
    | sdict fs =>
      refine bindE e fun x e1 e => ?_
      obtain ⟨a, o, kvs, e0, _, hm, hd, hn, hD, hpr⟩ := S.sdict h hk
      obtain ⟨t, e5⟩ := hi.vstr e1
      obtain ⟨u, e6, e2⟩ := (hpr.at_ _).1 _ e
      rw [e0, e5]
      exact tail_any hD.typeIs slot_dict_getitem.lookup (wpAny_getItem_of (strKind_is _ _ _ _) hD.mapOf e6 (hQ.here S e2 rfl ⟨rfl, rfl⟩)) (sub_plain hp _ _)
    | idict fs =>
      refine bindE e fun x e1 e => ?_
      obtain ⟨a, o, kvs, e0, _, hm, hd, hn, hD, hpr⟩ := S.idict h hk
      obtain ⟨t, e5⟩ := hi.vint e1
      obtain ⟨u, e6, e2⟩ := (hpr.at_ _).1 _ e
      rw [e0, e5]
      exact tail_any hD.typeIs slot_dict_getitem.lookup (wpAny_getItem_of (intKind_is _ _ _ _) hD.mapOf e6 (hQ.here S e2 rfl ⟨rfl, rfl⟩)) (sub_plain hp _ _)
    | _ => exact noS e
  | _ => exact noS e
theorem St.append (S : St G c CL ρ m s news al st) {v u : Value} {k : Nat} {l : List V} {y : V} {Q : Value → Shared → Prop} (h : VR (G.K c.w.params) news al v (.hnd k)) (e : st[k]? = some (.list l)) (hz : l.length ≤ sizeLine) (hu : VR (G.K c.w.params) news al u y)
    (hQ : Cont G c CL ρ m s news al relV .none (st.set k (.list (l ++ [y]))) Q) : wpAny (model G.prog c.w) A (call (.builtin "list.append") [v, u]) Q E s := by
  obtain ⟨a, rfl, _⟩ := h.inv
  obtain ⟨vs, n, hal, hm, hl, r1⟩ := S.list h e
  have hdf : a ∈ flat al := mem_flat.mpr ⟨_, _, hal, .inl rfl⟩
  refine append_K S.F S.N (putLed_upd S.H.nd hm) (fun h' F N => ?_) (by have := r1.length; simp; lia)
  have X := Ext.put (o := listOf (vs.toArray.push u) (n + 1)) (news := news) hdf
  have hx : OR (G.K c.w.params) G.prog c.w (putLed a (listOf (vs.toArray.push u) (n + 1)) news) al (a, none) (.list (l ++ [y])) := by
    have := OR.list (K := G.K c.w.params) (prog := G.prog) (w := c.w) (n := n + 1) (mem_putLed_at (o := listOf (vs ++ [u]).toArray (n + 1)) hm) ((r1.append (.one hu)).ext S.H (Ext.put hdf))
    simpa using this
  exact hQ _ _ _ _ (S.ext X F N (S.H.put hal (.inl rfl) hx)) X .none ⟨rfl, rfl⟩
theorem VRs.dropLast {K : Frag} {vs : List Value} {l : List V} (h : VRs K news al vs l) : VRs K news al vs.dropLast l.dropLast := by
  rw [List.dropLast_eq_take, List.dropLast_eq_take, h.length]
  exact h.take _
theorem VRs.last {K : Frag} {vs : List Value} {l : List V} {y : V} (h : VRs K news al vs l) (e : l.getLast? = some y) : ∃ v, vs.getLast? = some v ∧ VR K news al v y := by
  rw [List.getLast?_eq_getElem?] at e
  obtain ⟨v, h1, h2⟩ := h.get e
  exact ⟨v, by rw [List.getLast?_eq_getElem?, h.length]; exact h1, h2⟩
theorem kl_last_of : ∀ {l : List Value} {x : Value}, l.getLast? = some x → kl_last l = some (l.dropLast, x)
  | [], _, h => by exact noS h
  | [a], x, h => by simp at h; subst h; rfl
  | a :: b :: r, x, h => by
    have := kl_last_of (l := b :: r) (x := x) (by simpa using h)
    unfold kl_last
    rw [this]; simp
theorem St.pop (S : St G c CL ρ m s news al st) {v : Value} {k : Nat} {l : List V} {y : V} {Q : Value → Shared → Prop} (h : VR (G.K c.w.params) news al v (.hnd k)) (e : st[k]? = some (.list l)) (hz : l.length ≤ sizeLine) (hl : l.getLast? = some y)
    (hQ : Cont G c CL ρ m s news al relV y (st.set k (.list l.dropLast)) Q) : wpAny (model G.prog c.w) A (call (.builtin "list.pop") [v]) Q E s := by
  obtain ⟨a, rfl, _⟩ := h.inv
  obtain ⟨vs, n, hal, hm, _, r1⟩ := S.list h e
  have hdf : a ∈ flat al := mem_flat.mpr ⟨_, _, hal, .inl rfl⟩
  obtain ⟨u, h1, h2⟩ := r1.last hl
  refine kl_pop S.F S.N (by simpa using kl_last_of h1) (putLed_upd S.H.nd hm) (by have := r1.length; simp; lia) fun h' F N => ?_
  have X := Ext.put (o := listOf vs.dropLast.toArray (n + 1)) (news := news) hdf
  exact hQ _ _ _ _ (S.ext X F N (S.H.put hal (.inl rfl) (.list (mem_putLed_at hm) (r1.dropLast.ext S.H X)))) X (h2.ext S.H X) ⟨rfl, rfl⟩
def lenO : O → Option Int
  | .list l => if l.length ≤ sizeLine then some l.length else none
  | _ => none
noncomputable def lenV (y : V) (st : Sto) : Option Int := match y with
  | .tup l => if l.length ≤ sizeLine then some l.length else none
  | .str x => if x.length ≤ sizeLine then some x.length else none
  | .hnd k => st[k]?.bind lenO
  | _ => none
theorem lenV_sound (hc : c.Ok G) (S : St G c CL ρ m s news al st) {v : Value} {y : V} {n : Int} {Q : Value → Shared → Prop} (h : VR (G.K c.w.params) news al v y) (e : lenV y st = some n) (hQ : Cont G c CL ρ m s news al relV (.int n) st Q) :
    wpAny (model G.prog c.w) A (call (.builtin "len") [v]) Q E s := by
  have H : ∀ {a tk : Nat} {t : Tok}, (a : Int) = n → Q (.int a t) { s with toks := tk } := fun e => hQ.here S (e ▸ .int) rfl ⟨rfl, rfl⟩
  cases y with
  | tup l =>
    obtain ⟨a, e0⟩ := h.inv
    rw [e0] at h ⊢
    obtain ⟨vs, t1, r1⟩ := S.tup hc h
    exact iteS e fun hl e => PyProof.Rows.len_tuple t1 (by have := r1.length; simp only [sizeLine] at hl; simp; lia) (H (by rw [List.size_toArray, r1.length]; exact sInj e))
  | str x =>
    obtain ⟨t, e0⟩ := h.inv
    rw [e0]
    exact iteS e fun hl e => PyProof.Rows.len_str (by simp only [sizeLine] at hl; lia) (H (sInj e))
  | hnd k =>
    refine bindE e fun o hk e => ?_
    cases o with
    | list l =>
      obtain ⟨a, e0, _⟩ := h.inv
      rw [e0] at h ⊢
      obtain ⟨vs, n, _, hm, t1, r1⟩ := S.list h hk
      exact iteS e fun hl e => Calls.call_len_list t1 (by have := r1.length; simp only [sizeLine] at hl; simp; lia) (H (by rw [List.size_toArray, r1.length]; exact sInj e))
    | _ => exact noS e
  | _ => exact noS e
end
section
variable {G : Pg} {c : Act} {k : Nat} {q : Bool} {CL : List (Str × Nat)} {ρ : List (Str × V)} {m : Str → Option Value} {s s' : Shared} {news news' : Led} {al al' : Al} {st st' : Sto} {A : Around} {E : Value → Shared → Prop}
theorem St.newOwn (S : St G c CL ρ m s news al st) {a : Addr} {o : Obj} {x : O} {h' : Heap} {tk : Nat} (ha : a ∉ news.map (·.1)) (F : Fr c.h₀ c.L h' m) (N : News c.h₀ c.L h' ((a, o) :: news))
    (hx : OR (G.K c.w.params) G.prog c.w ((a, o) :: news) (al ++ [(a, none)]) (a, none) x) :
    St G c CL ρ m { s with heap := h', toks := tk } ((a, o) :: news) (al ++ [(a, none)]) (st ++ [x]) ∧ Ext news al ((a, o) :: news) (al ++ [(a, none)]) ∧ VR (G.K c.w.params) ((a, o) :: news) (al ++ [(a, none)]) (.ref a) (.hnd st.length) := by
  have X := Ext.owned (al := al) (o := o) ha
  exact ⟨S.ext X F N (S.H.owned ha hx), X, .hnd (x := none) (by rw [← S.H.len]; simp)⟩
theorem St.newList (S : St G c CL ρ m s news al st) {vs : List Value} {l : List V} {Q : Value → Shared → Prop} (h : VRs (G.K c.w.params) news al vs l) (hsz : l.length ≤ sizeLine) (hQ : Cont G c CL ρ m s news al relV (.hnd st.length) (st ++ [.list l]) Q) :
    wpAny (model G.prog c.w) A (newList vs) Q E s :=
  newList_N S.F S.N (fun h' F N => by
    have hx : OR (G.K c.w.params) G.prog c.w ((s.heap.objs.size, listOf vs.toArray 0) :: news) (al ++ [(s.heap.objs.size, none)]) (s.heap.objs.size, none) (.list l) := .list (List.mem_cons_self) (h.ext S.H (Ext.owned S.fresh))
    obtain ⟨S', X, r⟩ := S.newOwn (tk := s.toks) S.fresh F N hx
    exact hQ _ _ _ _ S' X r ⟨rfl, rfl⟩) (by rw [h.length]; exact hsz)
theorem St.tmpList (S : St G c CL ρ m s news al st) {vs : List Value} {l : List V} {Q : Value → Shared → Prop} (h : VRs (G.K c.w.params) news al vs l) (hsz : l.length ≤ sizeLine)
    (hQ : ∀ a s' news', St G c CL ρ m s' news' al st → Ext news al news' al → s'.heap.IsList a vs.toArray → VRs (G.K c.w.params) news' al vs l → Same s s' → Q (.ref a) s') :
    wpAny (model G.prog c.w) A (PySem.newList vs) Q E s :=
  newList_N S.F S.N (fun h' F N => hQ _ _ _ (S.new (tk := s.toks) F N) Ext.free (N.isList (.head _)) (h.ext S.H Ext.free) ⟨rfl, rfl⟩) (by rw [h.length]; exact hsz)
theorem St.tupOf (S : St G c CL ρ m s news al st) {a : Addr} {vs : List Value} {l : List V} {Q : Value → Shared → Prop} (hl : s.heap.IsList a vs.toArray) (h : VRs (G.K c.w.params) news al vs l) (hsz : l.length ≤ 16384) (hQ : Cont G c CL ρ m s news al relV (.tup l) st Q) :
    wpAny (model G.prog c.w) A (call (.type "tuple") [.ref a]) Q E s := by
  refine kde_tupleOf S.F S.N hl (by have := h.length; simp; lia) (zs := vs) (by simp) fun D h' F N hlt => ?_
  have hD : D ∉ news.map (·.1) := fun q => by
    obtain ⟨p, hp, e⟩ := List.mem_map.mp q
    exact absurd (hlt p hp) (by rw [e]; exact Nat.lt_irrefl _)
  exact hQ _ _ _ _ (S.ext Ext.free F N (S.H.free hD)) Ext.free (.tup (.head _) (h.ext S.H Ext.free)) ⟨rfl, rfl⟩
def rngP (args : List V) : Option V := ((int1 args).map fun n => V.rng 0 n 1).or (((int2 args).map fun p => V.rng p.1 p.2 1).or ((int3 args).bind fun p => if p.2.2 = 0 ∨ Builtin.divisionGoesByPylong (p.2.1 - p.1) p.2.2 = true then none else some (.rng p.1 p.2.1 p.2.2)))
def tupP (y : V) (st : Sto) : Option V := (y.tup?.map V.tup).or (y.hnd?.bind fun k => (lstAt st k).bind fun l => if l.length ≤ 16384 then some (.tup l) else none)
def biP (q : Bool) (id : String) (args : List V) (st : Sto) : Option V :=
  if id = "len" then (arg1 args).bind fun y => (lenV y st).map V.int
  else if id = "abs" then (int1 args).map fun i => V.int (if i < 0 then -i else i)
  else if id = "max" then (if q = true then (int2 args).map fun p => V.int (if p.2 > p.1 then p.2 else p.1) else none)
  else if id = "min" then (if q = true then (int2 args).map fun p => V.int (if p.2 < p.1 then p.2 else p.1) else none)
  else none
def tyP (id : String) (args : List V) (st : Sto) : Option V :=
  if id = "int" then (int1 args).map V.int
  else if id = "range" then rngP args
  else if id = "tuple" then (arg1 args).bind fun y => tupP y st
  else none
def callB (q : Bool) (f : V) (args : List V) (st : Sto) : Option (V × Sto) := match f with
  | .bi id => (biP q id args st).map fun z => (z, st)
  | .ty id => (tyP id args st).map fun z => (z, st)
  | _ => none
theorem rngP_sound (S : St G c CL ρ m s news al st) {vs : List Value} {z : V} {args : List V} {Q : Value → Shared → Prop} (hs : VRs (G.K c.w.params) news al vs args) (e : rngP args = some z) (hQ : Cont G c CL ρ m s news al relV z st Q) : wpAny (model G.prog c.w) A (call (.type "range") vs) Q E s := by
  have R : ∀ {x : Int} {y : Int} {u : Int} {a b d : Tok} {tk : Nat}, V.rng x y u = z → Q (.ref s.heap.objs.size) { s with heap := s.heap.push { cls := .type "range", data := .fields #[.int x a, .int y b, .int u d] }, toks := tk } := fun e => hQ _ _ _ _ (S.new (S.F.push _) (S.N.push S.F _)) Ext.free (e ▸ .rng (.head _)) ⟨rfl, rfl⟩
  refine orE e (fun e => mapE e fun n e1 e => ?_) fun e => orE e (fun e => mapE e fun p e1 e => ?_) fun e => bindE e fun p e1 e => iteE e (fun _ e => noS e) fun hz e => ?_
  · obtain ⟨t, e2⟩ := hs.i1 e1
    exact e2 ▸ call_range_1 (R e)
  · obtain ⟨t, u, e2⟩ := hs.i2 e1
    exact e2 ▸ call_range_2 (R e)
  · obtain ⟨t, u, y, e2⟩ := hs.i3 e1
    rw [not_or, Bool.not_eq_true] at hz
    exact e2 ▸ call_range_3 hz.1 (R (sInj e)) (.inl hz.2)
theorem tupP_sound (hc : c.Ok G) (S : St G c CL ρ m s news al st) {v : Value} {y z : V} {Q : Value → Shared → Prop} (h : VR (G.K c.w.params) news al v y) (e : tupP y st = some z) (hQ : Cont G c CL ρ m s news al relV z st Q) : wpAny (model G.prog c.w) A (call (.type "tuple") [v]) Q E s := by
  refine orE e (fun e => mapE e fun l e1 e => ?_) fun e => bindE e fun k e1 e => bindE e fun l e2 e => iteS e fun hl e => ?_
  · obtain ⟨a, e2, h⟩ := h.vtup e1
    obtain ⟨vs, t1, r1⟩ := S.tup hc h
    exact e2 ▸ PySem.call_tuple_same t1 (hQ.here S (e ▸ h) rfl .refl)
  · obtain ⟨a, e3, h⟩ := h.vhnd e1
    obtain ⟨vs, n, _, hm, t1, r1⟩ := S.list h (lstAt_of e2)
    exact e3 ▸ S.tupOf t1 r1 hl (sInj e ▸ hQ)
theorem biP_sound (hc : c.Ok G) (hA : Ar c k q A) (S : St G c CL ρ m s news al st) {vs : List Value} {id : String} {z : V} {args : List V} {Q : Value → Shared → Prop} (hs : VRs (G.K c.w.params) news al vs args) (e : biP q id args st = some z)
    (hQ : Cont G c CL ρ m s news al relV z st Q) : wpAny (model G.prog c.w) A (call (.builtin id) vs) Q E s := by
  have H : ∀ {i : Int} {h' : Heap} {tk : Nat} {t : Tok}, (∀ b o, s.heap.get? b = some o → h'.get? b = some o) → V.int i = z → Q (.int i t) { s with heap := h', toks := tk } := fun hk e => hQ _ _ _ _ (S.ext Ext.refl (S.F.keeps hk) (S.N.grown hk) S.H) Ext.refl (e ▸ .int) ⟨rfl, rfl⟩
  refine iteE e (fun hid e => bindE e fun y e1 e => mapE e fun n e2 e => ?_) fun _ e => iteE e (fun hid e => mapE e fun i e1 e => ?_) fun _ e => iteE e (fun hid e => iteS e fun hq e => mapE e fun p e1 e => ?_) fun _ e => iteS e fun hid e => iteS e fun hq e => mapE e fun p e1 e => ?_
  · obtain ⟨v, e3, h1⟩ := hs.a1 e1
    exact hid ▸ e3 ▸ lenV_sound hc S h1 e2 (e ▸ hQ)
  · obtain ⟨t, e2⟩ := hs.i1 e1
    exact hid ▸ e2 ▸ call_abs_int fun u tk => H (fun _ _ x => x) e
  · obtain ⟨t, u, e2⟩ := hs.i2 e1
    rw [hid, e2]
    refine PySem.max_two_ints (hA.hd hq) fun h' tk hk => ?_
    rw [← e] at hQ
    exact hQ _ _ _ _ (S.ext Ext.refl (S.F.keeps hk) (S.N.grown hk) S.H) Ext.refl (by split <;> exact .int) ⟨rfl, rfl⟩
  · obtain ⟨t, u, e2⟩ := hs.i2 e1
    rw [hid, e2]
    refine PySem.min_two_ints (hA.hd hq) fun h' tk hk => ?_
    rw [← e] at hQ
    exact hQ _ _ _ _ (S.ext Ext.refl (S.F.keeps hk) (S.N.grown hk) S.H) Ext.refl (by split <;> exact .int) ⟨rfl, rfl⟩
theorem tyP_sound (hc : c.Ok G) (S : St G c CL ρ m s news al st) {vs : List Value} {id : String} {z : V} {args : List V} {Q : Value → Shared → Prop} (hs : VRs (G.K c.w.params) news al vs args) (e : tyP id args st = some z)
    (hQ : Cont G c CL ρ m s news al relV z st Q) : wpAny (model G.prog c.w) A (call (.type id) vs) Q E s := by
  refine iteE e (fun hid e => mapE e fun i e1 e => ?_) fun _ e => iteE e (fun hid e => hid ▸ rngP_sound S hs e hQ) fun _ e => iteS e fun hid e => bindE e fun y e1 e => ?_
  · obtain ⟨t, e2⟩ := hs.i1 e1
    exact hid ▸ e2 ▸ call_int_int (hQ.here S (e ▸ .int) rfl ⟨rfl, rfl⟩)
  · obtain ⟨v, e3, h1⟩ := hs.a1 e1
    exact hid ▸ e3 ▸ tupP_sound hc S h1 e hQ
theorem callB_sound (hc : c.Ok G) (hA : Ar c k q A) (S : St G c CL ρ m s news al st) {v : Value} {vs : List Value} {f z : V} {args : List V} {Q : Value → Shared → Prop} (h : VR (G.K c.w.params) news al v f) (hs : VRs (G.K c.w.params) news al vs args) (e : callB q f args st = some (z, st'))
    (hQ : Cont G c CL ρ m s news al relV z st' Q) : wpAny (model G.prog c.w) A (call v vs) Q E s := by
  cases f with
  | bi id => exact mapE e fun y e1 e2 => (show v = _ from h.inv) ▸ biP_sound hc hA S hs e1 ((Prod.mk.inj e2).1 ▸ (Prod.mk.inj e2).2 ▸ hQ)
  | ty id => exact mapE e fun y e1 e2 => (show v = _ from h.inv) ▸ tyP_sound hc S hs e1 ((Prod.mk.inj e2).1 ▸ (Prod.mk.inj e2).2 ▸ hQ)
  | _ => exact noS e
end
noncomputable def pickV (l : List V) (lo hi st : Option Int) : List V :=
  (sliceRange (sliceBounds lo hi st l.length).1 (sliceBounds lo hi st l.length).2.1 (sliceBounds lo hi st l.length).2.2).filterMap (l[·]?)
section
variable {K : Frag} {news : Led} {al : Al}
theorem VRs.picks {vs : List Value} {l : List V} (h : VRs K news al vs l) : ∀ (ix : List Nat), VRs K news al (ix.filterMap (vs.toArray[·]?)) (ix.filterMap (l[·]?))
  | [] => .nil
  | i :: r => by
    have ih := VRs.picks h r
    rw [List.filterMap_cons, List.filterMap_cons]
    have hs := h.length
    cases e : l[i]? with
    | none =>
      have : vs.toArray[i]? = none := by
        rw [List.getElem?_toArray]
        rw [List.getElem?_eq_none_iff] at e ⊢
        lia
      rw [this]; exact ih
    | some y =>
      obtain ⟨v, h1, h2⟩ := h.get e
      have : vs.toArray[i]? = some v := by rw [List.getElem?_toArray]; exact h1
      rw [this]; exact .cons h2 ih
theorem VRs.slice {vs : List Value} {l : List V} (h : VRs K news al vs l) (lo hi st : Option Int) : VRs K news al (slicePick vs.toArray lo hi st).toList (pickV l lo hi st) := by
  unfold slicePick pickV
  rw [show vs.toArray.size = l.length from by simp [h.length]]
  exact h.picks _
end
def partV : V → Option (Option Int)
  | .none => some none
  | .int i => some (some i)
  | _ => none
section
variable {G : Pg} {c : Act} {k : Nat} {q : Bool} {CL : List (Str × Nat)} {ρ : List (Str × V)} {m : Str → Option Value} {s s' : Shared} {news news' : Led} {al al' : Al} {st st' : Sto} {A : Around} {E : Value → Shared → Prop}
theorem part_of {K : Frag} {v : Value} {y : V} {p : Option Int} (h : VR K news al v y) (e : partV y = some p) : IsPart v p := by
  cases h <;> cases e
  · exact .none
  · exact .int _ _
theorem sliceTail {value slice : Expr} {a : Addr} {vs : List Value} {l : List V} {vl vu vk : Value} {lo hi stp : Option Int} {Q : Value → Shared → Prop} (S : St G c CL ρ m s news al st) (hl : s.heap.IsList a vs.toArray) (hs : VRs (G.K c.w.params) news al vs l) (hz : l.length ≤ sizeLine)
    (pl : IsPart vl lo) (pu : IsPart vu hi) (pk : IsPart vk stp) (h0 : stp ≠ some 0) (ops : List Value)
    (hsub : subscripted slice false (.ref a) (.ref s.heap.objs.size) = operate ops (getItem (.ref a) (.ref s.heap.objs.size)))
    (hQ : ∀ b s' news', St G c CL ρ m s' news' al st → Ext news al news' al → b ∉ news.map (·.1) → (b, listOf (slicePick vs.toArray lo hi stp) 0) ∈ news' → Same s s' → Q (.ref b) s') :
    wpAny (model G.prog c.w) A (subscriptTail value slice (.ref a) (.ref s.heap.objs.size)) Q E { s with heap := s.heap.push { cls := .type "slice", data := .fields #[vl, vu, vk] } } := by
  have S1 : St G c CL ρ m { s with heap := s.heap.push { cls := .type "slice", data := .fields #[vl, vu, vk] } } news al st := S.ext Ext.refl (S.F.push _) (S.N.grown fun _ _ e => Heap.get?_push_of_some _ e) S.H
  refine tail_any (hl.push _).typeIs list_getitem_lookup (wpAny_getItem_list_slice (hl.push _) (Heap.IsSliceOf.new ..) pl pu pk h0 ?_ (by simp; rw [hs.length]; exact hz)) hsub
  have hfresh := S1.fresh
  refine hQ _ _ _ (S1.new (tk := s.toks) (S1.F.push _) (S1.N.push S1.F _)) Ext.free hfresh (.head _) ⟨rfl, rfl⟩
def getDO (i d : V) : O → Option V
  | .sdict fs => i.str?.map fun x => (fs.lookup x).getD d
  | .idict fs => i.int?.map fun j => (fs.lookup j).getD d
  | _ => none
def getDV (y i d : V) (st : Sto) : Option V := y.hnd?.bind fun k => st[k]?.bind (getDO i d)
theorem PR.getD {K : Frag} {κ : Type} [DecidableEq κ] {kvs : List (κ × Value)} {fs : List (κ × V)} (h : PR K news al kvs fs) (x : κ) {v : Value} {y : V} (hv : VR K news al v y) : VR K news al ((valueAt kvs x).getD v) ((fs.lookup x).getD y) := by
  obtain ⟨h1, h2⟩ := h.at_ x
  cases e : fs.lookup x with
  | none => rw [h2 e]; exact hv
  | some z => obtain ⟨u, e1, e2⟩ := h1 z e; rw [e1]; exact e2
theorem getDV_sound (S : St G c CL ρ m s news al st) {v vi vd : Value} {y i d z : V} {Q : Value → Shared → Prop} (h : VR (G.K c.w.params) news al v y) (hi : VR (G.K c.w.params) news al vi i) (hd : VR (G.K c.w.params) news al vd d) (e : getDV y i d st = some z)
    (hQ : Cont G c CL ρ m s news al relV z st Q) : wpAny (model G.prog c.w) A (call (.builtin "dict.get") [v, vi, vd]) Q E s := by
  refine bindE e fun k e1 e => bindE e fun o hk e => ?_
  have h := (V.hnd_of e1 ▸ h : VR (G.K c.w.params) news al v (.hnd k))
  cases o with
  | sdict fs =>
    refine mapE e fun x e2 e => ?_
    obtain ⟨a, o, kvs, e0, _, hm, hdo, hn, hD, hpr⟩ := S.sdict h hk
    obtain ⟨t, e3⟩ := hi.vstr e2
    exact e0 ▸ e3 ▸ call_meetsIn PySem.F.slot_dict_get hD.typeIs PySem.F.entry_dict_get (PySem.F.args_dict_get_3 _ _ _) (meets_dict_get_default (strKind G.prog c.w) a (strKind_is _ _ _ _) hn vd) ⟨_, hD.mapOf, hQ.here S (e ▸ hpr.getD _ hd) rfl ⟨rfl, rfl⟩⟩
  | idict fs =>
    refine mapE e fun x e2 e => ?_
    obtain ⟨a, o, kvs, e0, _, hm, hdo, hn, hD, hpr⟩ := S.idict h hk
    obtain ⟨t, e3⟩ := hi.vint e2
    exact e0 ▸ e3 ▸ call_meetsIn PySem.F.slot_dict_get hD.typeIs PySem.F.entry_dict_get (PySem.F.args_dict_get_3 _ _ _) (meets_dict_get_default (intKind G.prog c.w) a (intKind_is _ _ _ _) hn vd) ⟨_, hD.mapOf, hQ.here S (e ▸ hpr.getD _ hd) rfl ⟨rfl, rfl⟩⟩
  | _ => exact noS e
theorem St.dictCopy (S : St G c CL ρ m s news al st) {v : Value} {k : Nat} {fs : List (Str × V)} {Q : Value → Shared → Prop} (hsys : (s.heap.objs.size == sysModules) = false) (h : VR (G.K c.w.params) news al v (.hnd k)) (e : st[k]? = some (.sdict fs)) (hz : fs.length ≤ sizeLine)
    (hQ : Cont G c CL ρ m s news al relV (.hnd st.length) (st ++ [.sdict fs]) Q) : wpAny (model G.prog c.w) A (call (.type "dict") [v]) Q E s := by
  obtain ⟨a, o, kvs, rfl, _, hm, hdo, hn, hD, hpr⟩ := S.sdict h e
  refine kt_call_dict hn hD (by rw [hpr.length]; exact hz) fun h' hD' hsb => ?_
  obtain ⟨o', ho', hd'⟩ := Heap.dictOf_iff.mp hD'
  have hold : ∀ b x, s.heap.get? b = some x → h'.get? b = some x := fun b x e => (hsb.2 b (Nat.ne_of_lt (Heap.lt_size e))).trans (Heap.get?_push_of_some _ e)
  have F' := S.F.keeps hold
  have N' : News c.h₀ c.L h' ((s.heap.objs.size, o') :: news) := fun p hp => by
    rcases List.mem_cons.mp hp with rfl | hp
    · have := (S.N.push S.F emptyDict) _ (List.mem_cons_self)
      exact ⟨ho', this.2⟩
    · exact ⟨hold _ _ (S.N p hp).1, (S.N p hp).2⟩
  have hx : OR (G.K c.w.params) G.prog c.w ((s.heap.objs.size, o') :: news) (al ++ [(s.heap.objs.size, none)]) (s.heap.objs.size, none) (.sdict fs) := .sdict (List.mem_cons_self) hd' hsys (hpr.ext S.H (Ext.owned S.fresh))
  obtain ⟨S', X, r⟩ := S.newOwn (tk := s.toks) S.fresh F' N' hx
  exact hQ _ _ _ _ S' X r ⟨rfl, rfl⟩
theorem St.sys (hc : c.Ok G) (S : St G c CL ρ m s news al st) : (s.heap.objs.size == sysModules) = false := S.F.notModules (modules_low hc.T.nolimit)
end
section
open PySem.AutoSeq1 (wpAny_loadPart')
open PySem.MeetsSeq PySem.MeetsSeq2 PySem.MeetsSeq3
variable {prog : Program} {w : World}
def EqW (prog : Program) (w : World) (A : Around) (s : Shared) (y x : Value) (b : Bool) : Prop :=
  ∀ (E : Value → Shared → Prop) (Q : Bool → Shared → Prop), Q b s → wpAny (model prog w) A (eqBool y x) Q E s
theorem neW_loop (l b : Addr) (items items2 : Array Value) (n n2 : Nat) (dd dd2 : Option Addr) (sl sl2 : Array (Option Value)) (hsz : items.size = items2.size) (e : Nat → Bool) (k : Nat) :
    ∀ i : Nat, items.size - i = k → ∀ (A : Around) (R : Result → Shared → Prop) (s : Shared),
      (s.heap.get? l = some { cls := .type "list", dict := dd, data := .seq items n, slots := sl } ∧ s.heap.get? b = some { cls := .type "list", dict := dd2, data := .seq items2 n2, slots := sl2 } ∧
        (∀ j (h1 : j < items.size) (h2 : j < items2.size), EqW prog w A.in1 s items[j] items2[j] (e j)) ∧
        R (.ok (.ret (.bool (!((List.range items.size).drop i).all e)))) s) →
      wpAny (model prog w) A.in1 (Builtin.«list.__eq__.loop» ⟨[.ref l, .ref b, rawInt i, rawInt 3], []⟩)
        (fun fin s' => match fin with | .done f => R (.ok f) s' | .again c' => c'.quiet = true ∧ codeAny (model prog w) A c' R s') (fun e s' => R (.error e) s') s := by
  induction k with
  | zero =>
    intro i hk A R s h
    obtain ⟨hp, g, d, tk, os⟩ := s; obtain ⟨hl, hb, he, h⟩ := h
    wp_walk using wpAny_loadPart' hl, wpAny_loadPart' hb
    have hi1 : items[((i : Nat) : Int).toNat]? = none := by simp; lia
    have hi2 : items2[((i : Nat) : Int).toNat]? = none := by simp; lia
    have hd : (List.range items.size).drop i = [] := by simp; lia
    rw [hd] at h
    rw [hi1, hi2]
    wp_walk using wpAny_loadPart' hl, wpAny_loadPart' hb
    show R (.ok (.ret (.bool (items.size != items2.size)))) _
    rw [hsz]
    simpa using h
  | succ k ih =>
    intro i hk A R s h
    obtain ⟨hp, g, d, tk, os⟩ := s; obtain ⟨hl, hb, he, h⟩ := h
    wp_walk using wpAny_loadPart' hl, wpAny_loadPart' hb
    have hlt : i < items.size := by lia
    have hlt2 : i < items2.size := by lia
    have hi1 : items[((i : Nat) : Int).toNat]? = some items[i] := by simp [hlt]
    have hi2 : items2[((i : Nat) : Int).toNat]? = some items2[i] := by simp [hlt2]
    have hd : (List.range items.size).drop i = i :: (List.range items.size).drop (i + 1) := by simp [List.drop_eq_getElem_cons, hlt]
    have hc : ((i : Int) + 1) = ((i + 1 : Nat) : Int) := by push_cast; rfl
    rw [hd, List.all_cons] at h
    rw [hi1, hi2]
    refine wpAny_bind (he i hlt hlt2 _ _ ?_)
    cases hb' : e i with
    | true =>
      rw [hb'] at h
      wp_walk
      rw [hc]
      exact ⟨plainId_quiet plain_eq_loop _, codeAny_builtin entry_eq_loop (by
        rw [Around.under_plainId plain_eq_loop _]
        exact ih (i + 1) (by lia) A R _ ⟨hl, hb, he, by simpa using h⟩)⟩
    | false =>
      rw [hb'] at h
      wp_walk using wpAny_loadPart' hl, wpAny_loadPart' hb
      rw [hi1, hi2]
      wp_walk
      simpa using h
theorem neW_lists {l b : Addr} {items items2 : Array Value} {e : Nat → Bool} {A : Around} {s : Shared} {E : Value → Shared → Prop} {Q : Value → Shared → Prop} (hl : s.heap.IsList l items) (hb : s.heap.IsList b items2) (hsz : items.size = items2.size)
    (hu : A.units < cLine) (he : ∀ j (h1 : j < items.size) (h2 : j < items2.size), EqW prog w A.in1 s items[j] items2[j] (e j)) (hQ : Q (.bool (!(List.range items.size).all e)) s) :
    wpAny (model prog w) A (compareOp .NotEq (.ref l) (.ref b)) Q E s := by
  obtain ⟨⟨cls, dd, data, sl⟩, ho, hc, n, hd⟩ := id hl
  obtain ⟨⟨cls2, dd2, data2, sl2⟩, ho2, hc2, n2, hd2⟩ := id hb
  simp only at hc hd hc2 hd2
  subst hc hd hc2 hd2
  refine wpAny_richCompare_same_room (op := .NotEq) ⟨_, ho, rfl⟩ ⟨_, ho2, rfl⟩ PySem.F.slot_list_ne (wpAny_call (codeAny_call_builtin PySem.F.slot_list_ne.plain PySem.F.entry_list_ne (PySem.F.slot_list_ne.check _ _ _ _ _ _ _ _ ⟨_, ho, rfl⟩ (PySem.F.args_list_ne_2 _ _) ?_))) hu
  obtain ⟨hp, g, d, tk, os⟩ := s
  have f3 := AutoSeq1.sub_list_list
  have hne : ¬ (items.size != items2.size) = true := by simp [hsz]
  wp_walk using wpAny_loadPart' ho, wpAny_loadPart' ho2
  exact ⟨plainId_quiet plain_eq_loop _, codeAny_builtin entry_eq_loop (by
    rw [Around.under_plainId plain_eq_loop _]
    exact neW_loop l b items items2 n n2 dd dd2 sl sl2 hsz e _ 0 rfl A (wants (fun v s' => v ≠ .notImplemented ∧ Q v s') E) _ ⟨ho, ho2, he, show Value.bool (!((List.range items.size).drop 0).all e) ≠ Value.notImplemented ∧ Q (.bool (!((List.range items.size).drop 0).all e)) _ from ⟨(fun x => nomatch x), by simpa using hQ⟩⟩)⟩
end
def hitsV (g : List (Str × V)) : List (Str × V) → Option Bool
  | [] => some true
  | (k, v) :: r => match g.lookup k with
    | none => some false
    | some y => (eq0 v y).bind fun t => (hitsV g r).bind fun b => some (t && b)
def eqD (st : Sto) (j k : Nat) : Option Bool := (dicAt st j).bind fun f => (dicAt st k).bind fun g => if f.length = g.length then hitsV g f else some false
def eqEl (st : Sto) (y z : V) : Option Bool := (y.hnd?.bind fun j => z.hnd?.bind fun k => if j = k then some true else eqD st j k).or (eq0 y z)
noncomputable def eqDs (st : Sto) : List V → List V → Option (List Bool)
  | [], [] => some []
  | y :: r, z :: r' => (eqEl st y z).bind fun b => (eqDs st r r').bind fun bs => some (b :: bs)
  | _, _ => none
def neL (st : Sto) (l l' : List V) : Option Bool := if l.length = l'.length then (eqDs st l l').bind fun bs => some (!bs.all id) else some true
def neX (a b : V) (st : Sto) : Option Bool := a.hnd?.bind fun j => b.hnd?.bind fun k => ((eqD st j k).bind fun b => some (!b)).or ((lstAt st j).bind fun l => (lstAt st k).bind fun l' => neL st l l')
def cmpX (op : CmpOp) (a b : V) (st : Sto) : Option Bool := (cmpV op a b).or (match op with
    | .NotEq => neX a b st
    | _ => none)
section
variable {G : Pg} {c : Act} {k : Nat} {q : Bool} {CL : List (Str × Nat)} {ρ : List (Str × V)} {m : Str → Option Value} {s s' : Shared} {news news' : Led} {al al' : Al} {st st' : Sto} {A : Around} {E : Value → Shared → Prop}
theorem EqW.dat {v u : Value} {d e : PyData} {as bs : List Addr} (r1 : Reads s.heap v d as) (r2 : Reads s.heap u e bs) (h1 : SeqAt.shaped d = true) (h2 : SeqAt.shaped e = true) (hu : A.units + 64 < cLine) : EqW G.prog c.w A s v u (PyData.eqv d e) :=
  fun E Q h => SeqAt.eqAt_reads d e A s v u as bs r1 r2 (SeqAt.canLay_of_shaped h1) (SeqAt.canLay_of_shaped h2) (SeqAt.room_of_shaped h1 hu) G.prog c.w E Q h
theorem hitsV_sound (hc : c.Ok G) (S : St G c CL ρ m s news al st) (hu : A.units + 64 < cLine) {kb : List (Str × Value)} {g : List (Str × V)} (hb : PR (G.K c.w.params) news al kb g) {ka : List (Str × Value)} {f : List (Str × V)} (h : PR (G.K c.w.params) news al ka f) : ∀ {b : Bool}, hitsV g f = some b → KeqHits A s kb ka b := by
  induction h with
  | nil => exact fun e => sInj e ▸ .nil
  | @cons k v y es fs h hs ih =>
    intro b e
    unfold hitsV at e
    cases e1 : g.lookup k with
    | none => rw [e1] at e; exact sInj e ▸ .miss ((hb.at_ _).2 e1)
    | some y' =>
      rw [e1] at e
      obtain ⟨v, e2, R2⟩ := (hb.at_ _).1 y' e1
      refine bindE e fun t e3 e => bindE e fun b' e5 e => eq0_reads hc S h R2 e3 fun d d' as bs r1 r2 s1 s2 e4 => ?_
      exact sInj e ▸ e4 ▸ .hit e2 (SeqAt.eqAt_reads d d' A s _ _ as bs r1 r2 (SeqAt.canLay_of_shaped s1) (SeqAt.canLay_of_shaped s2) (SeqAt.room_of_shaped s1 hu)) (ih e5)
theorem eqD_sound (hc : c.Ok G) (S : St G c CL ρ m s news al st) (hu : A.units + 72 < cLine) {u v : Value} {i j : Nat} {b : Bool} (h1 : VR (G.K c.w.params) news al u (.hnd i)) (h2 : VR (G.K c.w.params) news al v (.hnd j)) (e : eqD st i j = some b) :
    (∀ (E : Value → Shared → Prop) (Q : Value → Shared → Prop), Q (.bool b) s → wpAny (model G.prog c.w) A (compareOp .Eq u v) Q E s) ∧
    (∀ (E : Value → Shared → Prop) (Q : Value → Shared → Prop), Q (.bool (!b)) s → wpAny (model G.prog c.w) A (compareOp .NotEq u v) Q E s) := by
  refine bindE e fun f e1 e => bindE e fun g e2 e => ?_
  obtain ⟨a1, o1, k1, rfl, _, _, _, n1, d1, p1⟩ := S.sdict h1 (dicAt_of e1)
  obtain ⟨a2, o2, k2, rfl, _, _, _, n2, d2, p2⟩ := S.sdict h2 (dicAt_of e2)
  have key : ∃ r, (k1.length = k2.length → KeqHits A.in1 s k2 k1 r) ∧ ((k1.length == k2.length) && r) = b := by
    rw [p1.length, p2.length]
    refine iteE e (fun hl e => ⟨b, fun _ => hitsV_sound (A := A.in1) hc S (by show A.units + 1 + 64 < cLine; lia) p2 p1 e, ?_⟩) fun hl e => ⟨false, fun z => absurd z hl, ?_⟩
    · rw [beq_iff_eq.mpr hl]; rfl
    · rw [Bool.and_false]; exact sInj e
  obtain ⟨r, hit, e3⟩ := key
  exact ⟨fun E Q h => keq_eq n1 n2 d1 d2 (by lia) hit (e3 ▸ h), fun E Q h => keq_ne n1 n2 d1 d2 (by lia) hit (e3 ▸ h)⟩
theorem eqEl_sound (hc : c.Ok G) (S : St G c CL ρ m s news al st) (hu : A.units + 72 < cLine) {u v : Value} {y z : V} {b : Bool} (h : VR (G.K c.w.params) news al u y) (h' : VR (G.K c.w.params) news al v z) (e : eqEl st y z = some b) : EqW G.prog c.w A s u v b := by
  refine orE e (fun e => bindE e fun j e1 e => bindE e fun k e2 e => ?_) fun e => eq0_reads hc S h h' e fun d d' as bs r1 r2 s1 s2 e4 => e4 ▸ EqW.dat r1 r2 s1 s2 (by lia)
  obtain ⟨a, e3, p, g⟩ := (V.hnd_of e1 ▸ h : VR _ _ _ u (.hnd j)).inv
  obtain ⟨a', e3', p', g'⟩ := (V.hnd_of e2 ▸ h' : VR _ _ _ v (.hnd k)).inv
  rw [e3, e3']
  refine iteE e (fun hjk e => ?_) fun hjk e => ?_
  · rw [hjk, g'] at g
    rw [← sInj e, ← (Prod.mk.inj (sInj g)).1]
    exact fun E Q hq => SeqAt.EqAt.same _ G.prog c.w E Q hq
  · have r1 := (eqD_sound (A := A) hc S hu (.hnd g) (.hnd g') e).1
    intro E Q hq
    unfold eqBool
    exact wpAny_holding (wpAny_ite_split (fun hab => (flat_disj S.H.nda g g' hjk (.inl rfl) (.inl (Value.ref.inj (eq_of_beq hab)))).elim) fun _ => wpAny_bind (r1 E _ (wpAny_truthy_bool hq)))
theorem eqDs_sound (hc : c.Ok G) (S : St G c CL ρ m s news al st) (hu : A.units + 72 < cLine) {vs : List Value} {l : List V} (h : VRs (G.K c.w.params) news al vs l) : ∀ {us : List Value} {l' : List V} {bs : List Bool}, VRs (G.K c.w.params) news al us l' → eqDs st l l' = some bs →
    bs.length = vs.length ∧ ∀ j (h1 : j < vs.length) (h2 : j < us.length), EqW G.prog c.w A s vs[j] us[j] (bs[j]?.getD true) := by
  induction h using VRs.ind with
  | nil =>
    intro us l' bs h' e
    cases l' with
    | nil => exact sInj e ▸ ⟨rfl, nofun⟩
    | cons z r' => exact noS e
  | @cons v y vs l h hs ih =>
    intro us l' bs h' e
    cases l' with
    | nil => exact noS e
    | cons z r' =>
      obtain ⟨u, us', e0, g, gs⟩ := h'.inv
      subst e0
      refine bindE e fun b e1 e => bindE e fun bs' e2 e => ?_
      rw [← sInj e]
      obtain ⟨i1, i2⟩ := ih gs e2
      refine ⟨congrArg (· + 1) i1, fun j g1 g2 => ?_⟩
      cases j with
      | zero => exact eqEl_sound hc S hu h g e1
      | succ j => exact i2 j (Nat.lt_of_succ_lt_succ g1) (Nat.lt_of_succ_lt_succ g2)
theorem all_get {bs : List Bool} {n : Nat} (h : bs.length = n) : (List.range n).all (fun j => bs[j]?.getD true) = bs.all id := by
  rw [← h]
  induction bs generalizing n with
  | nil => rfl
  | cons b bs ih => rw [List.length_cons, List.range_succ_eq_map, List.all_cons, List.all_map, List.all_cons]; exact congrArg (b && ·) (ih rfl)
theorem neX_sound (hc : c.Ok G) (hA : Ar c k q A) (S : St G c CL ρ m s news al st) {v1 v2 : Value} {y1 y2 : V} {b : Bool} {Q : Value → Shared → Prop} (h1 : VR (G.K c.w.params) news al v1 y1) (h2 : VR (G.K c.w.params) news al v2 y2) (e : neX y1 y2 st = some b)
    (hQ : Q (.bool b) s) : wpAny (model G.prog c.w) A (compareOp .NotEq v1 v2) Q E s := by
  have hu : A.units + 100 < cLine := by have := hA.un; lia
  refine bindE e fun j e1 e => bindE e fun k e2 e => orE e (fun e => bindE e fun b' e3 e => ?_) fun e => bindE e fun l e3 e => bindE e fun l' e4 e => ?_
  · exact (eqD_sound hc S (by lia) (V.hnd_of e1 ▸ h1) (V.hnd_of e2 ▸ h2) e3).2 E Q (sInj e ▸ hQ)
  · obtain ⟨a, e5, h1⟩ := h1.vhnd e1
    obtain ⟨a', e6, h2⟩ := h2.vhnd e2
    rw [e5, e6]
    obtain ⟨vs, n, _, _, t1, r1⟩ := S.list h1 (lstAt_of e3)
    obtain ⟨us, n', _, _, t2, r2⟩ := S.list h2 (lstAt_of e4)
    refine iteE e (fun hl e => bindE e fun bs e3 e => ?_) fun hl e => ?_
    · obtain ⟨i1, i2⟩ := eqDs_sound (A := A.in1) hc S (by show A.units + 1 + 72 < cLine; lia) r1 r2 e3
      exact neW_lists (e := fun j => bs[j]?.getD true) t1 t2 (r1.length.trans (hl.trans r2.length.symm)) (by lia) (fun j g1 g2 => i2 j g1 g2) (all_get (n := vs.toArray.size) i1 ▸ sInj e ▸ hQ)
    · exact SeqAt.RcNeAt.lists_lengths t1 t2 (bne_iff_ne.mpr fun z => hl (r1.length.symm.trans (Eq.trans z r2.length))) (by lia) G.prog c.w E Q (sInj e ▸ hQ)
theorem cmpX_sound (hc : c.Ok G) (hA : Ar c k q A) (S : St G c CL ρ m s news al st) {op : CmpOp} {v1 v2 : Value} {y1 y2 : V} {b : Bool} {Q : Value → Shared → Prop} (h1 : VR (G.K c.w.params) news al v1 y1) (h2 : VR (G.K c.w.params) news al v2 y2) (e : cmpX op y1 y2 st = some b)
    (hQ : ∀ s', s'.heap = s.heap → Same s s' → Q (.bool b) s') : wpAny (model G.prog c.w) A (compareOp op v1 v2) Q E s := by
  refine orE e (fun e => cmpV_sound hc hA S h1 h2 e (hQ s rfl .refl)) fun e => ?_
  cases op with
  | NotEq => exact neX_sound hc hA S h1 h2 e (hQ s rfl .refl)
  | _ => exact noS e
end
def O.cel : O → Option V
  | .cell y => y
  | _ => none
def celV (CL : List (Str × Nat)) (x : Str) (st : Sto) : Option V := (CL.lookup x).bind fun k => st[k]?.bind O.cel
def nameK (G : Pg) (CL : List (Str × Nat)) (ρ : List (Str × V)) (x : Str) (st : Sto) : NameKind → Option V
  | .local => ρ.lookup x
  | .cell => celV CL x st
  | .free => celV CL x st
  | .globalImplicit => G.gl x
  | _ => none
noncomputable def nameM (G : Pg) (sc : Scope) (CL : List (Str × Nat)) (ρ : List (Str × V)) (x : Str) : M V := fun st =>
  (if x == ("__debug__" : Str) || x == ("__classdict__" : Str) then none else (sc.names.lookup x).bind (nameK G CL ρ x st)).map fun y => (.ok y, st)
def constV : Const → Option V
  | .none => some .none
  | .bool b => some (.bool b)
  | .int i => some (.int i)
  | .str x => some (.str x)
  | _ => none
def unV (op : UnaryOp) (y : V) (st : Sto) : Option V := match op with
  | .USub => y.int?.map fun i => .int (-i)
  | .Not => (truthV y st).map fun b => .bool (!b)
  | _ => none
def still {α : Type} (f : Sto → Option α) : M α := fun st => (f st).map fun a => (.ok a, st)
section
variable {G : Pg} {c : Act} {k : Nat} {q : Bool} {CL : List (Str × Nat)} {ρ : List (Str × V)} {m : Str → Option Value} {s s' : Shared} {news news' : Led} {al al' : Al} {st st' : Sto} {A : Around} {E : Value → Shared → Prop}
set_option tactic.hygienic true in
theorem env_kind (hc : c.Ok G) : c.env.scope.kind = .function := by
  unfold Act.env
  split
  · exact hc.hk
  · rename_i C sc cl h
    show (relabel sc c.fenv).kind = _
    exact hc.hc C sc cl h
theorem env_kindOf {x : Str} {kd : NameKind} (h : c.nsc.names.lookup x = some kd) : c.env.kindOf x = some kd := by
  unfold Act.env Act.nsc at *
  unfold Env.kindOf
  split <;> rename_i e <;> rw [e] at h <;> exact h
theorem env_globals : c.env.globals = mainGlobals ∧ c.env.builtins = builtinsNs := by
  unfold Act.env
  split <;> exact ⟨rfl, rfl⟩
theorem env_cells : c.env.cells = c.ncl := by
  unfold Act.env Act.ncl
  split <;> rfl
theorem St.celV (S : St G c CL ρ m s news al st) {x : Str} {y : V} (e : celV CL x st = some y) : ∃ a v o, c.ncl.lookup x = some a ∧ s.heap.get? a = some o ∧ o.data = .cell (some v) ∧ VR (G.K c.w.params) news al v y :=
  bindE e fun k h1 e => bindE e fun o h2 e => by
    obtain ⟨a, h3, h4⟩ := S.C _ _ h1
    cases o with
    | cell y' =>
      obtain ⟨_, ob, v, g1, g2, g3⟩ := (S.H.obj _ _ _ h4 h2).inv
      obtain ⟨u, g4, g5⟩ := g3 y e
      exact ⟨a, u, ob, h3, S.N.get g1, g4 ▸ g2, g5⟩
    | _ => exact noS e
theorem Sound.name (hG : G.Ok) (hc : c.Ok G) {x : Str} {pos : Pos} : Sound G c k q CL ρ relV (eval (.Name x pos) c.env) (nameM G c.nsc CL ρ x) := by
  intro st r e A s m news al Q E hA S hE hQ
  refine mapE e fun y e e2 => iteE e (fun _ e => noS e) fun hdb e => bindE e fun kd hk e => ?_
  rw [Bool.or_eq_true, not_or, Bool.not_eq_true, Bool.not_eq_true] at hdb
  have H : ∀ v s', s'.heap = s.heap → Same s s' → VR (G.K c.w.params) news al v y → Q v s' := fun v s' e3 G R => hQ y st e2.symm v s' news al (S.at e3) Ext.refl R G
  cases kd with
  | «local» =>
    obtain ⟨v, h1, h2⟩ := S.R x y e
    have hns : ∃ mm, s.heap.Ns c.env.locals mm ∧ mm x = some v := by
      unfold Act.Look at h1
      unfold Act.env
      cases ec : c.comp with
      | none => rw [ec] at h1; exact ⟨m, S.F.ns, h1⟩
      | some p =>
        rw [ec] at h1
        obtain ⟨oC, mm, g1, g2, g3, g4⟩ := h1
        exact ⟨mm, g3.ns (S.N.get g1), g4⟩
    obtain ⟨mm, g1, g2⟩ := hns
    exact wpAny_Name (wpAny_loadName_local (env_kind hc) (env_kindOf hk) g1 g2 (H v s rfl .refl h2)) hdb.1
  | cell =>
    obtain ⟨a, v, o, h1, h2, h3, h4⟩ := S.celV e
    exact wpAny_Name (wpAny_loadName_cell (env_kind hc) (env_kindOf hk) (env_cells ▸ h1) ⟨_, h2, h3⟩ (H v s rfl .refl h4)) hdb.1
  | free =>
    obtain ⟨a, v, o, h1, h2, h3, h4⟩ := S.celV e
    exact wpAny_Name (wpAny_loadName_free (env_kind hc) (env_kindOf hk) (env_cells ▸ h1) ⟨_, h2, h3⟩ (H v s rfl .refl h4) hdb.2) hdb.1
  | globalImplicit =>
    have T := topRead_of hc.T
    have hg := env_globals (c := c)
    rcases hG.gl c.w.params x y e with ⟨v, h1, h2⟩ | ⟨v, h1, h2, h3, h4⟩
    · exact Name_function_global (env_kind hc) (env_kindOf hk) (loadGlobal_global (by rw [hg.1]; exact T.g.keeps S.F.keep) (mg_of hc.X T.g h1) (H v s rfl .refl (h2 _ _))) hdb.1
    · exact Name_function_global (env_kind hc) (env_kindOf hk) (loadGlobal_builtin (by rw [hg.1]; exact T.g.keeps S.F.keep) (mg_none_of hc.X T.g h1) (by rw [hg.2]; exact T.b.keeps S.F.keep) ((T.builtins x h3).trans h2) (H v s rfl .refl (h4 _ _))) hdb.1
  | _ => exact noS e
theorem ofOpt_some {α : Type} {o : Option α} {r : Except Addr α × Sto} (e : ofOpt o st = some r) : ∃ y, o = some y ∧ r = (.ok y, st) := by
  cases o with
  | none => exact noS e
  | some y => exact ⟨y, rfl, (sInj e).symm⟩
theorem still_go {α β : Type} {f : Sto → Option α} {g : α → M β} {r : Except Addr β × Sto} {P : Prop} (e : M.bind (still f) g st = some r) (k : ∀ b, f st = some b → g b st = some r → P) : P := by
  unfold M.bind still at e
  cases h : f st with
  | none => rw [h] at e; exact noS e
  | some b => rw [h] at e; exact k b h e
theorem Sound.const {x : Const} {n : Nat} {pos : Pos} : Sound G c k q CL ρ relV (eval (.Constant x n pos) c.env) (ofOpt (constV x)) := by
  intro st r e A s m news al Q E hA S hE hQ
  have H : ∀ v s', s'.heap = s.heap → Same s s' → (∀ y, constV x = some y → VR (G.K c.w.params) news al v y) → Q v s' := fun v s' e3 G R => by
    obtain ⟨y, hy, e⟩ := ofOpt_some e
    exact hQ _ _ e _ _ news al (S.at e3) Ext.refl (R y hy) G
  cases x with
  | none => exact wpAny_Constant_none (H _ s rfl .refl fun y e => sInj e ▸ .none)
  | bool => exact wpAny_Constant_bool (H _ s rfl .refl fun y e => sInj e ▸ .bool)
  | int => exact wpAny_Constant_int (H _ _ rfl ⟨rfl, rfl⟩ fun y e => sInj e ▸ .int)
  | str => exact Calls.Constant_str (H _ _ rfl ⟨rfl, rfl⟩ fun y e => sInj e ▸ .str)
  | _ => exact noS e
theorem ErrK.no {α : Type} {y : α} {st' : Sto} : ErrK c m E s news al (.ok y, st') := fun C st' x => by cases x
theorem Sound.unop (hc : c.Ok G) {x : Expr} {op : UnaryOp} {pos : Pos} {m1 : M V} (h1 : Sound G c k q CL ρ relV (eval x c.env) m1) :
    Sound G c k q CL ρ relV (eval (.UnaryOp op x pos) c.env) (M.bind m1 fun a => still fun st => unV op a st) := by
  intro st r e A s m news al Q E hA S hE hQ
  refine UnaryOp_ (h1.go e hA S hE fun a st1 e1 v1 s1 n1 a1 S1 X1 R1 G1 => mapE e1 fun y e2 e3 => ?_)
  cases op with
  | USub =>
    exact mapE e2 fun i e4 e5 => by
      obtain ⟨t, e6⟩ := R1.vint e4
      exact e6 ▸ PySem.P.neg_int (hQ _ _ e3.symm _ _ n1 a1 (S1.at rfl) X1 (e5 ▸ .int) (G1.trans ⟨rfl, rfl⟩))
  | Not => exact mapE e2 fun b e4 e5 => not_of (truthV_sound hc S1 R1 e4 fun c' s2 n2 a2 S2 X2 R2 G2 =>
      hQ _ _ e3.symm _ _ n2 a2 S2 (X1.trans S.H X2) (e5 ▸ (show c' = b from R2) ▸ .bool) (G1.trans G2))
  | _ => exact noS e2
theorem Sound.cmp (hc : c.Ok G) {l r : Expr} {op : CmpOp} {pos : Pos} {m1 m2 : M V} (hm : behindInMarks op r = false) (h1 : Sound G c k q CL ρ relV (eval l c.env) m1) (h2 : Sound G c k q CL ρ relV (eval r c.env) m2) :
    Sound G c k q CL ρ relV (eval (.Compare l [op] [r] pos) c.env) (M.bind m1 fun a => M.bind m2 fun b => still fun st => (cmpX op a b st).map V.bool) := by
  intro st r e A s m news al Q E hA S hE hQ
  refine wpAny_Compare1 (h1.go e hA S hE fun a st1 e1 v1 s1 n1 a1 S1 X1 R1 G1 => ?_) hm
  refine h2.go e1 hA S1 (hE.step S X1 G1) fun b st2 e2 v2 s2 n2 a2 S2 X2 R2 G2 => ?_
  obtain ⟨y, e3, rfl⟩ := Option.map_eq_some_iff.mp e2
  obtain ⟨z, e4, rfl⟩ := Option.map_eq_some_iff.mp e3
  exact cmpX_sound hc hA S2 (R1.ext S1.H X2) R2 e4 fun s3 e5 G3 => hQ _ _ rfl _ s3 n2 a2 (S2.at e5) (X1.trans S.H X2) .bool (G1.trans (G2.trans G3))
theorem Sound.cmpT (hc : c.Ok G) {l r : Expr} {op : CmpOp} {pos : Pos} {whole : Sem Value} {m1 m2 : M V} (hm : behindInMarks op r = false) (h1 : Sound G c k q CL ρ relV (eval l c.env) m1) (h2 : Sound G c k q CL ρ relV (eval r c.env) m2) :
    Sound G c k q CL ρ relB (isTrue (.Compare l [op] [r] pos) c.env whole) (M.bind m1 fun a => M.bind m2 fun b => still fun st => cmpX op a b st) := by
  intro st r e A s m news al Q E hA S hE hQ
  refine wpAny_isTrue_Compare1 (h1.go e hA S hE fun a st1 e1 v1 s1 n1 a1 S1 X1 R1 G1 => ?_) hm
  refine h2.go e1 hA S1 (hE.step S X1 G1) fun b st2 e2 v2 s2 n2 a2 S2 X2 R2 G2 => ?_
  obtain ⟨z, e4, rfl⟩ := Option.map_eq_some_iff.mp e2
  exact cmpX_sound hc hA S2 (R1.ext S1.H X2) R2 e4 fun s3 e5 G3 => wpAny_truthy_bool (hQ _ _ rfl _ s3 n2 a2 (S2.at e5) (X1.trans S.H X2) rfl (G1.trans (G2.trans G3)))
theorem Sound.plainT (hc : c.Ok G) {e : Expr} {m1 : M V} (he : isTrue e c.env (eval e c.env) = (do let v ← eval e c.env; standAt e.pos; holding [v] (truthy v))) (h1 : Sound G c k q CL ρ relV (eval e c.env) m1) :
    Sound G c k q CL ρ relB (isTrue e c.env (eval e c.env)) (M.bind m1 fun a => still fun st => truthV a st) := by
  intro st r e A s m news al Q E hA S hE hQ
  refine isTrue_plain (h1.go e hA S hE fun a st1 e1 v1 s1 n1 a1 S1 X1 R1 G1 => ?_) he
  obtain ⟨z, e4, rfl⟩ := Option.map_eq_some_iff.mp e1
  exact truthV_sound hc S1 R1 e4 fun b s2 n2 a2 S2 X2 R2 G2 => hQ _ _ rfl b s2 n2 a2 S2 (X1.trans S.H X2) R2 (G1.trans G2)
theorem Sound.notT {x : Expr} {pos : Pos} {whole : Sem Value} {m1 : M Bool} (h1 : Sound G c k q CL ρ relB (isTrue x c.env (eval x c.env)) m1) :
    Sound G c k q CL ρ relB (isTrue (.UnaryOp .Not x pos) c.env whole) (M.bind m1 fun b => M.pure (!b)) := by
  intro st r e A s m news al Q E hA S hE hQ
  refine isTrue_not (h1.go e hA S hE fun a st1 e1 v1 s1 n1 a1 S1 X1 R1 G1 => ?_)
  induction e1 using E1; induction R1 using E8
  exact hQ _ _ rfl _ s1 n1 a1 S1 X1 rfl G1
def iteM {α : Type} (b : Bool) (x y : M α) : M α := fun st => match b with
  | true => x st
  | false => y st
theorem Sound.ifT {t a b : Expr} {pos : Pos} {whole : Sem Value} {mt ma mb : M Bool} (ht : Sound G c k q CL ρ relB (isTrue t c.env (eval t c.env)) mt) (ha : Sound G c k q CL ρ relB (isTrue a c.env (eval a c.env)) ma) (hb : Sound G c k q CL ρ relB (isTrue b c.env (eval b c.env)) mb) :
    Sound G c k q CL ρ relB (isTrue (.IfExp t a b pos) c.env whole) (M.bind mt fun x => iteM x ma mb) := by
  intro st r e A s m news al Q E hA S hE hQ
  refine isTrue_IfExp (ht.go e hA S hE fun z st1 e1 v1 s1 n1 a1 S1 X1 R1 G1 => ?_)
  cases R1
  cases z
  · exact hb st1 r e1 A s1 m n1 a1 Q E hA S1 (hE.step S X1 G1) fun y st' x v s' n' a' S' X' R' G' => hQ y st' x v s' n' a' S' (X1.trans S.H X') R' (G1.trans G')
  · exact ha st1 r e1 A s1 m n1 a1 Q E hA S1 (hE.step S X1 G1) fun y st' x v s' n' a' S' X' R' G' => hQ y st' x v s' n' a' S' (X1.trans S.H X') R' (G1.trans G')
theorem Sound.ifE {t a b : Expr} {pos : Pos} {mt : M Bool} {ma mb : M V} (ht : Sound G c k q CL ρ relB (isTrue t c.env (eval t c.env)) mt) (ha : Sound G c k q CL ρ relV (eval a c.env) ma) (hb : Sound G c k q CL ρ relV (eval b c.env) mb) :
    Sound G c k q CL ρ relV (eval (.IfExp t a b pos) c.env) (M.bind mt fun x => iteM x ma mb) := by
  intro st r e A s m news al Q E hA S hE hQ
  refine IfExp_ (ht.go e hA S hE fun z st1 e1 v1 s1 n1 a1 S1 X1 R1 G1 => ?_)
  cases R1
  cases z
  · exact hb st1 r e1 A s1 m n1 a1 Q E hA S1 (hE.step S X1 G1) fun y st' x v s' n' a' S' X' R' G' => hQ y st' x v s' n' a' S' (X1.trans S.H X') R' (G1.trans G')
  · exact ha st1 r e1 A s1 m n1 a1 Q E hA S1 (hE.step S X1 G1) fun y st' x v s' n' a' S' X' R' G' => hQ y st' x v s' n' a' S' (X1.trans S.H X') R' (G1.trans G')
def allT (f : Expr → M Bool) : List Expr → M Bool
  | [] => M.pure true
  | x :: r => M.bind (f x) fun b => iteM b (allT f r) (M.pure false)
def anyT (f : Expr → M Bool) : List Expr → M Bool
  | [] => M.pure false
  | x :: r => M.bind (f x) fun b => iteM b (M.pure true) (anyT f r)
theorem Sound.andT {f : Expr → M Bool} {pos : Pos} {whole : Sem Value} : ∀ {xs : List Expr}, (∀ x ∈ xs, Sound G c k q CL ρ relB (isTrue x c.env (eval x c.env)) (f x)) → Sound G c k q CL ρ relB (isTrue (.BoolOp .And xs pos) c.env whole) (allT f xs)
  | [], _ => by
    intro st r e A s m news al Q E hA S hE hQ
    cases e
    exact isTrue_and_nil (hQ _ _ rfl _ s news al S Ext.refl rfl .refl)
  | x :: xs, h => by
    intro st r e A s m news al Q E hA S hE hQ
    refine isTrue_and ((h x (.head _)).go e hA S hE fun z st1 e1 v1 s1 n1 a1 S1 X1 R1 G1 => ?_)
    cases R1
    cases z
    · cases e1; exact hQ _ _ rfl _ s1 n1 a1 S1 X1 rfl G1
    · exact Sound.andT (fun y hy => h y (.tail _ hy)) st1 r e1 A s1 m n1 a1 Q E hA S1 (hE.step S X1 G1) fun y st' x v s' n' a' S' X' R' G' => hQ y st' x v s' n' a' S' (X1.trans S.H X') R' (G1.trans G')
theorem Sound.orT {f : Expr → M Bool} {pos : Pos} {whole : Sem Value} : ∀ {xs : List Expr}, (∀ x ∈ xs, Sound G c k q CL ρ relB (isTrue x c.env (eval x c.env)) (f x)) → Sound G c k q CL ρ relB (isTrue (.BoolOp .Or xs pos) c.env whole) (anyT f xs)
  | [], _ => by
    intro st r e A s m news al Q E hA S hE hQ
    cases e
    exact isTrue_or_nil (hQ _ _ rfl _ s news al S Ext.refl rfl .refl)
  | x :: xs, h => by
    intro st r e A s m news al Q E hA S hE hQ
    refine isTrue_or ((h x (.head _)).go e hA S hE fun z st1 e1 v1 s1 n1 a1 S1 X1 R1 G1 => ?_)
    cases R1
    cases z
    · exact Sound.orT (fun y hy => h y (.tail _ hy)) st1 r e1 A s1 m n1 a1 Q E hA S1 (hE.step S X1 G1) fun y st' x v s' n' a' S' X' R' G' => hQ y st' x v s' n' a' S' (X1.trans S.H X') R' (G1.trans G')
    · cases e1; exact hQ _ _ rfl _ s1 n1 a1 S1 X1 rfl G1
def andV (f : Expr → M V) : Expr → List Expr → M V
  | x, [] => f x
  | x, y :: r => M.bind (f x) fun a => M.bind (still fun st => truthV a st) fun b => iteM b (andV f y r) (M.pure a)
def orV (f : Expr → M V) : Expr → List Expr → M V
  | x, [] => f x
  | x, y :: r => M.bind (f x) fun a => M.bind (still fun st => truthV a st) fun b => iteM b (M.pure a) (orV f y r)
theorem Sound.andE (hc : c.Ok G) {f : Expr → M V} {pos : Pos} : ∀ {xs : List Expr} {x : Expr}, (∀ y ∈ x :: xs, Sound G c k q CL ρ relV (eval y c.env) (f y)) → Sound G c k q CL ρ relV (eval (.BoolOp .And (x :: xs) pos) c.env) (andV f x xs)
  | [], x, h => fun st r e A s m news al Q E hA S hE hQ => BoolOp_one (h x (.head _) st r e A s m news al Q E hA S hE hQ)
  | y :: xs, x, h => by
    intro st r e A s m news al Q E hA S hE hQ
    refine BoolOp_and ((h x (.head _)).go e hA S hE fun z st1 e1 v1 s1 n1 a1 S1 X1 R1 G1 => ?_)
    refine still_go e1 fun b e2 e1 => ?_
    · refine truthV_sound hc S1 R1 e2 fun b' s2 n2 a2 S2 X2 R2 G2 => ?_
      cases R2
      cases b
      · cases e1; exact hQ _ _ rfl _ s2 n2 a2 S2 (X1.trans S.H X2) (R1.ext S1.H X2) (G1.trans G2)
      · exact Sound.andE hc (fun y hy => h y (.tail _ hy)) st1 r e1 A s2 m n2 a2 Q E hA S2 ((hE.step S X1 G1).step S1 X2 G2) fun y st' x v s' n' a' S' X' R' G' => hQ y st' x v s' n' a' S' (X1.trans S.H (X2.trans S1.H X')) R' (G1.trans (G2.trans G'))
theorem Sound.orE (hc : c.Ok G) {f : Expr → M V} {pos : Pos} : ∀ {xs : List Expr} {x : Expr}, (∀ y ∈ x :: xs, Sound G c k q CL ρ relV (eval y c.env) (f y)) → Sound G c k q CL ρ relV (eval (.BoolOp .Or (x :: xs) pos) c.env) (orV f x xs)
  | [], x, h => fun st r e A s m news al Q E hA S hE hQ => BoolOp_one (h x (.head _) st r e A s m news al Q E hA S hE hQ)
  | y :: xs, x, h => by
    intro st r e A s m news al Q E hA S hE hQ
    refine BoolOp_or ((h x (.head _)).go e hA S hE fun z st1 e1 v1 s1 n1 a1 S1 X1 R1 G1 => ?_)
    refine still_go e1 fun b e2 e1 => ?_
    · refine truthV_sound hc S1 R1 e2 fun b' s2 n2 a2 S2 X2 R2 G2 => ?_
      cases R2
      cases b
      · exact Sound.orE hc (fun y hy => h y (.tail _ hy)) st1 r e1 A s2 m n2 a2 Q E hA S2 ((hE.step S X1 G1).step S1 X2 G2) fun y st' x v s' n' a' S' X' R' G' => hQ y st' x v s' n' a' S' (X1.trans S.H (X2.trans S1.H X')) R' (G1.trans (G2.trans G'))
      · cases e1; exact hQ _ _ rfl _ s2 n2 a2 S2 (X1.trans S.H X2) (R1.ext S1.H X2) (G1.trans G2)
end
def noStar : Expr → Bool
  | .Starred _ _ => false
  | _ => true
def okBase : Expr → Bool
  | .Name _ _ | .Attribute _ _ _ | .Subscript _ _ _ | .Call (.Attribute _ _ _) _ _ _ => true
  | _ => false
def evList (f : Expr → M V) : List Expr → M (List V)
  | [] => M.pure []
  | e :: r => M.bind (f e) fun a => M.bind (evList f r) fun l => M.pure (a :: l)
def callO : O → Bool
  | .lam _ _ _ _ _ => true
  | _ => false
def callable (G : Pg) (f : V) (st : Sto) : Bool := match f with
  | .bi _ => true
  | .ty _ => true
  | .glob a => G.keep a
  | .hnd k => ((st[k]?).map callO).getD false
  | _ => false
section
variable {G : Pg} {c : Act} {k : Nat} {q : Bool} {CL : List (Str × Nat)} {ρ : List (Str × V)} {m : Str → Option Value} {s s' : Shared} {news news' : Led} {al al' : Al} {st st' : Sto} {A : Around} {E : Value → Shared → Prop} {pos : Pos}
theorem star_no {e : Expr} {rest : List Expr} {env : Env} (h : noStar e = true) : starEach (e :: rest) env = (false, eval e env) :: starEach rest env := by
  cases e <;> first | rfl | cases h
theorem star_all {env : Env} : ∀ {es : List Expr}, es.all noStar = true → (backTo pos (starEach es env)).any (·.1) = false
  | [], _ => rfl
  | e :: r, h => by
    rw [List.all_cons, Bool.and_eq_true] at h
    rw [star_no h.1]
    show (false || (backTo pos (starEach r env)).any (·.1)) = false
    rw [star_all h.2]; rfl
theorem Sound.args {f : Expr → M V} : ∀ {es : List Expr}, es.all noStar = true → (∀ e ∈ es, Sound G c k q CL ρ relV (eval e c.env) (f e)) → Sound G c k q CL ρ relVs (spliced (backTo pos (starEach es c.env))) (evList f es)
  | [], _, _ => by
    intro st r e A s m news al Q E hA S hE hQ
    induction e using E1
    exact args_nil (hQ _ _ rfl _ s news al S Ext.refl .nil .refl)
  | x :: es, hn, h => by
    rw [List.all_cons, Bool.and_eq_true] at hn
    intro st r e A s m news al Q E hA S hE hQ
    refine args_cons ((h x (.head _)).go e hA S hE fun a st1 e1 v1 s1 n1 a1 S1 X1 R1 G1 => ?_) (star_no hn.1)
    refine (Sound.args hn.2 fun y hy => h y (.tail _ hy)).go e1 hA S1 (hE.step S X1 G1) fun l st2 e2 vs s2 n2 a2 S2 X2 R2 G2 => ?_
    induction e2 using E1
    exact hQ _ _ rfl _ s2 n2 a2 S2 (X1.trans S.H X2) (.cons (R1.ext S1.H X2) R2) (G1.trans G2)
theorem Sound.tup {f : Expr → M V} {es : List Expr} {n : Nat} (hn : es.all noStar = true) (h : ∀ e ∈ es, Sound G c k q CL ρ relV (eval e c.env) (f e)) :
    Sound G c k q CL ρ relV (eval (.Tuple es n pos) c.env) (M.bind (evList f es) fun l => still fun _ => if l.length ≤ sizeLine then some (.tup l) else none) := by
  intro st r e A s m news al Q E hA S hE hQ
  refine PyProof.Rows.Tuple_ ((Sound.args hn h).go e hA S hE fun l st1 e1 vs s1 n1 a1 S1 X1 R1 G1 => ?_)
  obtain ⟨y, e2, rfl⟩ := Option.map_eq_some_iff.mp e1
  refine iteS e2 fun _ e2 => ?_
  · induction e2 using E1
    rename_i hl
    exact S1.newTup R1 hl fun v s2 n2 a2 S2 X2 R2 G2 => hQ _ _ rfl v s2 n2 a2 S2 (X1.trans S.H X2) R2 (G1.trans G2)
def newO (o : O) : M V := fun st => some (.ok (.hnd st.length), st ++ [o])
theorem Sound.lst {f : Expr → M V} {es : List Expr} (hn : es.all noStar = true) (h : ∀ e ∈ es, Sound G c k q CL ρ relV (eval e c.env) (f e)) :
    Sound G c k q CL ρ relV (eval (.List es pos) c.env) (M.bind (evList f es) fun l st => if l.length ≤ sizeLine then newO (.list l) st else none) := by
  intro st r e A s m news al Q E hA S hE hQ
  refine PyProof.Rows.List_ ((Sound.args hn h).go e hA S hE fun l st1 e1 vs s1 n1 a1 S1 X1 R1 G1 => ?_)
  refine iteS e1 fun _ e1 => ?_
  · induction e1 using E1
    rename_i hl
    exact S1.newList R1 hl fun v s2 n2 a2 S2 X2 R2 G2 => hQ _ _ rfl v s2 n2 a2 S2 (X1.trans S.H X2) R2 (G1.trans G2)
def ne0V (a : V) (st : Sto) : Option Bool := (datV a st).bind fun d => if SeqAt.shaped d && SeqAt.shaped (.list []) then some (!PyData.eqv d (.list [])) else none
theorem Sound.ne0T (hc : c.Ok G) {l : Expr} {p' : Pos} {whole : Sem Value} {m1 : M V} (hm : behindInMarks .NotEq (.List [] p') = false) (h1 : Sound G c k q CL ρ relV (eval l c.env) m1) :
    Sound G c k q CL ρ relB (isTrue (.Compare l [.NotEq] [.List [] p'] pos) c.env whole) (M.bind m1 fun a => still fun st => ne0V a st) := by
  intro st r e A s m news al Q E hA S hE hQ
  refine wpAny_isTrue_Compare1 (h1.go e hA S hE fun a st1 e1 v1 s1 n1 a1 S1 X1 R1 G1 => ?_) hm
  obtain ⟨z, e4, e5⟩ := Option.map_eq_some_iff.mp e1
  refine PyProof.Rows.List_ (args_nil ?_)
  refine S1.tmpList (l := []) .nil (Nat.zero_le _) fun x s3 n3 S3 X3 hl _ G3 => ?_
  have hu : A.units + 64 < cLine := by have := hA.un; lia
  refine bindE e4 fun d hd e4 => iteS e4 fun hs e4 => ?_
  rw [Bool.and_eq_true] at hs
  obtain ⟨as, r1⟩ := datV_reads hc S3 (R1.ext S1.H X3) hd
  obtain ⟨o, ho1, ho2, n, ho3⟩ := hl
  exact PyProof.Rows.ne_dataH r1 (.list (vs := #[]) ho1 ho2 ho3 .nil) hs.1 hs.2 hu (wpAny_truthy_bool (hQ z _ e5.symm _ s3 n3 _ S3 (X1.trans S.H X3) (sInj e4) (G1.trans G3)))
def binL (op : Operator) (a b : V) (st : Sto) : Option (List V) := a.hnd?.bind fun i => b.hnd?.bind fun j => (lstAt st i).bind fun l => (lstAt st j).bind fun l' => if isAdd op = true ∧ l.length + l'.length ≤ sizeLine then some (l ++ l') else none
def binM (op : Operator) (a b : V) : M V := fun st => match binL op a b st with
  | some l => newO (.list l) st
  | none => ofOpt (binV op a b) st
theorem Sound.binop2 (hc : c.Ok G) {l r : Expr} {op : Operator} {m1 m2 : M V} (h1 : Sound G c k q CL ρ relV (eval l c.env) m1) (h2 : Sound G c k q CL ρ relV (eval r c.env) m2) :
    Sound G c k q CL ρ relV (eval (.BinOp l op r pos) c.env) (M.bind m1 fun a => M.bind m2 fun b => binM op a b) := by
  intro st r e A s m news al Q E hA S hE hQ
  refine wpAny_BinOp (h1.go e hA S hE fun a st1 e1 v1 s1 n1 a1 S1 X1 R1 G1 => ?_)
  refine h2.go e1 hA S1 (hE.step S X1 G1) fun b st2 e2 v2 s2 n2 a2 S2 X2 R2 G2 => ?_
  have R1' := R1.ext S1.H X2
  unfold binM at e2
  cases e3 : binL op a b st2 with
  | some ll =>
    rw [e3] at e2
    refine bindE e3 fun i g1 e3 => bindE e3 fun j g2 e3 => bindE e3 fun l g3 e3 => bindE e3 fun l' g4 e3 => iteS e3 fun hl e3 => ?_
    obtain ⟨x, ex, R3⟩ := R1'.vhnd g1
    obtain ⟨y, ey, R4⟩ := R2.vhnd g2
    rw [ex, ey, isAdd_of hl.1]
    obtain ⟨vs, n, _, hm, l1, r1⟩ := S2.list R3 (lstAt_of g3)
    obtain ⟨ws, n', _, hm', l2, r2⟩ := S2.list R4 (lstAt_of g4)
    refine add_lists S2.F S2.N l1 l2 (fun h' F N => ?_) (by rw [r1.length, r2.length]; exact hl.2)
    obtain ⟨S3, X3, r3⟩ := S2.newOwn (tk := s2.toks) S2.fresh F N (.list (.head _) ((r1.append r2).ext S2.H (Ext.owned S2.fresh)))
    exact hQ _ _ (sInj e3 ▸ (sInj e2).symm) _ _ _ _ S3 (X1.trans S.H (X2.trans S1.H X3)) r3 (G1.trans (G2.trans ⟨rfl, rfl⟩))
  | none =>
    rw [e3] at e2
    obtain ⟨y, hy, e4⟩ := ofOpt_some e2
    exact binV_sound hc S2 R1' R2 hy fun v s3 n3 a3 S3 X3 R3 G3 => hQ y st2 e4 v s3 n3 a3 S3 (X1.trans S.H (X2.trans S1.H X3)) R3 (G1.trans (G2.trans G3))
noncomputable def fldO (G : Pg) (x : Str) : O → Option V
  | .inst C fs => if (G.flds C).contains x then (fs.lookup x).bind fun z => if notBi z then some z else none else none
  | _ => none
def attrM (G : Pg) (x : Str) (y : V) (st : Sto) : Option V := y.hnd?.bind fun k => st[k]?.bind (fldO G x)
theorem fldO_some {x : Str} {o : O} {z : V} {P : Prop} (e : fldO G x o = some z) (k : ∀ C fs, o = .inst C fs → x ∈ G.flds C → fs.lookup x = some z → notBi z = true → P) : P := by
  cases o with
  | inst C fs => exact iteS e fun hx e => bindE e fun z' hz e => iteS e fun hn e => k C fs rfl (List.contains_iff_mem.mp hx) (sInj e ▸ hz) (sInj e ▸ hn)
  | _ => exact noS e
theorem attrM_some {x : Str} {y z : V} {P : Prop} (e : attrM G x y st = some z) (k : ∀ k C fs, y = .hnd k → st[k]? = some (.inst C fs) → x ∈ G.flds C → fs.lookup x = some z → notBi z = true → P) : P :=
  bindE e fun kk h1 e => bindE e fun o h2 e => fldO_some e fun C fs h3 h4 h5 h6 => k kk C fs (V.hnd_of h1) (h3 ▸ h2) h4 h5 h6
theorem base_ok {o : Expr} {x : Str} {env : Env} {whole : Sem Value} (h : okBase o = true) : attributeBase o x env whole = whole := by
  cases o with
  | Call f _ _ _ => cases f <;> first | rfl | exact noB h
  | _ => first | rfl | exact noB h
theorem Sound.attr (hG : G.Ok) (hc : c.Ok G) {o : Expr} {x : Str} {m1 : M V} (hb : okBase o = true) (h1 : Sound G c k q CL ρ relV (eval o c.env) m1) :
    Sound G c k q CL ρ relV (eval (.Attribute o x pos) c.env) (M.bind m1 fun a => still fun st => attrM G x a st) := by
  intro st r e A s m news al Q E hA S hE hQ
  refine Attribute_any_ (h1.go e hA S hE fun a st1 e1 v1 s1 n1 a1 S1 X1 R1 G1 => ?_) ?_
  · obtain ⟨z, e2, e3⟩ := Option.map_eq_some_iff.mp e1
    exact attrM_some e2 fun kk C fs h1 h2 h3 h4 h5 => S1.getAttr hc (h1 ▸ R1) h2 (clsOk_of (hG.cls _ _ _ h3) h3) h4 h5 fun v s2 n2 a2 S2 X2 R2 G2 => hQ _ _ e3.symm v s2 n2 a2 S2 (X1.trans S.H X2) R2 (G1.trans G2)
  · show (do
      let o' ← attributeBase o x c.env (eval o c.env)
      standAt pos.atName
      let r ← holding [o'] (getAttr o' x true)
      letTemporaryGo o o' r
      pure r) = _
    rw [base_ok hb]
theorem Sound.sub (hc : c.Ok G) {o i : Expr} {m1 m2 : M V} (hp : plainIdx i = true) (h1 : Sound G c k q CL ρ relV (eval o c.env) m1) (h2 : Sound G c k q CL ρ relV (eval i c.env) m2) :
    Sound G c k q CL ρ relV (eval (.Subscript o i pos) c.env) (M.bind m1 fun a => M.bind m2 fun b => still fun st => getItV a b st) := by
  intro st r e A s m news al Q E hA S hE hQ
  refine Subscript_ (h1.go e hA S hE fun a st1 e1 v1 s1 n1 a1 S1 X1 R1 G1 => ?_)
  refine h2.go e1 hA S1 (hE.step S X1 G1) fun b st2 e2 v2 s2 n2 a2 S2 X2 R2 G2 => ?_
  obtain ⟨z, e3, rfl⟩ := Option.map_eq_some_iff.mp e2
  exact getItV_sound hc S2 (R1.ext S1.H X2) R2 e3 hp fun v s3 n3 a3 S3 X3 R3 G3 => hQ _ _ rfl v s3 n3 a3 S3 (X1.trans S.H (X2.trans S1.H X3)) R3 (G1.trans (G2.trans G3))
def CallOk (G : Pg) (k : Nat) (cf : Bool → V → List V → M V) : Prop :=
  ∀ (c : Act), c.Ok G → ∀ (q : Bool) (CL : List (Str × Nat)) (ρ : List (Str × V)) (f : V) (args : List V) (v : Value) (vs : List Value) (st : Sto) (r : Except Addr V × Sto) (A : Around) (s : Shared) (m : Str → Option Value) (news : Led) (al : Al) (Q : Value → Shared → Prop) (E : Value → Shared → Prop),
    Ar c k q A → St G c CL ρ m s news al st → VR (G.K c.w.params) news al v f → VRs (G.K c.w.params) news al vs args → cf q f args st = some r → ErrK c m E s news al r →
    (∀ y st', r = (.ok y, st') → Cont G c CL ρ m s news al relV y st' Q) → wpAny (model G.prog c.w) A (call v vs) Q E s
theorem keeper_at (hG : G.Ok) (hc : c.Ok G) (S : St G c CL ρ m s news al st) {v : Value} {f : V} (h : VR (G.K c.w.params) news al v f) (e : callable G f st = true) :
    ∃ kk, (kk = Keeper.frame ∨ kk = Keeper.machine ∨ kk = Keeper.boundFrame) ∧ Looks (model G.prog c.w) s.heap (keeperOf v) kk := by
  cases f with
  | bi _ => exact (show v = _ from h.inv) ▸ ⟨.machine, .inr (.inl rfl), .now⟩
  | ty _ => exact (show v = _ from h.inv) ▸ ⟨.machine, .inr (.inl rfl), .now⟩
  | glob _ => exact (show v = _ from h.inv) ▸ keeps_K (hG.keep _ _ e) _ (hc.X.keeps S.F.keep)
  | hnd k =>
    obtain ⟨o, hk, e⟩ := mapD e
    obtain ⟨a, e0, p, h⟩ := h.inv
    cases o with
    | lam ps b sc qq cl =>
      obtain ⟨_, _, _, _, _, _, _, _, _, hm, _⟩ := (S.H.obj _ _ _ h hk).inv
      exact e0 ▸ ⟨.frame, .inl rfl, (Looks.ld (part := none) (S.N.get hm)).andThen .now⟩
    | _ => exact noB e
  | _ => exact noB e
def callM (G : Pg) (cf : V → List V → M V) (f : V) (first : List V) (as : M (List V)) : M V :=
  M.bind as fun l st => if callable G f st then cf f (first ++ l) st else none
theorem callWith_sound (hG : G.Ok) (hc : c.Ok G) {cf : Bool → V → List V → M V} (hcf : CallOk G k cf) {g : Expr → M V} {es : List Expr} (hn : es.all noStar = true) (hs : ∀ e ∈ es, Sound G c k q CL ρ relV (eval e c.env) (g e))
    {v : Value} {f : V} {first : List Value} {fl : List V} {r : Except Addr V × Sto} {Q : Value → Shared → Prop} (hA : Ar c k q A) (S : St G c CL ρ m s news al st) (h : VR (G.K c.w.params) news al v f) (h0 : VRs (G.K c.w.params) news al first fl)
    (e : callM G (cf q) f fl (evList g es) st = some r) (hE : ErrK c m E s news al r) (hQ : ∀ y st', r = (.ok y, st') → Cont G c CL ρ m s news al relV y st' Q) :
    wpAny (model G.prog c.w) A (callWith pos v first (backTo pos (starEach es c.env)) []) Q E s := by
  have fin : wpAny (model G.prog c.w) A (spliced (backTo pos (starEach es c.env))) (fun vs s₁ => (∃ kk, (kk = Keeper.frame ∨ kk = Keeper.machine ∨ kk = Keeper.boundFrame) ∧ Looks (model G.prog c.w) s₁.heap (keeperOf v) kk) ∧ wpAny (model G.prog c.w) A (call v (first ++ vs)) Q E s₁) E s := by
    refine (Sound.args hn hs).go e hA S hE fun l st1 e1 vs s1 n1 a1 S1 X1 R1 G1 => ?_
    refine iteS e1 fun _ e1 => ?_
    · rename_i hcl
      have hv := h.ext S.H X1
      exact ⟨keeper_at hG hc S1 hv hcl, hcf c hc q CL ρ f _ v _ st1 r A s1 m n1 a1 Q E hA S1 hv ((h0.ext S.H X1).append R1) e1 (hE.step S X1 G1) fun y st' x v s2 n2 a2 S2 X2 R2 G2 => hQ y st' x v s2 n2 a2 S2 (X1.trans S.H X2) R2 (G1.trans G2)⟩
  cases es with
  | nil =>
    refine callWith_of (P := fun h => ∃ kk, (kk = Keeper.frame ∨ kk = Keeper.machine ∨ kk = Keeper.boundFrame) ∧ Looks (model G.prog c.w) h (keeperOf v) kk) rfl (fun h X => X) ?_
    refine PyProof.Rows.evalArgs_none ?_
    have e1 : (if callable G f st then cf q f (fl ++ []) st else none) = some r := e
    exact iteS e1 fun hcl e1 => ⟨keeper_at hG hc S h hcl, hcf c hc q CL ρ f _ v _ st r A s m news al Q E hA S h (h0.append .nil) e1 hE hQ⟩
  | cons x es =>
    rw [List.all_cons, Bool.and_eq_true] at hn
    have e0 := star_no (rest := es) (env := c.env) hn.1
    rw [e0] at fin ⊢
    exact callWith_of (P := fun h => ∃ kk, (kk = Keeper.frame ∨ kk = Keeper.machine ∨ kk = Keeper.boundFrame) ∧ Looks (model G.prog c.w) h (keeperOf v) kk)
      (by show ((false || (backTo pos (starEach es c.env)).any (·.1)) || false) = false; rw [star_all hn.2]; rfl) (fun h X => X) (evalArgs_plain fin)
end
def appP (args : List V) (st : Sto) : Option (V × Sto) := (arg2 args).bind fun p => p.1.hnd?.bind fun k => (lstAt st k).bind fun l => if l.length ≤ sizeLine then some (.none, st.set k (.list (l ++ [p.2]))) else none
def popP (args : List V) (st : Sto) : Option (V × Sto) := (arg1 args).bind fun y => y.hnd?.bind fun k => (lstAt st k).bind fun l => if l.length ≤ sizeLine then l.getLast?.map fun y => (y, st.set k (.list l.dropLast)) else none
def dupP (args : List V) (st : Sto) : Option (V × Sto) := (arg1 args).bind fun y => y.hnd?.bind fun k => (dicAt st k).bind fun fs => if fs.length ≤ sizeLine then some (.hnd st.length, st ++ [.sdict fs]) else none
def callD (q : Bool) (f : V) (args : List V) (st : Sto) : Option (V × Sto) := match f with
  | .bi id => if id = "list.append" then appP args st
    else if id = "list.pop" then popP args st
    else if id = "dict.get" then (arg3 args).bind fun p => (getDV p.1 p.2.1 p.2.2 st).map fun z => (z, st)
    else callB q f args st
  | .ty id => if id = "dict" then dupP args st else callB q f args st
  | _ => none
def callC (q : Bool) (f : V) (args : List V) : M V := fun st => (callD q f args st).map fun p => (.ok p.1, p.2)
noncomputable def methI (G : Pg) (x : Str) (y : V) (C : Addr) (fs : List (Str × V)) : Option (V × List V) := match fs.lookup x with
  | some z => if (G.flds C).contains x && notBi z then some (z, []) else none
  | none => (G.meth C x).map fun f => (.glob f, [y])
noncomputable def methO (G : Pg) (x : Str) (y : V) : O → Option (V × List V)
  | .list _ => if x = ("append" : Str) then some (.bi "list.append", [y]) else if x = ("pop" : Str) then some (.bi "list.pop", [y]) else none
  | .sdict _ => if x = ("get" : Str) then some (.bi "dict.get", [y]) else none
  | .idict _ => if x = ("get" : Str) then some (.bi "dict.get", [y]) else none
  | .inst C fs => methI G x y C fs
  | _ => none
def methM (G : Pg) (x : Str) (y : V) (st : Sto) : Option (V × List V) := y.hnd?.bind fun k => st[k]?.bind (methO G x y)
section
variable {G : Pg} {c : Act} {k : Nat} {q : Bool} {CL : List (Str × Nat)} {ρ : List (Str × V)} {m : Str → Option Value} {s s' : Shared} {news news' : Led} {al al' : Al} {st st' : Sto} {A : Around} {E : Value → Shared → Prop} {pos : Pos}
theorem callD_sound (hc : c.Ok G) (hA : Ar c k q A) (S : St G c CL ρ m s news al st) {v : Value} {vs : List Value} {f : V} {p : V × Sto} {args : List V} {Q : Value → Shared → Prop} (h : VR (G.K c.w.params) news al v f) (hs : VRs (G.K c.w.params) news al vs args) (e : callD q f args st = some p)
    (hQ : Cont G c CL ρ m s news al relV p.1 p.2 Q) : wpAny (model G.prog c.w) A (call v vs) Q E s := by
  have C : ∀ {z st'}, (z, st') = p → Cont G c CL ρ m s news al relV z st' Q := fun e => by rw [← e] at hQ; exact hQ
  cases f with
  | bi id =>
    have e0 : v = .builtin id := h.inv
    refine iteE e (fun hid e => bindE e fun u e1 e => bindE e fun k e2 e => bindE e fun l e3 e => iteS e fun hl e => ?_) fun _ e => iteE e (fun hid e => bindE e fun u e1 e => bindE e fun k e2 e => bindE e fun l e3 e => iteS e fun hl e => mapE e fun y hy e => ?_) fun _ e => iteE e (fun hid e => bindE e fun u e1 e => mapE e fun z e2 e => ?_) fun _ e => callB_sound hc hA S h hs e hQ
    · obtain ⟨v1, v2, e4, h1, h2⟩ := hs.a2 e1
      exact e0 ▸ hid ▸ e4 ▸ S.append (V.hnd_of e2 ▸ h1) (lstAt_of e3) hl h2 (C (sInj e))
    · obtain ⟨v1, e4, h1⟩ := hs.a1 e1
      exact e0 ▸ hid ▸ e4 ▸ S.pop (V.hnd_of e2 ▸ h1) (lstAt_of e3) hl hy (C e)
    · obtain ⟨v1, v2, v3, e4, h1, h2, h3⟩ := hs.a3 e1
      exact e0 ▸ hid ▸ e4 ▸ getDV_sound S h1 h2 h3 e2 (C e)
  | ty id =>
    have e0 : v = .type id := h.inv
    refine iteE e (fun hid e => bindE e fun u e1 e => bindE e fun k e2 e => bindE e fun l e3 e => iteS e fun hl e => ?_) fun _ e => callB_sound hc hA S h hs e hQ
    obtain ⟨v1, e4, h1⟩ := hs.a1 e1
    exact e0 ▸ hid ▸ e4 ▸ S.dictCopy (S.sys hc) (V.hnd_of e2 ▸ h1) (dicAt_of e3) hl (C (sInj e))
  | _ => exact noS e
theorem callC_sound (hc : c.Ok G) (hA : Ar c k q A) (S : St G c CL ρ m s news al st) {v : Value} {vs : List Value} {f : V} {r : Except Addr V × Sto} {args : List V} {Q : Value → Shared → Prop} (h : VR (G.K c.w.params) news al v f) (hs : VRs (G.K c.w.params) news al vs args) (e : callC q f args st = some r)
    (hQ : ∀ y st', r = (.ok y, st') → Cont G c CL ρ m s news al relV y st' Q) : wpAny (model G.prog c.w) A (call v vs) Q E s :=
  mapE e fun p e1 e2 => callD_sound hc hA S h hs e1 (hQ _ _ e2.symm)
theorem methM_sound (hG : G.Ok) (hc : c.Ok G) (S : St G c CL ρ m s news al st) {v : Value} {y : V} {p : V × List V} {x : Str} {pl : Sem Bool} {Q : Value × List Value → Shared → Prop} (h : VR (G.K c.w.params) news al v y) (e : methM G x y st = some p)
    (hQ : ∀ u us s', VR (G.K c.w.params) news al u p.1 → VRs (G.K c.w.params) news al us p.2 → s'.heap = s.heap → Same s s' → Q (u, us) s') : wpAny (model G.prog c.w) A (PySem.getMethod v x pl) Q E s := by
  refine bindE e fun k e1 e => bindE e fun o hk e => ?_
  have h1 := (V.hnd_of e1 ▸ h : VR (G.K c.w.params) news al v (.hnd k))
  have H : ∀ {id : String}, (V.bi id, [y]) = p → Q (.builtin id, [v]) s := fun e => hQ _ _ s (e ▸ .bi) (e ▸ .cons h .nil) rfl .refl
  cases o with
  | list l =>
    obtain ⟨a, e0, _⟩ := h1.inv
    rw [e0] at h1 H ⊢
    obtain ⟨vs, n, _, hm, _, _⟩ := S.list h1 hk
    exact iteE e (fun hx e => hx ▸ kl_method S.N hm PySem.F.slot_list_append PySem.F.type_list_append (H (sInj e))) fun _ e => iteS e fun hx e => hx ▸ kl_method S.N hm PySem.F.slot_list_pop PySem.F.type_list_pop (H (sInj e))
  | sdict l =>
    obtain ⟨a, o, kvs, e0, _, hm, hd, hn, hD, hp⟩ := S.sdict h1 hk
    rw [e0] at H ⊢
    exact iteS e fun hx e => hx ▸ kob_method PySem.F.slot_dict_get PySem.F.type_dict_get S.N hm hd (H (sInj e))
  | idict l =>
    obtain ⟨a, o, kvs, e0, _, hm, hd, hn, hD, hp⟩ := S.idict h1 hk
    rw [e0] at H ⊢
    exact iteS e fun hx e => hx ▸ kob_method PySem.F.slot_dict_get PySem.F.type_dict_get S.N hm hd (H (sInj e))
  | inst C fs =>
    have e : methI G x y C fs = some p := e
    unfold methI at e
    cases hz : fs.lookup x with
    | some z =>
      rw [hz] at e
      refine iteS e fun hx e => ?_
      rw [Bool.and_eq_true] at hx
      have hx1 : x ∈ G.flds C := List.contains_iff_mem.mp hx.1
      obtain ⟨a, dx, es, n, e0, _, _, _, I, hf⟩ := S.inst h1 hk
      obtain ⟨u, h1, h2⟩ := hf.getL hz
      have ok := clsOk_of (hG.cls c.w.params _ _ hx1) hx1
      exact e0 ▸ kmu_own S.F hc.X I ok.get ok.non (get_own S.F hc.X I ok.get ok.has ok.non rfl h1 (handed_of h2 hx.2) (hQ u [] _ (sInj e ▸ h2) (sInj e ▸ .nil) rfl ⟨rfl, rfl⟩))
    | none =>
      rw [hz] at e
      refine mapE e fun f h2 e => ?_
      obtain ⟨g1, g2, g3, g4⟩ := hG.meth c.w.params _ _ _ h2
      exact S.clsMeth hc h1 hk g1 g2 g3 hz (hQ _ _ s (e ▸ .glob) (e ▸ .cons h .nil) rfl .refl)
  | _ => exact noS e
def okFunc : Expr → Bool
  | .Name _ _ => true
  | .Subscript _ _ _ => true
  | _ => false
theorem Sound.call (hG : G.Ok) (hc : c.Ok G) {cf : Bool → V → List V → M V} (hcf : CallOk G k cf) {g : Expr → M V} {fn : Expr} {es : List Expr} (hf : okFunc fn = true) (hn : es.all noStar = true) (h1 : Sound G c k q CL ρ relV (eval fn c.env) (g fn)) (hs : ∀ e ∈ es, Sound G c k q CL ρ relV (eval e c.env) (g e)) :
    Sound G c k q CL ρ relV (eval (.Call fn es [] pos) c.env) (M.bind (g fn) fun f => callM G (cf q) f [] (evList g es)) := by
  intro st r e A s m news al Q E hA S hE hQ
  refine Call_ (h1.go e hA S hE fun f st1 e1 v1 s1 n1 a1 S1 X1 R1 G1 => ?_) ?_
  · exact callWith_sound hG hc hcf hn hs hA S1 R1 .nil e1 (hE.step S X1 G1) fun y st' x v s2 n2 a2 S2 X2 R2 G2 => hQ y st' x v s2 n2 a2 S2 (X1.trans S.H X2) R2 (G1.trans G2)
  · cases fn <;> first | rfl | exact noB hf
theorem form_ok {env : Env} {es : List Expr} (hn : es.all noStar = true) (hl : es.length < 30) : methodCallForm (es.length + 0) (backTo pos (starEach es env)) (backToKw pos (keywordEach [] env)) = true := by
  unfold methodCallForm
  have h1 := star_all (pos := pos) (env := env) hn
  have h2 : (backTo pos (starEach es env)).all (!·.1) = true := by
    rw [List.all_eq_true]
    intro x hx
    cases hb : x.1 with
    | false => rfl
    | true => exact absurd (List.any_eq_true.mpr ⟨x, hx, hb⟩) (by rw [h1]; exact Bool.false_ne_true)
  rw [h2]
  have h3 : (backToKw pos (keywordEach [] env)) = [] := rfl
  rw [h3]
  simpa using hl
theorem Sound.meth (hG : G.Ok) (hc : c.Ok G) {cf : Bool → V → List V → M V} (hcf : CallOk G k cf) {g : Expr → M V} {o : Expr} {x : Str} {ap : Pos} {es : List Expr} (hb : okBase o = true) (hline : (ap.endLine == pos.line) = true) (hl : es.length < 30) (hn : es.all noStar = true)
    (h1 : Sound G c k q CL ρ relV (eval o c.env) (g o)) (hs : ∀ e ∈ es, Sound G c k q CL ρ relV (eval e c.env) (g e)) :
    Sound G c k q CL ρ relV (eval (.Call (.Attribute o x ap) es [] pos) c.env) (M.bind (g o) fun y => M.bind (still fun st => methM G x y st) fun p => callM G (cf q) p.1 p.2 (evList g es)) := by
  intro st r e A s m news al Q E hA S hE hQ
  have he : eval (.Call (.Attribute o x ap) es [] pos) c.env = (do
    let ov ← attributeBase o x c.env (eval o c.env)
    standAt ap.atName
    methodCall o x ap pos c.env ov (es.length + 0) (backTo pos (starEach es c.env)) (backToKw pos (keywordEach [] c.env))) := rfl
  rw [he, base_ok hb]
  refine wpAny_bind (wpAny_mono (h1.go e hA S hE fun y st1 e1 v1 s1 n1 a1 S1 X1 R1 G1 => ?_) (fun v s1 h1 => h1) fun _ _ z => z)
  refine wpAny_bind (wpAny_standAt ?_)
  refine still_go e1 fun p e2 e3 => ?_
  unfold methodCall
  rw [form_ok hn hl]
  refine wpAny_bind (wpAny_holding ?_)
  unfold calleeOf
  simp only [if_true]
  refine methM_sound hG hc S1 R1 e2 fun u us s2 R2 R3 e4 G2 => ?_
  have S2 := S1.at e4
  show wpAny _ _ (methodCallPos true o c.env ap pos >>= _) _ _ _
  unfold methodCallPos
  rw [hline]
  simp only [Bool.not_true, Bool.or_true, if_true]
  refine wpAny_bind (wpAny_pure ?_)
  exact callWith_sound hG hc hcf hn hs hA S2 R2 R3 e3 ((hE.step S X1 G1).step S1 Ext.refl G2) fun y st' x v s3 n3 a3 S3 X3 R3 G3 => hQ y st' x v s3 n3 a3 S3 (X1.trans S.H X3) R3 (G1.trans (G2.trans G3))
end
set_option genCtorIdx true in
inductive Fl where
  | next
  | brk
  | cont
  | ret (y : V)
  deriving Inhabited
inductive FlR (K : Frag) (news : Led) (al : Al) : Flow → Fl → Prop where
  | next : FlR K news al .next .next
  | brk : FlR K news al .brk .brk
  | cont : FlR K news al .cont .cont
  | ret {v : Value} {y : V} : VR K news al v y → FlR K news al (.ret v) (.ret y)
abbrev Loc := List (Str × V)
theorem putF_lookup (x z : Str) (y : V) : ∀ ρ : Loc, (putF x y ρ).lookup z = if z = x then some y else ρ.lookup z
  | [] => by
    unfold putF
    rw [List.lookup_cons]
    by_cases h : z = x
    · rw [if_pos h, beq_iff_eq.mpr h]
    · rw [if_neg h, beq_eq_false_iff_ne.mpr h]
  | (x', y') :: r => by
    unfold putF
    by_cases h' : x' = x
    · rw [if_pos (beq_iff_eq.mpr h'), List.lookup_cons, List.lookup_cons, h']
      by_cases h : z = x
      · rw [if_pos h, beq_iff_eq.mpr h]
      · rw [if_neg h, beq_eq_false_iff_ne.mpr h]
    · rw [if_neg fun e => h' (beq_iff_eq.mp e), List.lookup_cons, List.lookup_cons, putF_lookup x z y r]
      cases h : z == x' with
      | true => exact (if_neg fun e => h' ((beq_iff_eq.mp h).symm.trans e)).symm
      | false => rfl
def ErrS {α : Type} (c : Act) (E : Value → Shared → Prop) (s : Shared) (news : Led) (al : Al) (r : Except Addr α × Sto) : Prop :=
  ∀ C st', r = (.error C, st') → ∀ m e s' news' al', c.fly m C e s' news' al' st' → Ext news al news' al' → Same s s' → E e s'
def SoundS (G : Pg) (c : Act) (k : Nat) (q : Bool) (CL : List (Str × Nat)) (t : Sem Flow) (ms : Loc → M (Fl × Loc)) : Prop :=
  ∀ (ρ : Loc) (st : Sto) (r : Except Addr (Fl × Loc) × Sto), ms ρ st = some r → ∀ (A : Around) (s : Shared) (m : Str → Option Value) (news : Led) (al : Al) (Q : Flow → Shared → Prop) (E : Value → Shared → Prop),
    Ar c k q A → St G c CL ρ m s news al st → ErrS c E s news al r →
    (∀ fl ρ' st', r = (.ok (fl, ρ'), st') → ∀ f s' m' news' al', St G c CL ρ' m' s' news' al' st' → Ext news al news' al' → FlR (G.K c.w.params) news' al' f fl → Same s s' → Q f s') →
    wpAny (model G.prog c.w) A t Q E s
section
variable {G : Pg} {c : Act} {k : Nat} {q : Bool} {CL : List (Str × Nat)} {ρ : Loc} {m : Str → Option Value} {s s' : Shared} {news news' : Led} {al al' : Al} {st st' : Sto} {A : Around} {E : Value → Shared → Prop} {pos : Pos}
theorem ErrS.step {α : Type} {r : Except Addr α × Sto} (h : ErrS c E s news al r) (S : St G c CL ρ m s news al st) (X : Ext news al news' al') (x : Same s s') : ErrS c E s' news' al' r :=
  fun C st' e m e' s'' n' a' hf X' G' => h C st' e m e' s'' n' a' hf (X.trans S.H X') (x.trans G')
theorem ErrS.expr {α β : Type} {r : Except Addr α × Sto} {r' : Except Addr β × Sto} (h : ErrS c E s news al r) (e : ∀ C st', r' = (.error C, st') → r = (.error C, st')) : ErrK c m E s news al r' :=
  fun C st' x e' s'' n' a' hf X' G' => h C st' (e C st' x) m e' s'' n' a' hf X' G'
theorem Sound.goS {α β γ : Type} {rel : Frag → Led → Al → α → β → Prop} {t : Sem α} {m1 : M β} {f : β → M γ} {r : Except Addr γ × Sto} {Q : α → Shared → Prop}
    (h1 : Sound G c k q CL ρ rel t m1) (hr : M.bind m1 f st = some r) (hA : Ar c k q A) (S : St G c CL ρ m s news al st) (hE : ErrS c E s news al r)
    (hQ : ∀ y st1, f y st1 = some r → ∀ v s1 n1 a1, St G c CL ρ m s1 n1 a1 st1 → Ext news al n1 a1 → rel (G.K c.w.params) n1 a1 v y → Same s s1 → Q v s1) : wpAny (model G.prog c.w) A t Q E s :=
  h1.go hr hA S (hE.expr fun _ _ x => x) hQ
def seqM (f : Stmt → Loc → M (Fl × Loc)) : List Stmt → Loc → M (Fl × Loc)
  | [], ρ => M.pure (.next, ρ)
  | x :: r, ρ => M.bind (f x ρ) fun p => match p.1 with
    | .next => seqM f r p.2
    | fl => M.pure (fl, p.2)
theorem Sound.ok {α β : Type} {rel : Frag → Led → Al → α → β → Prop} {t : Sem α} {mm : M β} {b : β} {Q : α → Shared → Prop} (h : Sound G c k q CL ρ rel t mm) (e : mm st = some (.ok b, st')) (hA : Ar c k q A) (S : St G c CL ρ m s news al st)
    (hQ : ∀ v s2 n2 a2, St G c CL ρ m s2 n2 a2 st' → Ext news al n2 a2 → rel (G.K c.w.params) n2 a2 v b → Same s s2 → Q v s2) : wpAny (model G.prog c.w) A t Q E s :=
  h st _ e A s m news al Q E hA S ErrK.no fun y st2 z => by
    obtain ⟨z1, z2⟩ := Prod.mk.inj z
    rw [← z2, ← Except.ok.inj z1]
    exact hQ
theorem SoundS.ok {t : Sem Flow} {ms : Loc → M (Fl × Loc)} {p : Fl × Loc} {Q : Flow → Shared → Prop} (h : SoundS G c k q CL t ms) (e : ms ρ st = some (.ok p, st')) (hA : Ar c k q A) (S : St G c CL ρ m s news al st)
    (hQ : ∀ f s2 m2 n2 a2, St G c CL p.2 m2 s2 n2 a2 st' → Ext news al n2 a2 → FlR (G.K c.w.params) n2 a2 f p.1 → Same s s2 → Q f s2) : wpAny (model G.prog c.w) A t Q E s :=
  h ρ st _ e A s m news al Q E hA S nofun fun fl ρ2 st2 z => by
    obtain ⟨z1, z2⟩ := Prod.mk.inj z
    have z1 := Except.ok.inj z1
    rw [z1] at hQ
    rw [← z2]
    exact hQ
theorem SoundS.seq {f : Stmt → Loc → M (Fl × Loc)} {xs : List Stmt} (h : ∀ x ∈ xs, SoundS G c k q CL (exec x c.env) (f x)) : SoundS G c k q CL (execs xs c.env) (seqM f xs) := by
  induction xs with
  | nil =>
    intro ρ st r e A s m news al Q E hA S hE hQ
    exact wpAny_execs_nil (hQ _ _ _ (sInj e).symm _ s m news al S Ext.refl .next .refl)
  | cons x xs ih =>
    intro ρ st r e A s m news al Q E hA S hE hQ
    refine wpAny_execs_cons (M.elim e (fun p st1 e1 e2 => ?_) fun C st1 e1 e2 => ?_)
    · refine (h x (.head _)).ok e1 hA S fun f s1 m1 n1 a1 S1 X1 R1 G1 => ?_
      obtain ⟨fl, ρ'⟩ := p
      cases R1 with
      | next => exact ih (fun y hy => h y (.tail _ hy)) ρ' st1 r e2 A s1 m1 n1 a1 Q E hA S1 (hE.step S X1 G1) fun fl ρ2 st2 z f s2 m2 n2 a2 S2 X2 R2 G2 => hQ fl ρ2 st2 z f s2 m2 n2 a2 S2 (X1.trans S.H X2) R2 (G1.trans G2)
      | brk => exact hQ _ _ _ (sInj e2).symm _ s1 m1 n1 a1 S1 X1 .brk G1
      | cont => exact hQ _ _ _ (sInj e2).symm _ s1 m1 n1 a1 S1 X1 .cont G1
      | ret hv => exact hQ _ _ _ (sInj e2).symm _ s1 m1 n1 a1 S1 X1 (.ret hv) G1
    · exact h x (.head _) ρ st _ e1 A s m news al _ E hA S (e2 ▸ hE) nofun
def noComp : Expr → Bool
  | .ListComp .. | .SetComp .. | .DictComp .. => false
  | _ => true
theorem swaps_no {e : Expr} {t : Option Expr} {l : Nat} {env : Env} (h : noComp e = true) : swapsWith e t l env = pure false := by
  cases e <;> first | rfl | cases h
theorem swapsS_no {e t : Expr} {l : Nat} {env : Env} (h : noComp e = true) : swapsWithSole [t] e l env = pure false := swaps_no h
theorem swaps_attr {e o : Expr} {x : Str} {p : Pos} {l : Nat} {env : Env} : swapsWith e (some (.Attribute o x p)) l env = pure false := by cases e <;> rfl
theorem swaps_sub {e o i : Expr} {p : Pos} {l : Nat} {env : Env} : swapsWith e (some (.Subscript o i p)) l env = pure false := by cases e <;> rfl
theorem not_interactive (hc : c.Ok G) : interactive c.env = false := by
  unfold interactive
  rw [env_kind hc]; rfl
theorem SoundS.expr (hc : c.Ok G) {e : Expr} {me : Loc → M V} (hn : noComp e = true) (h1 : ∀ ρ, Sound G c k q CL ρ relV (eval e c.env) (me ρ)) :
    SoundS G c k q CL (exec (.Expr e pos) c.env) (fun ρ => M.bind (me ρ) fun _ => M.pure (.next, ρ)) := by
  intro ρ st r e1 A s m news al Q E hA S hE hQ
  refine wpAny_Expr_any ((h1 ρ).goS e1 hA S hE fun y st1 e2 v s1 n1 a1 S1 X1 R1 G1 => ?_) (not_interactive hc) (swaps_no hn)
  induction e2 using E1
  exact hQ _ _ _ rfl _ s1 m n1 a1 S1 X1 .next G1
theorem SoundS.ret {e : Expr} {me : Loc → M V} (h1 : ∀ ρ, Sound G c k q CL ρ relV (eval e c.env) (me ρ)) :
    SoundS G c k q CL (exec (.Return (some e) pos) c.env) (fun ρ => M.bind (me ρ) fun y => M.pure (.ret y, ρ)) := by
  intro ρ st r e1 A s m news al Q E hA S hE hQ
  refine wpAny_Return_some ((h1 ρ).goS e1 hA S hE fun y st1 e2 v s1 n1 a1 S1 X1 R1 G1 => ?_)
  induction e2 using E1
  exact hQ _ _ _ rfl _ s1 m n1 a1 S1 X1 (.ret R1) G1
theorem SoundS.ret0 : SoundS G c k q CL (exec (.Return none pos) c.env) (fun ρ => M.pure (.ret .none, ρ)) := by
  intro ρ st r e1 A s m news al Q E hA S hE hQ
  induction e1 using E1
  exact wpAny_Return_none (hQ _ _ _ rfl _ s m news al S Ext.refl (.ret .none) .refl)
theorem SoundS.pass : SoundS G c k q CL (exec (.Pass pos) c.env) (fun ρ => M.pure (.next, ρ)) := by
  intro ρ st r e1 A s m news al Q E hA S hE hQ
  induction e1 using E1
  exact wpAny_Pass (hQ _ _ _ rfl _ s m news al S Ext.refl .next .refl)
theorem SoundS.iff {t : Expr} {b o : List Stmt} {mt : Loc → M Bool} {mb mo : Loc → M (Fl × Loc)} (ht : ∀ ρ, Sound G c k q CL ρ relB (isTrue t c.env (eval t c.env)) (mt ρ)) (hb : SoundS G c k q CL (execs b c.env) mb) (ho : SoundS G c k q CL (execs o c.env) mo) :
    SoundS G c k q CL (exec (.If t b o pos) c.env) (fun ρ => M.bind (mt ρ) fun x => iteM x (mb ρ) (mo ρ)) := by
  intro ρ st r e1 A s m news al Q E hA S hE hQ
  refine wpAny_If ((ht ρ).goS e1 hA S hE fun z st1 e2 v s1 n1 a1 S1 X1 R1 G1 => ?_)
  cases R1
  cases z
  · exact ho ρ st1 r e2 A s1 m n1 a1 Q E hA S1 (hE.step S X1 G1) fun fl ρ2 st2 z f s2 m2 n2 a2 S2 X2 R2 G2 => hQ fl ρ2 st2 z f s2 m2 n2 a2 S2 (X1.trans S.H X2) R2 (G1.trans G2)
  · exact hb ρ st1 r e2 A s1 m n1 a1 Q E hA S1 (hE.step S X1 G1) fun fl ρ2 st2 z f s2 m2 n2 a2 S2 X2 R2 G2 => hQ fl ρ2 st2 z f s2 m2 n2 a2 S2 (X1.trans S.H X2) R2 (G1.trans G2)
def O.isCell : O → Bool
  | .cell _ => true
  | _ => false
def storeM (sc : Scope) (CL : List (Str × Nat)) (x : Str) (y : V) (ρ : Loc) : M Loc := fun st =>
  match sc.names.lookup x with
  | some .local => some (.ok (putF x y ρ), st)
  | some .cell => (CL.lookup x).bind fun k => st[k]?.bind fun o => if o.isCell then some (.ok ρ, st.set k (.cell (some y))) else none
  | _ => none
theorem Act.look0 (hp : c.comp = none) {m : Str → Option Value} {x : Str} {v : Value} : c.Look news al m x v ↔ m x = some v := by unfold Act.Look; rw [hp]
theorem storeM_some {sc : Scope} {x : Str} {y : V} {r : Except Addr Loc × Sto} {P : Prop} (e : storeM sc CL x y ρ st = some r) (k1 : sc.names.lookup x = some .local → (.ok (putF x y ρ), st) = r → P)
    (k2 : ∀ k o, sc.names.lookup x = some .cell → CL.lookup x = some k → st[k]? = some o → o.isCell = true → (.ok ρ, st.set k (.cell (some y))) = r → P) : P := by
  unfold storeM at e
  cases hk : sc.names.lookup x with
  | none => rw [hk] at e; exact noS e
  | some kd =>
    rw [hk] at e
    cases kd with
    | «local» => exact k1 hk (sInj e)
    | cell => exact bindE e fun k h1 e => bindE e fun o h2 e => iteS e fun h3 e => k2 k o hk h1 h2 h3 (sInj e)
    | _ => exact noS e
theorem OR.cellAt {K : Frag} {prog : Program} {w : World} {a : Addr} {p : Option Addr} {o : O} (h : OR K prog w news al (a, p) o) (ho : o.isCell = true) : ∃ ob, (a, ob) ∈ news ∧ ∃ v₀, ob.data = .cell v₀ := by
  cases o with
  | cell y => obtain ⟨_, ob, v, h1, h2, _⟩ := h.inv; exact ⟨ob, h1, v, h2⟩
  | _ => exact noB ho
theorem storeM_sound (hc : c.Ok G) (hp : c.comp = none) (S : St G c CL ρ m s news al st) {x : Str} {v : Value} {y : V} {ρ' : Loc} {Q : Unit → Shared → Prop} (h : VR (G.K c.w.params) news al v y) (e : storeM c.cs CL x y ρ st = some (.ok ρ', st'))
    (hQ : ∀ s' m' news', St G c CL ρ' m' s' news' al st' → Ext news al news' al → Same s s' → Q () s') : wpAny (model G.prog c.w) A (storeName c.env x v) Q E s := by
  have he : c.env = c.fenv := by unfold Act.env; rw [hp]
  rw [he]
  refine storeM_some e (fun hk e => ?_) fun kk o0 hk hcl hst ho e => ?_
  · obtain ⟨e1, e2⟩ := Prod.mk.inj e
    rw [← e2, ← Except.ok.inj e1] at hQ
    refine storeX_L S.F S.N (fun h' F N => hQ _ (fun z => if z = x then some v else m z) news ⟨F, N, S.H, fun z w hz => ?_, S.C, S.I⟩ Ext.refl ⟨rfl, rfl⟩) hc.hk hk
    rw [putF_lookup] at hz
    by_cases hzx : z = x
    · rw [if_pos hzx] at hz
      exact ⟨v, (Act.look0 hp).mpr (if_pos hzx), sInj hz ▸ h⟩
    · rw [if_neg hzx] at hz
      obtain ⟨u, h1, h2⟩ := S.R z w hz
      exact ⟨u, (Act.look0 hp).mpr ((if_neg hzx).trans ((Act.look0 hp).mp h1)), h2⟩
  · obtain ⟨e1, e2⟩ := Prod.mk.inj e
    rw [← e2, ← Except.ok.inj e1] at hQ
    obtain ⟨a, h1, h2⟩ := S.C _ _ hcl
    have h1' : c.cl.lookup x = some a := by unfold Act.ncl at h1; rw [hp] at h1; exact h1
    obtain ⟨o, hm, v₀, hd⟩ := (S.H.obj _ _ _ h2 hst).cellAt ho
    refine wpAny_storeName_cell hc.hk hk h1' ⟨o, S.N.get hm, hd⟩ fun h' hv hs => ?_
    obtain ⟨o', ho', hd'⟩ := hv
    obtain ⟨S', X⟩ := S.upd (tk := s.toks) h2 (.inl rfl) hm hs ho' (.cell (mem_putLed_at hm) hd' (h.ext S.H (Ext.put (mem_flat.mpr ⟨_, _, h2, .inl rfl⟩))))
    exact hQ _ _ _ S' X ⟨rfl, rfl⟩
theorem storeM_ok {sc : Scope} {x : Str} {y : V} {r : Except Addr Loc × Sto} (e : storeM sc CL x y ρ st = some r) : ∃ ρ' st', r = (.ok ρ', st') :=
  storeM_some e (fun _ e => ⟨_, _, e.symm⟩) fun _ _ _ _ _ _ e => ⟨_, _, e.symm⟩
theorem store_go {sc : Scope} {x : Str} {y : V} {β : Type} {g : Loc → M β} {r : Except Addr β × Sto} {P : Prop} (e : M.bind (storeM sc CL x y ρ) g st = some r) (k : ∀ ρ' st1, storeM sc CL x y ρ st = some (.ok ρ', st1) → g ρ' st1 = some r → P) : P :=
  M.elim e (fun ρ' st1 e1 e2 => k ρ' st1 e1 e2) fun C st1 e1 _ => by
    obtain ⟨_, _, e3⟩ := storeM_ok e1
    exact noR e3.symm
theorem SoundS.assignN (hc : c.Ok G) (hp : c.comp = none) {x : Str} {e : Expr} {xp : Pos} {me : Loc → M V} (hn : noComp e = true) (h1 : ∀ ρ, Sound G c k q CL ρ relV (eval e c.env) (me ρ)) :
    SoundS G c k q CL (exec (.Assign [.Name x xp] e pos) c.env) (fun ρ => M.bind (me ρ) fun y => M.bind (storeM c.cs CL x y ρ) fun ρ' => M.pure (.next, ρ')) := by
  intro ρ st r e1 A s m news al Q E hA S hE hQ
  refine wpAny_Assign_Name ((h1 ρ).goS e1 hA S hE fun y st1 e2 v s1 n1 a1 S1 X1 R1 G1 => store_go e2 fun ρ' st2 e3 e4 => ?_) (swaps_no hn)
  exact storeM_sound hc hp S1 R1 e3 fun s2 m2 n2 S2 X2 G2 => hQ _ _ _ (sInj e4).symm _ s2 m2 n2 _ S2 (X1.trans S.H X2) .next (G1.trans G2)
def putFld (G : Pg) (x : Str) (u : V) : O → Option O
  | .inst C fs => if (G.flds C).contains x && decide (fs.length ≤ 900) then some (.inst C (putF x u fs)) else none
  | _ => none
def setAttrM (G : Pg) (x : Str) (y u : V) : M Unit := fun st => y.hnd?.bind fun k => st[k]?.bind fun o => (putFld G x u o).map fun o' => (.ok (), st.set k o')
theorem setAttr_go {x : Str} {y u : V} {β : Type} {g : Unit → M β} {r : Except Addr β × Sto} {P : Prop} (e : M.bind (setAttrM G x y u) g st = some r)
    (k : ∀ k C fs, y = .hnd k → st[k]? = some (.inst C fs) → x ∈ G.flds C → fs.length ≤ 900 → g () (st.set k (.inst C (putF x u fs))) = some r → P) : P := by
  have key : ∀ p, setAttrM G x y u st = some p → ∃ k C fs, y = .hnd k ∧ st[k]? = some (.inst C fs) ∧ x ∈ G.flds C ∧ fs.length ≤ 900 ∧ (.ok (), st.set k (.inst C (putF x u fs))) = p := fun p h =>
    bindE h fun kk h1 h => bindE h fun o h2 h => by
      obtain ⟨o', h3, h4⟩ := Option.map_eq_some_iff.mp h
      cases o with
      | inst C fs =>
        refine iteS h3 fun hx h3 => ?_
        rw [Bool.and_eq_true, decide_eq_true_iff] at hx
        exact ⟨kk, C, fs, V.hnd_of h1, h2, List.contains_iff_mem.mp hx.1, hx.2, sInj h3 ▸ h4⟩
      | _ => exact noS h3
  exact M.elim e (fun a st1 e1 e2 => by
    obtain ⟨kk, C, fs, h1, h2, h3, h4, h5⟩ := key _ e1
    exact k kk C fs h1 h2 h3 h4 ((Prod.mk.inj h5).2 ▸ e2)) fun _ _ e1 _ => by
    obtain ⟨_, _, _, _, _, _, _, h5⟩ := key _ e1
    exact noR h5
theorem SoundS.assignA (hG : G.Ok) (hc : c.Ok G) {o e : Expr} {x : Str} {xp : Pos} {me mo : Loc → M V} (h1 : ∀ ρ, Sound G c k q CL ρ relV (eval e c.env) (me ρ)) (h2 : ∀ ρ, Sound G c k q CL ρ relV (eval o c.env) (mo ρ)) :
    SoundS G c k q CL (exec (.Assign [.Attribute o x xp] e pos) c.env) (fun ρ => M.bind (me ρ) fun u => M.bind (mo ρ) fun y => M.bind (setAttrM G x y u) fun _ => M.pure (.next, ρ)) := by
  intro ρ st r e1 A s m news al Q E hA S hE hQ
  refine plainObj_wpAny_Assign_Attribute ((h1 ρ).goS e1 hA S hE fun u st1 e2 vu s1 n1 a1 S1 X1 R1 G1 => ?_) swaps_attr
  refine (h2 ρ).goS e2 hA S1 (hE.step S X1 G1) fun y st2 e3 v s2 n2 a2 S2 X2 R2 G2 => setAttr_go e3 fun kk C fs h0 ho hx1 hl e4 => ?_
  exact S2.setAttr hc (h0 ▸ R2) ho (clsOk_of (hG.cls _ _ _ hx1) hx1) hl (R1.ext S1.H X2) fun _ s3 n3 a3 S3 X3 _ G3 => hQ _ _ _ (sInj e4).symm _ s3 m n3 a3 S3 (X1.trans S.H (X2.trans S1.H X3)) .next (G1.trans (G2.trans G3))
theorem SoundS.assignS {o i e : Expr} {xp : Pos} {me mo mi : Loc → M V} (h1 : ∀ ρ, Sound G c k q CL ρ relV (eval e c.env) (me ρ)) (h2 : ∀ ρ, Sound G c k q CL ρ relV (eval o c.env) (mo ρ)) (h3 : ∀ ρ, Sound G c k q CL ρ relV (eval i c.env) (mi ρ)) :
    SoundS G c k q CL (exec (.Assign [.Subscript o i xp] e pos) c.env) (fun ρ => M.bind (me ρ) fun u => M.bind (mo ρ) fun y => M.bind (mi ρ) fun j => fun st => (setItV y j u st).map fun st' => (.ok (.next, ρ), st')) := by
  intro ρ st r e1 A s m news al Q E hA S hE hQ
  refine wpAny_Assign_Subscript ((h1 ρ).goS e1 hA S hE fun u st1 e2 vu s1 n1 a1 S1 X1 R1 G1 => ?_) swaps_sub
  refine (h2 ρ).goS e2 hA S1 (hE.step S X1 G1) fun y st2 e3 v s2 n2 a2 S2 X2 R2 G2 => ?_
  refine (h3 ρ).goS e3 hA S2 ((hE.step S X1 G1).step S1 X2 G2) fun j st3 e4 vj s3 n3 a3 S3 X3 R3 G3 => mapE e4 fun st4 e5 e6 => ?_
  exact setItV_sound S3 (R2.ext S2.H X3) R3 ((R1.ext S1.H X2).ext S2.H X3) e5 fun _ s4 n4 a4 S4 X4 _ G4 => hQ _ _ _ e6.symm _ s4 m n4 a4 S4 (X1.trans S.H (X2.trans S1.H (X3.trans S2.H X4))) .next (G1.trans (G2.trans (G3.trans G4)))
end
noncomputable def noErr {α : Type} (m : M α) : M α := fun st => match m st with
  | some (.ok a, st') => some (.ok a, st')
  | _ => none
theorem noErr_go {α β : Type} {m : M α} {g : α → M β} {st : Sto} {r : Except Addr β × Sto} {P : Prop} (e : M.bind (noErr m) g st = some r) (k : ∀ a st1, m st = some (.ok a, st1) → g a st1 = some r → P) : P := by
  unfold M.bind noErr at e
  cases h : m st with
  | none => rw [h] at e; exact noS e
  | some p =>
    obtain ⟨r1, st1⟩ := p
    rw [h] at e
    cases r1 with
    | ok a => exact k a st1 h e
    | error C => exact noS e
noncomputable def whileM (mt : Loc → M Bool) (mb : Loc → M (Fl × Loc)) : Nat → Loc → M (Fl × Loc)
  | 0, _ => stop
  | n + 1, ρ => M.bind (noErr (mt ρ)) fun b => iteM b (M.bind (noErr (mb ρ)) fun p => match p.1 with
      | .next | .cont => whileM mt mb n p.2
      | .brk => M.pure (.next, p.2)
      | .ret y => M.pure (.ret y, p.2)) (M.pure (.next, ρ))
inductive It where
  | lst (k : Nat)
  | tup (l : List V)
  | rng (a n c : Int)
  | dk (k : Nat)
def itM (it : It) (i : Nat) (st : Sto) : Option (Option V) := match it with
  | .lst k => (lstAt st k).map fun l => l[i]?
  | .tup l => some l[i]?
  | .rng a n c => some (if (i : Int) < n then some (.int (a + i * c)) else none)
  | .dk _ => some none
def itO (k : Nat) : O → Option It
  | .list _ => some (.lst k)
  | .sdict l => if l.isEmpty then some (.dk k) else none
  | _ => none
noncomputable def itOf (y : V) (st : Sto) : Option It := match y with
  | .hnd k => st[k]?.bind (itO k)
  | .tup l => some (.tup l)
  | .rng a b c => if Builtin.Range.small a b c then some (.rng a (Builtin.Range.rangeSize a b c) c) else none
  | _ => none
noncomputable def forM (asg : V → Loc → M Loc) (mb : Loc → M (Fl × Loc)) (it : It) : Nat → Nat → Loc → M (Fl × Loc)
  | 0, _, _ => stop
  | n + 1, i, ρ => M.bind (still fun st => itM it i st) fun o => match o with
    | none => M.pure (.next, ρ)
    | some y => M.bind (noErr (asg y ρ)) fun ρ1 => M.bind (noErr (mb ρ1)) fun p => match p.1 with
      | .next | .cont => forM asg mb it n (i + 1) p.2
      | .brk => M.pure (.next, p.2)
      | .ret y => M.pure (.ret y, p.2)
section
variable {G : Pg} {c : Act} {k : Nat} {q : Bool} {CL : List (Str × Nat)} {ρ : Loc} {m : Str → Option Value} {s s' : Shared} {news news' : Led} {al al' : Al} {st st' : Sto} {A : Around} {E : Value → Shared → Prop} {pos : Pos}
inductive WhI (G : Pg) (c : Act) (CL : List (Str × Nat)) (r : Except Addr (Fl × Loc) × Sto) (F : Nat → Loc → M (Fl × Loc)) (s : Shared) (news : Led) (al : Al) (i : Nat) (s1 : Shared) : Prop where
  | mk {ρ1 : Loc} {st1 : Sto} {m1 : Str → Option Value} {n1 : Led} {a1 : Al} : F i ρ1 st1 = some r → St G c CL ρ1 m1 s1 n1 a1 st1 → Ext news al n1 a1 → Same s s1 → WhI G c CL r F s news al i s1
theorem SoundS.while {t : Expr} {b : List Stmt} {n : Nat} {mt : Loc → M Bool} {mb : Loc → M (Fl × Loc)} (ht : ∀ ρ, Sound G c k q CL ρ relB (isTrue t c.env (eval t c.env)) (mt ρ)) (hb : SoundS G c k q CL (execs b c.env) mb) :
    SoundS G c k q CL (exec (.While t b [] pos) c.env) (whileM mt mb n) := by
  intro ρ st r e1 A s m news al Q E hA S hE hQ
  refine wpAny_While (codeAny_whileLoop (WhI G c CL r (whileM mt mb) s news al) (fun i s1 h => ?_) n (.mk e1 S Ext.refl .refl))
  cases h with | mk e2 S1 X1 G1 =>
  cases i with
  | zero => exact noS e2
  | succ i =>
    refine noErr_go e2 fun b' st2 e3 e4 => (ht _).ok e3 hA S1 fun v s2 n2 a2 S2 X2 R2 G2 => ?_
    rw [show v = b' from R2]
    cases b' with
    | false => exact wpAny_execs_nil (hQ _ _ _ (sInj e4).symm _ s2 _ n2 a2 S2 (X1.trans S.H X2) .next (G1.trans G2))
    | true =>
      refine noErr_go e4 fun p st3 e5 e6 => hb.ok e5 hA S2 fun f s3 m3 n3 a3 S3 X3 R3 G3 => ?_
      have X : Ext news al n3 a3 := X1.trans S.H (X2.trans S1.H X3)
      have Gs := G1.trans (G2.trans G3)
      obtain ⟨fl, ρ3⟩ := p
      cases R3 with
      | next => exact ⟨i, Nat.lt_succ_self _, .mk e6 S3 X Gs⟩
      | cont => exact ⟨i, Nat.lt_succ_self _, .mk e6 S3 X Gs⟩
      | brk => exact hQ _ _ _ (sInj e6).symm _ s3 m3 n3 a3 S3 X .next Gs
      | ret hv => exact hQ _ _ _ (sInj e6).symm _ s3 m3 n3 a3 S3 X (.ret hv) Gs
structure Off (c : Act) (I : Addr) (news : Led) : Prop where
  ne : c.L ≠ I
  old : c.h₀.get? I = none
  out : I ∉ news.map (·.1)
theorem St.off (S : St G c CL ρ m s news al st) {I : Addr} (O : Off c I news) {h' : Heap} {tk : Nat} (hk : ∀ b o, b ≠ I → s.heap.get? b = some o → h'.get? b = some o) : St G c CL ρ m { s with heap := h', toks := tk } news al st :=
  ⟨LCg.fr_but S.F (fun b o hb => hk b o (by simpa using hb)) O.ne O.old, LCg.news_but S.N (fun b o hb => hk b o (by simpa using hb)) fun p hp e => O.out (by rw [← e]; exact List.mem_map_of_mem (f := (·.1)) hp), S.H, S.R, S.C, S.I⟩
theorem St.new_off (S : St G c CL ρ m s news al st) : Off c s.heap.objs.size news :=
  ⟨Nat.ne_of_lt S.F.ns.lt, next_is_new S.F, S.fresh⟩
inductive ItAt (K : Frag) (news : Led) (al : Al) (h : Heap) (I : Addr) (i : Nat) : It → Prop where
  | lst {k : Nat} {a : Addr} : al[k]? = some (a, none) → h.IsListIter I a i → ItAt K news al h I i (.lst k)
  | tup {a : Addr} {l : List V} : VR K news al (.ref a) (.tup l) → h.IsTupleIter I a i → ItAt K news al h I i (.tup l)
  | rng {a n c : Int} : IsRangeIter h I (a + (i : Int) * c) (n - i) c → ItAt K news al h I i (.rng a n c)
  | dk {prog : Program} {w : World} {k : Nat} {a : Addr} {ep : Nat} : h.IsKeyIter I a 0 0 ep → h.DictAt (strKind prog w) a [] ep → ItAt K news al h I i (.dk k)
theorem ItAt.obj {K : Frag} {h : Heap} {I : Addr} {i : Nat} {it : It} (x : ItAt K news al h I i it) : ∃ o n vs, h.get? I = some o ∧ o.cls = .type n ∧ o.data = .fields vs ∧ n ∈ ["list_iterator", "tuple_iterator", "range_iterator", "dict_keyiterator"] ∧ ∀ x t, vs[1]? ≠ some (.str x t) := by
  cases x with
  | lst _ h => obtain ⟨o, h1, h2, h3⟩ := h; exact ⟨o, _, _, h1, h2, h3, by decide, nofun⟩
  | tup _ h => obtain ⟨o, h1, h2, h3⟩ := h; exact ⟨o, _, _, h1, h2, h3, by decide, nofun⟩
  | rng h => exact ⟨_, _, _, h, rfl, rfl, by decide, nofun⟩
  | dk h _ => obtain ⟨o, h1, h2, h3⟩ := h; exact ⟨o, _, _, h1, h2, h3, by decide, nofun⟩
theorem ItAt.there {K : Frag} {h : Heap} {I : Addr} {i : Nat} {it : It} (x : ItAt K news al h I i it) : ∃ o, h.get? I = some o ∧ ¬ Free o := by
  obtain ⟨o, n, vs, h1, h2, h3, h4, h5⟩ := x.obj
  have hn : n ≠ "tuple" ∧ n ≠ "range" := (show ∀ n ∈ ["list_iterator", "tuple_iterator", "range_iterator", "dict_keyiterator"], n ≠ "tuple" ∧ n ≠ "range" by decide) n h4
  exact ⟨o, h1, nf_of (h2 ▸ ty_ne hn.1) fun vs' e => ⟨h2 ▸ ty_ne hn.2, Data.fields.inj (h3.symm.trans e) ▸ h5⟩⟩
theorem ItAt.keep {K : Frag} {h h' : Heap} {I : Addr} {i : Nat} {it : It} (x : ItAt K news al h I i it) (X : Kp news al news' al') (e : h'.get? I = h.get? I) (hd : ∀ k, it = .dk k → ∀ b o, h.get? b = some o → h'.get? b = some o) : ItAt K news' al' h' I i it := by
  cases x with
  | lst h1 h2 => obtain ⟨o, g1, g2⟩ := h2; exact .lst (X.at h1) ⟨o, e.trans g1, g2⟩
  | tup h1 h2 => obtain ⟨o, g1, g2⟩ := h2; exact .tup (h1.kp X) ⟨o, e.trans g1, g2⟩
  | rng h1 => exact .rng (e.trans h1)
  | dk h1 h2 => obtain ⟨o, g1, g2⟩ := h1; exact .dk ⟨o, e.trans g1, g2⟩ (h2.keep (hd _ rfl))
theorem dictAt_any {prog prog' : Program} {w w' : World} {h : Heap} {a : Addr} {ep : Nat} (x : h.DictAt (strKind prog w) a [] ep) : h.DictAt (strKind prog' w') a [] ep := by
  obtain ⟨o, es, h1, h2, h3, _, h5, _⟩ := x
  have : es = #[] := by
    cases es with | mk l => cases h5; rfl
  subst this
  exact ⟨o, #[], h1, h2, h3, fun e he => by simp at he, .nil, List.nodup_nil⟩
set_option tactic.hygienic true in
theorem next_sound (hc : c.Ok G) (hh : A.handled = none) (S : St G c CL ρ m s news al st) {I : Addr} {i : Nat} {it : It} {o : Option V} {Q : Option Value → Shared → Prop} (O : Off c I news) (x : ItAt (G.K c.w.params) news al s.heap I i it) (e : itM it i st = some o)
    (h1 : ∀ y, o = some y → ∀ v s', St G c CL ρ m s' news al st → ItAt (G.K c.w.params) news al s'.heap I (i + 1) it → VR (G.K c.w.params) news al v y → Same s s' → (∀ b o, b ≠ I → s.heap.get? b = some o → s'.heap.get? b = some o) → Q (some v) s')
    (h0 : o = none → ∀ s', St G c CL ρ m s' news al st → Same s s' → (∀ b o, b ≠ I → s.heap.get? b = some o → s'.heap.get? b = some o) → Q none s') : wpAny (model G.prog c.w) A (pyNext (.ref I)) Q E s := by
  have H0 : o = none → ∀ h' tk, (∀ b o, b ≠ I → s.heap.get? b = some o → h'.get? b = some o) → Q none { s with heap := h', toks := tk } := fun ho h' tk hs => h0 ho _ (S.off O hs) ⟨rfl, rfl⟩ hs
  have H1 : ∀ y, o = some y → ∀ v h' tk, (∀ b, b ≠ I → h'.get? b = s.heap.get? b) → ItAt (G.K c.w.params) news al h' I (i + 1) it → VR (G.K c.w.params) news al v y → Q (some v) { s with heap := h', toks := tk } := fun y ho v h' tk hs x r =>
    have k : ∀ b o, b ≠ I → s.heap.get? b = some o → h'.get? b = some o := fun b o hb e => (hs b hb).trans e
    h1 y ho v _ (S.off O k) x r ⟨rfl, rfl⟩ k
  cases x with
  | lst g1 g2 =>
    obtain ⟨l, hk, e⟩ := Option.map_eq_some_iff.mp e
    obtain ⟨vs, n, _, hm, hl, r1⟩ := S.list (.hnd g1) (lstAt_of hk)
    cases o with
    | some y =>
      obtain ⟨v, e1, e2⟩ := r1.get e
      exact wpAny_pyNext_list_item g2 hl (List.getElem?_toArray.trans e1) fun h' hi hs => H1 y rfl v _ s.toks hs.2 (.lst g1 hi) e2
    | none => exact wpAny_pyNext_list_end hh g2 hl (List.getElem?_toArray.trans (List.getElem?_eq_none_iff.mpr (r1.length.symm ▸ List.getElem?_eq_none_iff.mp e))) fun h' hs => H0 rfl _ s.toks hs
  | tup g1 g2 =>
    have e := sInj e
    obtain ⟨vs, t1, r1⟩ := S.tup hc g1
    cases o with
    | some y =>
      obtain ⟨v, e1, e2⟩ := r1.get e
      exact wpAny_pyNext_tuple_item g2 t1 (List.getElem?_toArray.trans e1) fun h' hi hs => H1 y rfl v _ s.toks hs.2 (.tup g1 hi) e2
    | none => exact wpAny_pyNext_tuple_end hh g2 t1 (List.getElem?_toArray.trans (List.getElem?_eq_none_iff.mpr (r1.length.symm ▸ List.getElem?_eq_none_iff.mp e))) fun h' hs => H0 rfl _ s.toks hs
  | rng g1 =>
    rename_i a n c'
    have e := sInj e
    by_cases hlt : (i : Int) < n
    · rw [if_pos hlt] at e
      refine wpAny_pyNext_range_item g1 (by lia) fun h' hi hs => H1 _ e.symm _ _ (s.toks + 1) hs.2 (.rng ?_) .int
      have e1 : a + (i : Int) * c' + c' = a + ((i + 1 : Nat) : Int) * c' := by
        rw [Int.natCast_succ, Int.add_mul, Int.one_mul, Int.add_assoc]
      have e2 : n - (i : Int) - 1 = n - ((i + 1 : Nat) : Int) := by lia
      rw [← e1, ← e2]; exact hi
    · rw [if_neg hlt] at e
      exact wpAny_pyNext_range_end hh g1 (by lia) fun h' hs => H0 e.symm _ s.toks hs
  | dk g1 g2 => exact wpAny_pyNext_dict_end (knd := strKind G.prog c.w) (kvs := ([] : List (Str × Value))) hh g1 (dictAt_any g2) rfl fun h' hs => H0 (sInj e).symm _ s.toks hs
theorem iter_sound (hc : c.Ok G) (S : St G c CL ρ m s news al st) {v : Value} {y : V} {it : It} {Q : Value → Shared → Prop} (h : VR (G.K c.w.params) news al v y) (e : itOf y st = some it)
    (hQ : ∀ I s', St G c CL ρ m s' news al st → Off c I news → ItAt (G.K c.w.params) news al s'.heap I 0 it → Same s s' → Q (.ref I) s') : wpAny (model G.prog c.w) A (pyIter v) Q E s := by
  have P : ∀ o, ItAt (G.K c.w.params) news al (s.heap.push o) s.heap.objs.size 0 it → Q (.ref s.heap.objs.size) { s with heap := s.heap.push o } := fun o x => hQ _ _ (S.off S.new_off (tk := s.toks) fun b o hb e => Heap.get?_push_of_some _ e) S.new_off x ⟨rfl, rfl⟩
  cases y with
  | hnd k =>
    refine bindE e fun o hk e => ?_
    cases o with
    | list l =>
      obtain ⟨a, e0, _⟩ := h.inv
      rw [e0] at h ⊢
      obtain ⟨vs, n, hal, hm, hl, r1⟩ := S.list h hk
      exact wpAny_pyIter_list hl (P _ (sInj e ▸ .lst hal ⟨_, Heap.get?_push_size _ rfl, rfl, rfl⟩))
    | sdict l =>
      refine iteS e fun h0 e => ?_
      have h0 := List.isEmpty_iff.mp h0
      subst h0
      obtain ⟨a, o, kvs, e0, hal, hm, hd, hn, hD, hp⟩ := S.sdict h hk
      have hk0 : kvs = [] := List.length_eq_zero_iff.mp hp.length
      subst hk0
      obtain ⟨ep, hDA⟩ := hD.dictAt
      exact e0 ▸ wpAny_pyIter_dict hn hDA (P _ (sInj e ▸ .dk ⟨_, Heap.get?_push_size _ rfl, rfl, rfl⟩ (hDA.push _)))
    | _ => exact noS e
  | tup l =>
    obtain ⟨a, e0⟩ := h.inv
    rw [e0] at h ⊢
    obtain ⟨vs, t1, r1⟩ := S.tup hc h
    exact wpAny_pyIter_tuple t1 (P _ (sInj e ▸ .tup h ⟨_, Heap.get?_push_size _ rfl, rfl, rfl⟩))
  | rng x y z =>
    refine iteS e fun hs e => ?_
    obtain ⟨_, _, _, _, e0, hm⟩ := h.inv
    rw [e0]
    refine wpAny_pyIter_range (S.N.get hm) hs (P _ (sInj e ▸ .rng ?_))
    rw [Int.natCast_zero, Int.zero_mul, Int.add_zero, Int.sub_zero]
    exact Heap.get?_push_size _ rfl
  | _ => exact noS e
theorem St.with (S : St G c CL ρ m s news al st) {I : Addr} (O : Off c I news) {o : Obj} (ho : s.heap.get? I = some o) : St G c CL ρ m s ((I, o) :: news) al st := by
  refine S.ext Ext.free S.F (fun p hp => ?_) (S.H.free O.out)
  rcases List.mem_cons.mp hp with rfl | hp
  · exact ⟨ho, Ne.symm O.ne, O.old⟩
  · exact S.N p hp
theorem St.without {c0 : Act} {CL0 : List (Str × Nat)} {ρ0 : Loc} {m0 : Str → Option Value} {s0 : Shared} {st0 : Sto} (S : St G c0 CL0 ρ0 m0 s0 news al st0) {I : Addr} {o : Obj} (O : Off c0 I news) (hf : ¬ Free o) (hw : c0.w = c.w) {h' : Heap} (H0 : HR (G.K c.w.params) G.prog c.w news' al' st) (N0 : News c.h₀ c.L h' news') (X : Ext ((I, o) :: news) al news' al') :
    News c.h₀ c.L h' (dropLed I news') ∧ HR (G.K c.w.params) G.prog c.w (dropLed I news') al' st ∧ Ext news al (dropLed I news') al' ∧ Kp news' al' (dropLed I news') al' ∧ I ∉ (dropLed I news').map (·.1) ∧ h'.get? I = some o := by
  have hIal : I ∉ flat al := fun q => O.out (S.H.own_dom q)
  have hIm : (I, o) ∈ news' := X.keep _ (.head _) hIal
  have hIal' : I ∉ flat al' := fun q => by
    obtain ⟨β, e, hβ⟩ := X.more
    rw [e, flat_append] at q
    rcases List.mem_append.mp q with q | q
    · exact hIal q
    · exact hβ _ q (by simp)
  obtain ⟨H', K'⟩ := H0.drop hIal' fun o' ho' => by rw [nodup_eq H0.nd ho' hIm]; exact hf
  have X' : Ext news al (dropLed I news') al' := by
    refine ⟨?_, fun p hp hn => ?_, fun a ha => ?_⟩
    · obtain ⟨β, e, hβ⟩ := X.more
      exact ⟨β, e, fun a ha q => hβ a ha (by rw [List.map_cons]; exact List.mem_cons_of_mem _ q)⟩
    · exact mem_dropLed.mpr ⟨X.keep _ (.tail _ hp) hn, fun e => O.out (by rw [← e]; exact List.mem_map_of_mem (f := (·.1)) hp)⟩
    · have := X.dom a (by simp only [List.map_cons, List.mem_cons]; exact .inr ha)
      obtain ⟨p, hp, e⟩ := List.mem_map.mp this
      exact List.mem_map.mpr ⟨p, mem_dropLed.mpr ⟨hp, fun e2 => O.out (by rw [← e2, e]; exact ha)⟩, e⟩
  refine ⟨fun p hp => N0 p (mem_dropLed.mp hp).1, H', X', K', fun q => ?_, N0.get hIm⟩
  obtain ⟨p, hp, e⟩ := List.mem_map.mp q
  exact (mem_dropLed.mp hp).2 e
def Back (G : Pg) (c : Act) (news : Led) (al : Al) (os : Led) : Prop := ∀ {h' : Heap} {news' : Led} {al' : Al} {st : Sto}, HR (G.K c.w.params) G.prog c.w news' al' st → News c.h₀ c.L h' news' → Ext (os ++ news) al news' al' → ∀ {P : Prop},
  (∀ n8, News c.h₀ c.L h' n8 → HR (G.K c.w.params) G.prog c.w n8 al' st → Ext news al n8 al' → Kp news' al' n8 al' → (∀ p ∈ os, p.1 ∉ n8.map (·.1) ∧ h'.get? p.1 = some p.2) → (∀ X, X ∉ news'.map (·.1) → X ∉ n8.map (·.1)) → P) → P
theorem Back.nil : Back G c news al [] := fun H N X _ k => k _ N H X ⟨⟨[], (List.append_nil _).symm⟩, fun _ h _ => h⟩ (fun _ h => absurd h List.not_mem_nil) fun _ h => h
theorem Back.cons {os : Led} (B : Back G c news al os) (S : St G c CL ρ m s (os ++ news) al st) {I : Addr} {o : Obj} (O : Off c I (os ++ news)) (hf : ¬ Free o) : Back G c news al ((I, o) :: os) := fun H N X _ k => by
  obtain ⟨N1, H1, X1, K1, O1, g1⟩ := S.without (c := c) O hf rfl H N X
  exact B H1 N1 X1 fun n8 N8 H8 X8 K8 D8 M8 => k n8 N8 H8 X8 ⟨K8.more, fun p hp hf => K8.keep p (K1.keep p hp hf) hf⟩ (List.forall_mem_cons.mpr ⟨⟨M8 _ O1, g1⟩, D8⟩) fun X h => M8 X fun q => h (by
    obtain ⟨p, hp, e⟩ := List.mem_map.mp q
    exact List.mem_map.mpr ⟨p, (mem_dropLed.mp hp).1, e⟩)
theorem Off.cons {X : Addr} {I : Addr} {o : Obj} (O : Off c I news) (h : I ≠ X) : Off c I ((X, o) :: news) := ⟨O.ne, O.old, fun q => (List.mem_cons.mp q).elim h O.out⟩
theorem St.weak (hp : c.comp = none) (S : St G c CL ρ m s news al st) (N : News c.h₀ c.L s.heap news') (H : HR (G.K c.w.params) G.prog c.w news' al st) (K : Kp news al news' al) : St G c CL ρ m s news' al st :=
  ⟨S.F, N, H, fun x y e => by
    obtain ⟨v, h1, h2⟩ := S.R x y e
    refine ⟨v, ?_, h2.kp K⟩
    unfold Act.Look at h1 ⊢
    rw [hp] at h1 ⊢
    exact h1, S.C, S.I⟩
theorem ItAt.letGo {K : Frag} {I : Addr} {i : Nat} {it : It} {tg : Expr} {v : Value} {Q : Unit → Shared → Prop} (x : ItAt K news al s.heap I i it) (h : Q () s) : wpAny (model G.prog c.w) A (letOwnedTupleGo tg (.ref I) v) Q E s := by
  obtain ⟨o, n, vs, ho, hc, hd, hn, _⟩ := x.obj
  have hn : (["enumerate", "zip", "dict_itemiterator", "dict_reverseitemiterator", "odict_iterator", "itertools.zip_longest", "itertools.pairwise"].contains n) = false :=
    (show ∀ n ∈ ["list_iterator", "tuple_iterator", "range_iterator", "dict_keyiterator"], (["enumerate", "zip", "dict_itemiterator", "dict_reverseitemiterator", "odict_iterator", "itertools.zip_longest", "itertools.pairwise"].contains n) = false by decide) n hn
  cases tg <;> first
    | exact wpAny_pure h
    | (cases v <;> first
        | exact wpAny_pure h
        | (refine wpAny_bind (wpAny_load ho ?_)
           rw [hc, hd]
           dsimp only
           rw [hn]
           exact wpAny_pure h))
def SoundA (G : Pg) (c : Act) (k : Nat) (q : Bool) (CL : List (Str × Nat)) (t : Value → Sem Unit) (asg : V → Loc → M Loc) : Prop :=
  ∀ (ρ : Loc) (st : Sto) (y : V) (ρ' : Loc) (st' : Sto), asg y ρ st = some (.ok ρ', st') → ∀ (A : Around) (s : Shared) (m : Str → Option Value) (news : Led) (al : Al) (v : Value) (Q : Unit → Shared → Prop) (E : Value → Shared → Prop),
    Ar c k q A → St G c CL ρ m s news al st → VR (G.K c.w.params) news al v y →
    (∀ s' m' news' al', St G c CL ρ' m' s' news' al' st' → Ext news al news' al' → Same s s' → Q () s') → wpAny (model G.prog c.w) A (t v) Q E s
inductive FoI (G : Pg) (c : Act) (CL : List (Str × Nat)) (r : Except Addr (Fl × Loc) × Sto) (F : Nat → Nat → Loc → M (Fl × Loc)) (I : Addr) (it : It) (s : Shared) (news : Led) (al : Al) (j : Nat) (s3 : Shared) : Prop where
  | mk {i : Nat} {ρ3 : Loc} {st3 : Sto} {m3 : Str → Option Value} {n3 : Led} {a3 : Al} : F j i ρ3 st3 = some r → St G c CL ρ3 m3 s3 n3 a3 st3 → Ext news al n3 a3 → Off c I n3 → ItAt (G.K c.w.params) n3 a3 s3.heap I i it → Same s s3 → FoI G c CL r F I it s news al j s3
theorem SoundS.for {tg it : Expr} {b : List Stmt} {n : Nat} {asg : V → Loc → M Loc} {mi : Loc → M V} {mb : Loc → M (Fl × Loc)} (hp : c.comp = none) (hc : c.Ok G) (hq : q = true) (hset : ∀ x, foldedSetIterable it c.env x = pure x)
    (hi : ∀ ρ, Sound G c k q CL ρ relV (eval it c.env) (mi ρ)) (ha : SoundA G c k q CL (assign tg c.env) asg) (hb : SoundS G c k q CL (execs b c.env) mb) :
    SoundS G c k q CL (exec (.For tg it b [] pos) c.env) (fun ρ => M.bind (mi ρ) fun y => M.bind (still fun st => itOf y st) fun it => forM asg mb it n 0 ρ) := by
  intro ρ st r e1 A s m news al Q E hA S hE hQ
  refine wpAny_For ((hi ρ).goS e1 hA S hE fun y st1 e2 v s1 n1 a1 S1 X1 R1 G1 => still_go e2 fun itv e3 e4 => ?_) hset
  refine iter_sound hc S1 R1 e3 fun I s2 S2 O2 I2 G2 => ?_
  refine codeAny_forLoop_any (FoI G c CL r (forM asg mb itv) I itv s n1 a1) (fun j s3 h => ?_) n (.mk e4 S2 Ext.refl O2 I2 (G1.trans G2))
  cases h with | mk e5 S3 X3 O3 I3 G3 =>
  cases j with
  | zero => exact noS e5
  | succ j =>
    refine still_go e5 fun o e6 e7 => next_sound hc (hA.hd hq) S3 O3 I3 e6 (fun y' ho v s4 S4 I4 R4 G4 _ => ?_) fun ho s4 S4 G4 _ => ?_
    · rw [ho] at e7
      refine noErr_go e7 fun ρ5 st5 e8 e9 => noErr_go e9 fun p st6 e10 e11 => ?_
      obtain ⟨oI, hoI, hfI⟩ := I4.there
      refine I4.letGo ?_
      have S4' := S4.with O3 hoI
      refine ha _ _ y' ρ5 st5 e8 A s4 _ _ _ v _ _ hA S4' (R4.ext S4.H Ext.free) fun s5 m5 n5 a5 S5 X5 G5 => ?_
      refine hb.ok e10 hA S5 fun f s6 m6 n6 a6 S6 X6 R6 G6 => ?_
      obtain ⟨N7, H7, X7, K7, O7, g7⟩ := S4.without O3 hfI rfl S6.H S6.N (X5.trans S4'.H X6)
      have S7 := S6.weak hp N7 H7 K7
      have X17 := X3.trans S1.H X7
      have Gs := G3.trans (G4.trans (G5.trans G6))
      have go : forM asg mb itv j _ p.2 st6 = some r → ∃ j', j' < j + 1 ∧ FoI G c CL r (forM asg mb itv) I itv s n1 a1 j' s6 := fun e => ⟨j, Nat.lt_succ_self _, .mk e S7 X17 ⟨O3.ne, O3.old, O7⟩ (I4.keep (X7.kp S4.H) (g7.trans hoI.symm) (fun k z => by rw [z] at e6; rw [ho] at e6; exact noS (sInj e6))) Gs⟩
      have stop := fun fl (e : some (Except.ok (fl, p.2), st6) = some r) f (R : FlR (G.K c.w.params) (dropLed I n6) a6 f fl) => hQ fl _ _ (sInj e).symm f s6 m6 _ a6 S7 (X1.trans S.H X17) R Gs
      obtain ⟨fl, ρ6⟩ := p
      cases R6 with
      | next => exact go e11
      | cont => exact go e11
      | brk => exact stop _ e11 _ .next
      | ret hv => exact stop _ e11 _ (.ret (hv.kp K7))
    · rw [ho] at e7
      exact wpAny_execs_nil (hQ _ _ _ (sInj e7).symm _ s4 _ _ _ S4 (X1.trans S.H X3) .next (G3.trans G4))
theorem SoundA.name (hc : c.Ok G) (hp : c.comp = none) {x : Str} {p : Pos} : SoundA G c k q CL (assign (.Name x p) c.env) (fun y ρ => storeM c.cs CL x y ρ) := by
  intro ρ st y ρ' st' e A s m news al v Q E hA S h hQ
  exact wpAny_assign_Name (storeM_sound hc hp S h e fun s' m' news' S' X' G' => hQ s' m' news' al S' X' G')
def storesM (sc : Scope) (CL : List (Str × Nat)) : List Str → List V → Loc → M Loc
  | [], [], ρ => M.pure ρ
  | x :: xs, y :: ys, ρ => M.bind (storeM sc CL x y ρ) fun ρ' => storesM sc CL xs ys ρ'
  | _, _, _ => stop
def nameOf : Expr → Option Str
  | .Name x _ => some x
  | _ => none
def namesOf : List Expr → Option (List Str)
  | [] => some []
  | e :: r => (nameOf e).bind fun x => (namesOf r).map (x :: ·)
theorem nameOf_of {e : Expr} {x : Str} (h : nameOf e = some x) : ∃ p, e = .Name x p := by
  cases e <;> first | exact noS h | exact ⟨_, congrArg (Expr.Name · _) (sInj h)⟩
theorem names_each {env : Env} {es : List Expr} : ∀ {xs : List Str}, namesOf es = some xs → (assignEach es env).length = xs.length ∧ (assignEach es env).findIdx? (·.1) = none := by
  induction es with
  | nil => exact fun e => sInj e ▸ ⟨rfl, rfl⟩
  | cons e0 r ih =>
    refine fun e => bindE e fun x h1 e => mapE e fun ys e1 e2 => ?_
    obtain ⟨p, h3⟩ := nameOf_of h1
    obtain ⟨i1, i2⟩ := ih e1
    rw [h3, ← e2]
    refine ⟨congrArg (· + 1) i1, ?_⟩
    show ((false, assign (.Name x p) env) :: assignEach r env).findIdx? (·.1) = none
    rw [List.findIdx?_cons, i2]; rfl
theorem storesM_ok {sc : Scope} : ∀ {xs : List Str} {ys : List V} {ρ : Loc} {st : Sto} {r : Except Addr Loc × Sto}, storesM sc CL xs ys ρ st = some r → ∃ ρ' st', r = (.ok ρ', st')
  | [], [], _, _, _, e => ⟨_, _, (sInj e).symm⟩
  | x :: xs, y :: ys, ρ, st, r, e => store_go (g := fun ρ' => storesM sc CL xs ys ρ') e fun ρ1 st1 e1 e2 => storesM_ok e2
  | [], _ :: _, _, _, _, e => noS e
  | _ :: _, [], _, _, _, e => noS e
theorem stores_sound (hc : c.Ok G) (hp : c.comp = none) {es : List Expr} : ∀ {xs : List Str} {vs : List Value} {ys : List V} {ρ : Loc} {m : Str → Option Value} {s : Shared} {news : Led} {st : Sto} {ρ' : Loc} {Q : Unit → Shared → Prop},
    namesOf es = some xs → St G c CL ρ m s news al st → VRs (G.K c.w.params) news al vs ys → storesM c.cs CL xs ys ρ st = some (.ok ρ', st') →
    (∀ s' m' news', St G c CL ρ' m' s' news' al st' → Ext news al news' al → Same s s' → Q () s') → wpAny (model G.prog c.w) A (assignInOrder ((assignEach es c.env).map (·.2)) vs) Q E s := by
  induction es with
  | nil =>
    intro xs vs ys ρ m s news st ρ' Q e S h e1 hQ
    rw [← sInj e] at e1
    cases ys with
    | nil =>
      obtain ⟨z1, z2⟩ := Prod.mk.inj (sInj e1)
      rw [show vs = [] from h.inv]
      exact wpAny_pure (hQ s m news (z2 ▸ Except.ok.inj z1 ▸ S) Ext.refl .refl)
    | cons _ _ => exact noS e1
  | cons e0 r ih =>
    intro xs vs ys ρ m s news st ρ' Q e S h e1 hQ
    refine bindE e fun x h1 e => mapE e fun zs e2 e3 => ?_
    obtain ⟨p, h3⟩ := nameOf_of h1
    rw [← e3] at e1
    cases ys with
    | nil => exact noS e1
    | cons y ys =>
      obtain ⟨v, ws, e4, h1, h2⟩ := h.inv
      rw [h3, e4]
      refine store_go (g := fun ρ' => storesM c.cs CL zs ys ρ') e1 fun ρ1 st1 e5 e6 => ?_
      show wpAny _ _ (do holding _ (assign (.Name x p) c.env _); assignInOrder ((assignEach r c.env).map (·.2)) _) _ _ _
      refine wpAny_bind (wpAny_holding (wpAny_assign_Name (storeM_sound hc hp S h1 e5 fun s2 m2 n2 S2 X2 G2 => ?_)))
      exact ih e2 S2 (h2.ext S.H X2) e6 fun s3 m3 n3 S3 X3 G3 => hQ s3 m3 n3 S3 (X2.trans S.H X3) (G2.trans G3)
def unpackM (sc : Scope) (CL : List (Str × Nat)) (xs : List Str) (y : V) (ρ : Loc) : M Loc := fun st => y.tup?.bind fun l => if l.length = xs.length then storesM sc CL xs l ρ st else none
theorem SoundA.tup (hc : c.Ok G) (hp : c.comp = none) (hq : q = true) {es : List Expr} {xs : List Str} {n : Nat} {p : Pos} (hn : namesOf es = some xs) : SoundA G c k q CL (assign (.Tuple es n p) c.env) (fun y ρ => unpackM c.cs CL xs y ρ) := by
  intro ρ st y ρ' st' e A s m news al v Q E hA S h hQ
  refine bindE e fun l e1 e => iteS e fun hl e => ?_
  obtain ⟨a, e0, h⟩ := h.vtup e1
  rw [e0]
  obtain ⟨vs, t1, r1⟩ := S.tup hc h
  obtain ⟨g1, g2⟩ := names_each (env := c.env) hn
  refine unpackN_ S.F S.N t1 (hA.hd hq) (g1.trans (hl.symm.trans r1.length.symm)) g2 fun h' F N => ?_
  exact stores_sound hc hp hn (s := { s with heap := h' }) (S.ext Ext.refl F N S.H) r1 e fun s' m' n' S' X' G' => hQ s' m' n' al S' X' G'
end
noncomputable def clos {α : Type} (cells : List (Str × α)) : List (Str × NameKind) → List (Str × α) → Option (List (Str × α))
  | [], acc => some acc
  | (n, kd) :: r, acc => if kd == .free then (cells.lookup n).bind fun a => clos cells r ((n, a) :: acc) else clos cells r acc
theorem clos_for {env : Env} {names : List (Str × NameKind)} : ∀ {acc cl : List (Str × Addr)}, clos env.cells names acc = some cl →
    (forIn names acc fun (x : Str × NameKind) (cs : List (Str × Addr)) => (if x.2 == .free then do let a ← cellOf env x.1; pure (ForInStep.yield ((x.1, a) :: cs)) else pure (ForInStep.yield cs) : Sem (ForInStep (List (Str × Addr))))) = pure cl := by
  induction names with
  | nil => exact fun e => sInj e ▸ rfl
  | cons p r ih =>
    intro acc cl e
    rw [List.forIn_cons]
    refine iteE e (fun hk e => bindE e fun a hl e => ?_) fun hk e => ?_
    · have h1 : cellOf env p.1 = pure a := by unfold cellOf; rw [hl]
      rw [if_pos hk, h1]
      exact ih e
    · rw [if_neg hk]
      exact ih e
theorem closureFor_of {scope : Scope} {env : Env} {cl : List (Str × Addr)} (h : clos env.cells scope.names [] = some cl) : closureFor scope env = pure cl := by
  unfold closureFor
  have := clos_for h
  simp only at this ⊢
  rw [this]; rfl
theorem clos_rel {al : Al} {cl : List (Str × Addr)} {CL : List (Str × Nat)} (hC : ∀ x k, CL.lookup x = some k → ∃ a, cl.lookup x = some a ∧ al[k]? = some (a, none)) {names : List (Str × NameKind)} : ∀ {acc : List (Str × Addr)} {accN r : List (Str × Nat)},
    (∀ x k, accN.lookup x = some k → ∃ a, acc.lookup x = some a ∧ al[k]? = some (a, none)) → clos CL names accN = some r → ∃ r', clos cl names acc = some r' ∧ ∀ x k, r.lookup x = some k → ∃ a, r'.lookup x = some a ∧ al[k]? = some (a, none) := by
  induction names with
  | nil => exact fun h e => ⟨_, rfl, sInj e ▸ h⟩
  | cons p rest ih =>
    intro acc accN r h e
    unfold clos
    refine iteE e (fun hk e => bindE e fun kk hl e => ?_) fun hk e => ?_
    · obtain ⟨a, h1, h2⟩ := hC _ _ hl
      rw [if_pos hk, h1]
      refine ih (fun x k' hx => ?_) e
      rw [List.lookup_cons] at hx ⊢
      cases hx' : x == p.1 with
      | true => rw [hx'] at hx; exact ⟨a, rfl, sInj hx ▸ h2⟩
      | false => rw [hx'] at hx; exact h x k' hx
    · rw [if_neg hk]
      exact ih h e
def testsM (f : Expr → M Bool) : List Expr → M Bool
  | [] => M.pure true
  | x :: r => M.bind (f x) fun b => iteM b (testsM f r) (M.pure false)
def compM (x : Str) (mt : Loc → M Bool) (me : Loc → M V) (it : It) : Nat → Nat → List V → M (List V)
  | 0, _, _ => stop
  | n + 1, i, acc => M.bind (still fun st => itM it i st) fun o => match o with
    | none => M.pure acc
    | some y => M.bind (noErr (mt [(x, y)])) fun b => iteM b (M.bind (noErr (me [(x, y)])) fun z => fun st => if acc.length < sizeLine then compM x mt me it n (i + 1) (acc ++ [z]) st else none) (compM x mt me it n (i + 1) acc)
theorem compM_ok {x : Str} {mt : Loc → M Bool} {me : Loc → M V} {it : It} {n : Nat} : ∀ {i : Nat} {acc : List V} {st : Sto} {r : Except Addr (List V) × Sto}, compM x mt me it n i acc st = some r → ∃ l st', r = (.ok l, st') := by
  induction n with
  | zero => exact fun e => noS e
  | succ n ih =>
    exact fun {i acc st r} e => still_go e fun o _ e1 => by
      cases o with
      | none => exact ⟨_, _, (sInj e1).symm⟩
      | some y =>
        exact noErr_go e1 fun b st1 _ e2 => by
          cases b with
          | false => exact ih e2
          | true => exact noErr_go e2 fun z st2 _ e3 => iteS e3 fun _ e3 => ih e3
section
variable {G : Pg} {c : Act} {k : Nat} {q : Bool} {CL : List (Str × Nat)} {ρ : Loc} {m : Str → Option Value} {s s' : Shared} {news news' : Led} {al al' : Al} {st st' : Sto} {A : Around} {E : Value → Shared → Prop} {pos : Pos}
noncomputable abbrev Act.inComp (c : Act) (C : Addr) (sc : Scope) (cl : List (Str × Addr)) : Act := { c with comp := some (C, sc, cl) }
theorem inComp_ok {C : Addr} {sc : Scope} {cl : List (Str × Addr)} (hc : c.Ok G) (hk : sc.kind = .function) : (c.inComp C sc cl).Ok G :=
  ⟨hc.B, hc.hk, fun C' sc' cl' e => by cases e; exact hk, hc.X, hc.T, hc.cd⟩
theorem inComp_ar {C : Addr} {sc : Scope} {cl : List (Str × Addr)} (hA : Ar c k q A) : Ar (c.inComp C sc cl) k q A := ⟨hA.fr, hA.dep, hA.un, hA.hd⟩
theorem tests_off {p : Expr → Sem Bool} (l : List Expr) : (forIn l false fun x r => if r = true then do let ok ← p x; pure (ForInStep.yield ok) else pure (ForInStep.yield r) : Sem Bool) = pure false := by
  induction l with
  | nil => rfl
  | cons y l ih =>
    rw [List.forIn_cons, if_neg Bool.false_ne_true, pure_bind]
    exact ih
theorem tests_sound {f : Expr → M Bool} {xs : List Expr} (h : ∀ x ∈ xs, Sound G c k q CL ρ relB (isTrue x c.env (eval x c.env)) (f x)) :
    Sound G c k q CL ρ relB (forIn xs true fun x r => if r = true then do let ok ← isTrue x c.env (eval x c.env); pure (ForInStep.yield ok) else pure (ForInStep.yield r)) (testsM f xs) := by
  induction xs with
  | nil =>
    intro st r e A s m news al Q E hA S hE hQ
    rw [List.forIn_nil]
    exact wpAny_pure (hQ _ _ (sInj e).symm _ s news al S Ext.refl rfl .refl)
  | cons x xs ih =>
    intro st r e A s m news al Q E hA S hE hQ
    rw [List.forIn_cons, if_pos rfl]
    refine wpAny_bind (wpAny_bind ((h x (.head _)).go e hA S hE fun z st1 e1 v1 s1 n1 a1 S1 X1 R1 G1 => wpAny_pure ?_))
    rw [show v1 = z from R1]
    cases z with
    | false =>
      show wpAny _ _ (forIn xs false _) _ _ _
      rw [tests_off]
      exact wpAny_pure (hQ _ _ (sInj e1).symm _ s1 n1 a1 S1 X1 rfl G1)
    | true => exact ih (fun y hy => h y (.tail _ hy)) st1 r e1 A s1 m n1 a1 Q E hA S1 (hE.step S X1 G1) fun y st' x v s' n' a' S' X' R' G' => hQ y st' x v s' n' a' S' (X1.trans S.H X') R' (G1.trans G')
theorem notFree_ns {o : Obj} {mm : Str → Option Value} (h : LCg.NsObj o mm) : ¬ Free o := by
  obtain ⟨es, ep, hd, _⟩ := h
  exact nf_data (hd ▸ nofun) (hd ▸ nofun)
theorem notFree_lst {its : Array Value} {n : Nat} : ¬ Free (listOf its n) := nf_of (ty_ne (by decide)) nofun
theorem comp_env {C : Addr} {sc : Scope} {cl : List (Str × Addr)} (hp : c.comp = none) : (c.inComp C sc cl).env = compEnvC sc cl C c.env := by
  show compEnvC sc cl C c.fenv = _
  congr 1
  unfold Act.env
  rw [hp]
section
variable {elt : Expr} {x : Str} {ifs : List Expr} {sc : Scope} {cl : List (Str × Addr)} {CL' : List (Str × Nat)} {mt : Loc → M Bool} {me : Loc → M V} {I C D : Addr} {it : It} {st1 : Sto} {r : List V} {P : Prop}
theorem comp_in {oI oC oD : Obj} {v : Value} {y : V} {mm : Str → Option Value} (S : St G c CL ρ m s news al st) (OI : Off c I news) (OC : Off c C news) (OD : Off c D news) (nIC : I ≠ C) (nID : I ≠ D) (nCD : C ≠ D) (eI : s.heap.get? I = some oI) (fI : ¬ Free oI) (eC : s.heap.get? C = some oC) (hN : LCg.NsObj oC mm) (eD : s.heap.get? D = some oD) (fD : ¬ Free oD)
    (hv : mm x = some v) (R : VR (G.K c.w.params) news al v y) (hcl : ∀ x k, CL'.lookup x = some k → ∃ a, cl.lookup x = some a ∧ al[k]? = some (a, none))
    (f : ∀ L, St G (c.inComp C sc cl) CL' [(x, y)] m s L al st → (∀ {ρ7 : Loc} {s7 : Shared} {n7 : Led} {a7 : Al} {st7 : Sto}, St G (c.inComp C sc cl) CL' ρ7 m s7 n7 a7 st7 → Ext L al n7 a7 → ∀ {P : Prop}, (∀ n8, St G c CL ρ m s7 n8 a7 st7 → Ext news al n8 a7 → Kp n7 a7 n8 a7 → Off c I n8 → Off c C n8 → Off c D n8 → s7.heap.get? I = some oI → s7.heap.get? C = some oC → s7.heap.get? D = some oD → P) → P) → P) : P := by
  have T1 := S.with OD eD
  have OC1 : Off c C ((D, oD) :: news) := OC.cons nCD
  have T2 := T1.with OC1 eC
  have OI1 : Off c I ((C, oC) :: (D, oD) :: news) := (OI.cons nID).cons nIC
  have T3 := T2.with OI1 eI
  have B : Back G c news al [(I, oI), (C, oC), (D, oD)] := Back.cons (Back.cons (Back.cons Back.nil S OD fD) T1 OC1 (notFree_ns hN)) T2 OI1 fI
  refine f _ ⟨T3.F, T3.N, T3.H, fun z w hz => ?_, hcl, T3.I⟩ fun {ρ7 s7 n7 a7 st7} S7 X7 P g => B S7.H S7.N X7 fun n8 N8 H8 X8 K8 D8 _ => ?_
  · rw [List.lookup_cons] at hz
    cases hzx : z == x with
    | true =>
      rw [hzx] at hz
      rw [← sInj hz, eq_of_beq hzx]
      exact ⟨v, ⟨oC, mm, .tail _ (.head _), fun h => OC.out (S.H.own_dom h), hN, hv⟩, R.kp ⟨⟨[], (List.append_nil _).symm⟩, fun p hp _ => .tail _ (.tail _ (.tail _ hp))⟩⟩
    | false => rw [hzx] at hz; exact noS hz
  · have dI := D8 _ (.head _)
    have dC := D8 _ (.tail _ (.head _))
    have dD := D8 _ (.tail _ (.tail _ (.head _)))
    refine g n8 ⟨S7.F, N8, H8, fun z w hz => ?_, fun z kk hz => ?_, S7.I⟩ X8 K8 ⟨OI.ne, OI.old, dI.1⟩ ⟨OC.ne, OC.old, dC.1⟩ ⟨OD.ne, OD.old, dD.1⟩ dI.2 dC.2 dD.2
    · obtain ⟨u, h1, h2⟩ := S.R z w hz
      exact ⟨u, h1.ext X8, h2.kp (X8.kp S.H)⟩
    · obtain ⟨a, h1, h2⟩ := S.C z kk hz
      exact ⟨a, h1, (X8.kp S.H).at h2⟩
inductive CInv (G : Pg) (c : Act) (CL : List (Str × Nat)) (ρ : Loc) (m : Str → Option Value) (F : Nat → Nat → List V → M (List V)) (r : Except Addr (List V) × Sto) (I C D : Addr) (it : It) (s : Shared) (news : Led) (al : Al) (j : Nat) (s3 : Shared) : Prop
  | mk {i : Nat} {acc : List V} {st3 : Sto} {n3 : Led} {a3 : Al} {vs : List Value} {nn : Nat} {mm : Str → Option Value} (e : F j i acc st3 = some r) (S : St G c CL ρ m s3 n3 a3 st3) (X : Ext news al n3 a3) (OI : Off c I n3) (OC : Off c C n3) (OD : Off c D n3) (hI : ItAt (G.K c.w.params) n3 a3 s3.heap I i it) (hC : s3.heap.Ns C mm)
    (hD : s3.heap.get? D = some (listOf vs.toArray nn)) (V : VRs (G.K c.w.params) n3 a3 vs acc) (g : Same s s3) : CInv G c CL ρ m F r I C D it s news al j s3
theorem compLoop_sound {iter : Expr} {px cpos : Pos} {n i : Nat} {acc : List V} {vs : List Value} {nn : Nat} {mm : Str → Option Value}
    {R : Result → Shared → Prop} (hc : c.Ok G) (hp : c.comp = none) (hh : A.handled = none) (hA : Ar c k q A) (hkind : sc.kind = .function) (hx : sc.names.lookup x = some .local)
    (ht : ∀ ρ, Sound G (c.inComp C sc cl) k q CL' ρ relB (forIn ifs true fun x r => if r = true then do let ok ← isTrue x (c.inComp C sc cl).env (eval x (c.inComp C sc cl).env); pure (ForInStep.yield ok) else pure (ForInStep.yield r)) (mt ρ))
    (he : ∀ ρ, Sound G (c.inComp C sc cl) k q CL' ρ relV (eval elt (c.inComp C sc cl).env) (me ρ))
    (hcl : ∀ al', (∃ β, al' = al ++ β) → ∀ x k, CL'.lookup x = some k → ∃ a, cl.lookup x = some a ∧ al'[k]? = some (a, none))
    (e : compM x mt me it n i acc st = some (.ok r, st1)) (S : St G c CL ρ m s news al st)
    (OI : Off c I news) (OC : Off c C news) (OD : Off c D news) (nIC : I ≠ C) (nID : I ≠ D) (nCD : C ≠ D) (hI : ItAt (G.K c.w.params) news al s.heap I i it) (hC : s.heap.Ns C mm) (hD : s.heap.get? D = some (listOf vs.toArray nn)) (hvs : VRs (G.K c.w.params) news al vs acc)
    (hR : ∀ s' news' al' vs' nn' mm', St G c CL ρ m s' news' al' st1 → Ext news al news' al' → Off c C news' → Off c D news' → s'.heap.Ns C mm' → s'.heap.get? D = some (listOf vs'.toArray nn') → VRs (G.K c.w.params) news' al' vs' r → Same s s' → R (.ok .next) s') :
    codeAny (model G.prog c.w) A (.compLoop (.ListComp elt [⟨.Name x px, iter, ifs, 0⟩] sc cpos) 0 (.ref I) (.ref D) (compEnvC sc cl C c.env)) R s := by
  have hee := comp_env (sc := sc) (cl := cl) (C := C) hp
  rw [hee] at ht he
  refine codeAny_compLoop_tests (CInv G c CL ρ m (compM x mt me it) (.ok r, st1) I C D it s news al) (fun j s3 h => ?_) n (.mk e S Ext.refl OI OC OD hI hC hD hvs .refl)
  cases h with | @mk i acc st3 n3 a3 vs nn mm e5 S3 X3 OI3 OC3 OD3 I3 C3 D3 V3 G3 =>
  cases j with
  | zero => exact noS e5
  | succ j =>
    refine still_go e5 fun o e6 e7 => next_sound hc hh S3 OI3 I3 e6 (fun y ho v s4 S4 I4 R4 G4 k4 => ?_) fun ho s4 S4 G4 k4 => ?_
    · rw [ho] at e6 e7
      have hdk : ∀ k, it = .dk k → False := fun k z => by rw [z] at e6; exact noS (sInj e6)
      refine noErr_go e7 fun b st5 e8 e9 => wpAny_assign_Name (wpAny_storeName_local (lookup_relabel_local hx) (C3.at' fun o e => k4 C o (Ne.symm nIC) e) (fun h5 hn5 hs5 => ?_) (by
        show ((relabel sc c.env).kind == .class || ((relabel sc c.env).kind == .module && _)) = false
        rw [show (relabel sc c.env).kind = .function from hkind]; rfl))
      have k5 : ∀ b o, b ≠ C → s4.heap.get? b = some o → h5.get? b = some o := fun b o hb e => (hs5.2 b hb).trans e
      obtain ⟨oI, hoI, hfI⟩ := I4.there
      obtain ⟨oC, hoC, hNC⟩ := LCg.ns_obj hn5
      refine comp_in (S4.off OC3 (tk := s4.toks + 1) k5) OI3 OC3 OD3 nIC nID nCD (k5 I oI nIC hoI) hfI hoC hNC (k5 D _ (Ne.symm nCD) (k4 D _ (Ne.symm nID) D3)) notFree_lst (if_pos rfl) R4 (hcl a3 (X3.more.elim fun β h => ⟨β, h.1⟩)) fun L Sc back => (ht [(x, y)]).ok e8 (inComp_ar hA) Sc fun ok s6 n6 a6 S6 X6 R6 G6 => ?_
      have Gs : Same s s6 := G3.trans (G4.trans (Same.trans ⟨rfl, rfl⟩ G6))
      rw [show ok = b from R6]
      have next : ∀ {s7 : Shared} {n8 : Led} {a7 : Al} {st7 : Sto} {acc : List V} {vs : List Value} {nn : Nat}, compM x mt me it j (i + 1) acc st7 = some (.ok r, st1) → St G c CL ρ m s7 n8 a7 st7 → Ext n3 a3 n8 a7 → Off c I n8 → Off c C n8 → Off c D n8 → s7.heap.get? I = some oI → s7.heap.get? C = some oC → s7.heap.get? D = some (listOf vs.toArray nn) → VRs (G.K c.w.params) n8 a7 vs acc → Same s s7 →
          ∃ m', m' < j + 1 ∧ CInv G c CL ρ m (compM x mt me it) (.ok r, st1) I C D it s news al m' s7 := fun e S8 X8 OI8 OC8 OD8 g1 g2 g3 V8 G8 => ⟨j, Nat.lt_succ_self _, .mk e S8 (X3.trans S.H X8) OI8 OC8 OD8 (I4.keep (X8.kp S3.H) (g1.trans hoI.symm) fun k z => (hdk k z).elim) (hNC.ns g2) g3 V8 G8⟩
      cases b with
      | false => exact back S6 X6 fun n8 S8 X8 K8 OI8 OC8 OD8 g1 g2 g3 => next e9 S8 X8 OI8 OC8 OD8 g1 g2 g3 (V3.ext S3.H X8) Gs
      | true =>
        refine noErr_go e9 fun z st7 e10 e11 => iteS e11 fun hlen e11 => (he [(x, y)]).ok e10 (inComp_ar hA) S6 fun u s7 n7 a7 S7 X7 R7 G7 => back S7 (X6.trans Sc.H X7) fun n8 S8 X8 K8 OI8 OC8 OD8 g1 g2 g3 => ?_
        refine append_at (hsz := by have := V3.length; simp only [sizeLine] at hlen; simp; lia) g3 fun h9 hs9 ho9 => ?_
        have k9 : ∀ b o, b ≠ D → s7.heap.get? b = some o → h9.get? b = some o := fun b o hb e => (hs9.2 b hb).trans e
        exact next e11 (S8.off OD8 (tk := s7.toks) k9) X8 OI8 OC8 OD8 (k9 I oI nID g1) (k9 C oC nCD g2) (ho9.trans (by rw [List.push_toArray])) ((V3.ext S3.H X8).append (.one (R7.kp K8))) (Gs.trans G7)
    · rw [ho] at e7
      obtain ⟨e1, e2⟩ := Prod.mk.inj (sInj e7)
      rw [← e2, ← Except.ok.inj e1] at hR
      exact hR s4 n3 a3 vs nn mm S4 X3 OC3 OD3 (C3.at' fun o e => k4 C o (Ne.symm nIC) e) (k4 D _ (Ne.symm nID) D3) V3 (G3.trans G4)
end
end
noncomputable def compOk (sc : Scope) (x : Str) : Bool := decide (sc.kind = .function) && sc.names.all (fun y => y.2 != .cell) && sc.names.all (fun y => y.2 != .local || sc.names.lookup y.1 == some .local) && (sc.names.lookup x == some .local)
def noSet : Expr → Bool
  | .Set _ _ _ => false
  | _ => true
section
variable {G : Pg} {c : Act} {k : Nat} {q : Bool} {CL : List (Str × Nat)} {ρ : Loc} {m : Str → Option Value} {s s' : Shared} {news news' : Led} {al al' : Al} {st st' : Sto} {A : Around} {E : Value → Shared → Prop} {pos : Pos}
theorem compOk_of {sc : Scope} {x : Str} (h : compOk sc x = true) : sc.kind = .function ∧ (∀ y ∈ sc.names, y.2 ≠ .cell) ∧ (∀ y ∈ sc.names, y.2 = .local → sc.names.lookup y.1 = some .local) ∧ sc.names.lookup x = some .local := by
  unfold compOk at h
  simp only [Bool.and_eq_true, decide_eq_true_eq] at h
  obtain ⟨⟨⟨h1, h2⟩, h3⟩, h4⟩ := h
  refine ⟨h1, fun y hy e => ?_, fun y hy e => ?_, beq_iff_eq.mp h4⟩
  · have := List.all_eq_true.mp h2 y hy
    rw [e] at this; simp at this
  · have := List.all_eq_true.mp h3 y hy
    rw [e] at this; simpa using this
theorem noSet_of {e : Expr} {env : Env} (h : noSet e = true) (x : Value) : foldedSetIterable e env x = pure x := by
  cases e <;> first | rfl | cases h
theorem ItAt.self {K : Frag} {I : Addr} {i : Nat} {it : It} {Q : Value → Shared → Prop} (x : ItAt K news al s.heap I i it) (h : Q (.ref I) s) : wpAny (model G.prog c.w) A (pyIter (.ref I)) Q E s := by
  cases x with
  | lst _ h2 => exact wpAny_pyIter_listiter h2 h
  | tup _ h2 => exact wpAny_pyIter_tupleiter h2 h
  | rng h2 => exact wpAny_pyIter_rangeiter h2 h
  | dk h2 _ => exact wpAny_pyIter_keyiter h2 h
theorem comp_run {elt iter : Expr} {x : Str} {px : Pos} {ifs : List Expr} {sc : Scope} {cpos : Pos} {CL' : List (Str × Nat)} {mt : Loc → M Bool} {me : Loc → M V} {it : It} {v : Value} {y : V} {st1 : Sto} {r : List V} {n : Nat}
    {R : Value → Addr → Result → Shared → Prop} (hc : c.Ok G) (hp : c.comp = none) (hq : q = true) (hA : Ar c k q A) (hok : compOk sc x = true) {cl : List (Str × Addr)} (hcl : clos c.ncl sc.names [] = some cl) (hCL : clos CL sc.names [] = some CL')
    (ht : ∀ C ρ, Sound G (c.inComp C sc cl) k q CL' ρ relB (forIn ifs true fun x r => if r = true then do let ok ← isTrue x (c.inComp C sc cl).env (eval x (c.inComp C sc cl).env); pure (ForInStep.yield ok) else pure (ForInStep.yield r)) (mt ρ))
    (he : ∀ C ρ, Sound G (c.inComp C sc cl) k q CL' ρ relV (eval elt (c.inComp C sc cl).env) (me ρ))
    (hi : itOf y st = some it) (e : compM x mt me it n 0 [] st = some (.ok r, st1)) (S : St G c CL ρ m s news al st) (hv : VR (G.K c.w.params) news al v y)
    (hR : ∀ C D s' news' al' vs' nn' mm', St G c CL ρ m s' news' al' st1 → Ext news al news' al' → Off c C news' → Off c D news' → C ≠ D → s'.heap.Ns C mm' → s'.heap.get? D = some (listOf vs'.toArray nn') → VRs (G.K c.w.params) news' al' vs' r → Same s s' → R (.ref D) C (.ok .next) s') :
    wpAny (model G.prog c.w) A (pyIter v) (fun it' s₂ => wpAny (model G.prog c.w) A (newList []) (fun acc s₃ => wpAny (model G.prog c.w) A (newFunctionEnv sc c.env.globals cl [] c.env.qual none .none (some c.env)) (fun cenv s₄ =>
      codeAny (model G.prog c.w) A (.compStart (.ListComp elt [⟨.Name x px, iter, ifs, 0⟩] sc cpos) 0 it' acc { cenv with scope := relabel sc c.env }) (R acc cenv.locals) s₄) E s₃) E s₂) E s := by
  obtain ⟨hkind, hcell, hnames, hx⟩ := compOk_of hok
  have hh := hA.hd hq
  refine iter_sound hc S hv hi fun I s2 S2 OI I2 G2 => ?_
  refine wpAny_newObj_type (wpAny_newFunctionEnv hcell (by intro y hy; simp at hy) (fun h₁ hns₁ hsb₁ => ?_) hkind)
  dsimp only at hns₁ hsb₁ ⊢
  have OD := S2.new_off
  have hIlt : I < s2.heap.objs.size := by obtain ⟨o, ho, _⟩ := I2.there; exact Heap.lt_size ho
  generalize hH2 : s2.heap.push { cls := .type "list", dict := none, data := .seq ([] : List Value).toArray } = H2 at hns₁ hsb₁ ⊢
  have hDg : H2.get? s2.heap.objs.size = some (listOf #[] 0) := hH2 ▸ Heap.get?_push_size _ rfl
  have hC : H2.objs.size = s2.heap.objs.size + 1 := by rw [← hH2, Heap.size_push]
  have old2 : ∀ b o, s2.heap.get? b = some o → H2.get? b = some o := fun b o e => hH2 ▸ Heap.get?_push_of_some _ e
  have old : ∀ b o, H2.get? b = some o → h₁.get? b = some o := fun b o e => hsb₁.extBut b o (Nat.ne_of_lt (Heap.lt_size e)) (Heap.get?_push_of_some _ e)
  have S3 : St G c CL ρ m { s2 with heap := H2 } news al st := S2.ext Ext.refl (S2.F.keeps old2) (S2.N.grown old2) S2.H
  have OC := S3.new_off
  have S4 : St G c CL ρ m { s2 with heap := h₁, toks := s2.toks + ([] : List (Str × Value)).length } news al st := S3.ext Ext.refl (S3.F.keeps old) (S3.N.grown old) S3.H
  have nID : I ≠ s2.heap.objs.size := Nat.ne_of_lt hIlt
  have nIC : I ≠ H2.objs.size := by rw [hC]; exact Nat.ne_of_lt (Nat.lt_succ_of_lt hIlt)
  have nDC : H2.objs.size ≠ s2.heap.objs.size := by rw [hC]; exact Nat.ne_of_gt (Nat.lt_succ_self _)
  have I4 : ItAt (G.K c.w.params) news al h₁ I 0 it := by
    obtain ⟨o, ho, _⟩ := I2.there
    exact I2.keep ⟨⟨[], by simp⟩, fun p hp _ => hp⟩ ((old _ _ (old2 _ _ ho)).trans ho.symm) fun _ _ b x e => old _ _ (old2 _ _ e)
  have henv : ({ scope := relabel sc c.env, locals := H2.objs.size, globals := c.env.globals, cells := cl, qual := c.env.qual, func := none, code := c.env.code, frame := c.env.frame, builtins := c.env.builtins } : Env) = compEnvC sc cl H2.objs.size c.env := rfl
  have loop : codeAny (model G.prog c.w) A (.compLoop (.ListComp elt [⟨.Name x px, iter, ifs, 0⟩] sc cpos) 0 (.ref I) (.ref s2.heap.objs.size) (compEnvC sc cl H2.objs.size c.env)) (R (.ref s2.heap.objs.size) H2.objs.size) { s2 with heap := h₁, toks := s2.toks + ([] : List (Str × Value)).length } := by
    refine compLoop_sound hc hp hh hA hkind hx (ht _) (he _) (fun al2 hal2 => ?_) e S4 OI OC OD nIC nID nDC I4 hns₁ (vs := []) (nn := 0) (old _ _ hDg) .nil fun s' news' al' vs' nn' mm' S' X' OC' OD' n' d' V' G' => hR _ _ s' news' al' vs' nn' mm' S' X' OC' OD' nDC n' d' V' (G2.trans (Same.trans ⟨rfl, rfl⟩ G'))
    obtain ⟨β, rfl⟩ := hal2
    obtain ⟨r', e1, e2⟩ := clos_rel (al := al) S.C (acc := []) (accN := []) (fun x k e => by simp at e) hCL
    rw [hcl] at e1; induction e1 using E1
    intro z kk hz
    obtain ⟨a, g1, g2⟩ := e2 z kk hz
    exact ⟨a, g1, (List.getElem?_append_left (List.getElem?_eq_some_iff.mp g2).1).trans g2⟩
  exact codeAny_compStart_list loop (I4.self (c := c) loop)
theorem Sound.listComp {elt iter : Expr} {x : Str} {px : Pos} {ifs : List Expr} {sc : Scope} {CL' : List (Str × Nat)} {mi : M V} {mt : Loc → M Bool} {me : Loc → M V} {n : Nat}
    (hc : c.Ok G) (hp : c.comp = none) (hq : q = true) (hok : compOk sc x = true) (hs : noSet iter = true) (hCL : clos CL sc.names [] = some CL')
    (hi : Sound G c k q CL ρ relV (eval iter c.env) mi)
    (ht : ∀ C cl ρ, Sound G (c.inComp C sc cl) k q CL' ρ relB (forIn ifs true fun x r => if r = true then do let ok ← isTrue x (c.inComp C sc cl).env (eval x (c.inComp C sc cl).env); pure (ForInStep.yield ok) else pure (ForInStep.yield r)) (mt ρ))
    (he : ∀ C cl ρ, Sound G (c.inComp C sc cl) k q CL' ρ relV (eval elt (c.inComp C sc cl).env) (me ρ)) :
    Sound G c k q CL ρ relV (eval (.ListComp elt [⟨.Name x px, iter, ifs, 0⟩] sc pos) c.env) (M.bind mi fun y => M.bind (still fun st => itOf y st) fun it => M.bind (compM x mt me it n 0 []) fun l => newO (.list l)) := by
  intro st r e A s m news al Q E hA S hE hQ
  obtain ⟨hkind, hcell, hnames, hx⟩ := compOk_of hok
  obtain ⟨cl, hcl, _⟩ := clos_rel (al := al) S.C (acc := []) (accN := []) (fun x k e => by simp at e) hCL
  rw [eval_ListComp]
  refine wpAny_comprehension_free (use := none) rfl (noSet_of hs) (closureFor_of (by rw [env_cells]; exact hcl)) hkind hnames ?_
  refine hi.go e hA S hE fun y st1 e1 v s1 n1 a1 S1 X1 R1 G1 => ?_
  refine still_go e1 fun it e2 e3 => ?_
  unfold M.bind at e3
  cases e4 : compM x mt me it n 0 [] st1 with
  | none => rw [e4] at e3; cases e3
  | some p =>
    obtain ⟨l, st2, rfl⟩ := compM_ok e4
    rw [e4] at e3
    cases e3
    refine comp_run (CL' := CL') hc hp hq hA hok hcl hCL (ht · cl) (he · cl) e2 e4 S1 R1 fun C D s' n2 a2 vs nn mm S' X' OC OD nCD hN hD hV G' => ?_
    refine ⟨mm, hN, fun h' hs' => ?_⟩
    have S3 := S'.off OC (tk := s'.toks) fun b o hb e => (hs'.2 b hb).trans e
    have hD' : h'.get? D = some (listOf vs.toArray nn) := (hs'.2 D (Ne.symm nCD)).trans hD
    have N3 : News c.h₀ c.L h' ((D, listOf vs.toArray nn) :: n2) := fun p hp => by
      rcases List.mem_cons.mp hp with rfl | hp
      · exact ⟨hD', Ne.symm OD.ne, OD.old⟩
      · exact S3.N p hp
    obtain ⟨S4, X4, r4⟩ := S3.newOwn (tk := s'.toks) (x := .list l) OD.out S3.F N3 (.list (.head _) (hV.ext S3.H (Ext.owned OD.out)))
    exact hQ _ _ rfl _ _ _ _ S4 (X1.trans S.H (X'.trans S1.H X4)) r4 (G1.trans (Same.trans G' ⟨rfl, rfl⟩))
noncomputable def swapC (sc cs : Scope) (y : Str) (py cpos : Pos) : Bool := (cs.names.lookup y == some .local) && (py.line == cpos.line) && !(sc.names.any fun (n, k) => n == y && (k == .local || k == .cell))
theorem SoundS.assignC {elt iter : Expr} {x y : Str} {px py : Pos} {ifs : List Expr} {sc : Scope} {CL' : List (Str × Nat)} {mi : Loc → M V} {mt : Loc → M Bool} {me : Loc → M V} {n : Nat} {cpos : Pos}
    (hc : c.Ok G) (hp : c.comp = none) (hq : q = true) (hok : compOk sc x = true) (hs : noSet iter = true) (hCL : clos CL sc.names [] = some CL') (hsw : swapC sc c.cs y py cpos = true)
    (hi : ∀ ρ, Sound G c k q CL ρ relV (eval iter c.env) (mi ρ))
    (ht : ∀ C cl ρ, Sound G (c.inComp C sc cl) k q CL' ρ relB (forIn ifs true fun x r => if r = true then do let ok ← isTrue x (c.inComp C sc cl).env (eval x (c.inComp C sc cl).env); pure (ForInStep.yield ok) else pure (ForInStep.yield r)) (mt ρ))
    (he : ∀ C cl ρ, Sound G (c.inComp C sc cl) k q CL' ρ relV (eval elt (c.inComp C sc cl).env) (me ρ)) :
    SoundS G c k q CL (exec (.Assign [.Name y py] (.ListComp elt [⟨.Name x px, iter, ifs, 0⟩] sc cpos) pos) c.env)
      (fun ρ => M.bind (mi ρ) fun z => M.bind (still fun st => itOf z st) fun it => M.bind (compM x mt me it n 0 []) fun l => M.bind (newO (.list l)) fun u => M.bind (storeM c.cs CL y u ρ) fun ρ' => M.pure (.next, ρ')) := by
  intro ρ st r e A s m news al Q E hA S hE hQ
  obtain ⟨hkind, hcell, hnames, hx⟩ := compOk_of hok
  obtain ⟨cl, hcl, _⟩ := clos_rel (al := al) S.C (acc := []) (accN := []) (fun x k e => by simp at e) hCL
  have hen : c.env = c.fenv := by unfold Act.env; rw [hp]
  unfold swapC at hsw
  rw [Bool.and_eq_true, Bool.and_eq_true] at hsw
  obtain ⟨⟨w1, w2⟩, w3⟩ := hsw
  have hsw' : swapsWith (.ListComp elt [⟨.Name x px, iter, ifs, 0⟩] sc cpos) (some (.Name y py)) pos.line c.env = pure true := by
    have e1 : c.env.blockKind = .function := by
      rw [hen]
      unfold Env.blockKind
      have : c.fenv.scope.kind = .function := hc.hk
      rw [this]; rfl
    have e2 : c.env.kindOf y = some .local := env_kindOf (by unfold Act.nsc; rw [hp]; exact beq_iff_eq.mp w1)
    show (pure (c.env.blockKind == .function && c.env.kindOf y == some .local && py.line == cpos.line && !(sc.names.any fun (n, k) => n == y && (k == .local || k == .cell))) : Sem Bool) = pure true
    rw [e1, e2, w2, w3]; rfl
  rw [exec_Assign_Name_used _ _ _ _ hsw']
  refine wpAny_bind (wpAny_standAt (wpAny_bind ?_))
  show wpAny _ A (do let _ ← comprehension (.ListComp elt [⟨.Name x px, iter, ifs, 0⟩] sc cpos) sc c.env _ (newList []) false (eval iter c.env) (some (assign (.Name y py) c.env))) _ _ s
  refine wpAny_bind (wpAny_mono (wpAny_comprehension_free (use := some (assign (.Name y py) c.env)) (Q := fun _ s' => Q .next s') rfl (noSet_of hs) (closureFor_of (by rw [env_cells]; exact hcl)) hkind hnames ?_) (fun _ s' hq => wpAny_pure (wpAny_pure hq)) fun _ _ e => e)
  refine (hi ρ).goS e hA S hE fun z st1 e1 v s1 n1 a1 S1 X1 R1 G1 => ?_
  refine still_go e1 fun it e2 e3 => ?_
  unfold M.bind at e3
  cases e4 : compM x mt me it n 0 [] st1 with
  | none => rw [e4] at e3; cases e3
  | some p =>
    obtain ⟨l, st2, rfl⟩ := compM_ok e4
    rw [e4] at e3
    refine comp_run (CL' := CL') hc hp hq hA hok hcl hCL (ht · cl) (he · cl) e2 e4 S1 R1 fun C D s' n2 a2 vs nn mm S' X' OC OD nCD hN hD hV G' => ?_
    have N3 : News c.h₀ c.L s'.heap ((D, listOf vs.toArray nn) :: n2) := fun p hp => by
      rcases List.mem_cons.mp hp with rfl | hp
      · exact ⟨hD, Ne.symm OD.ne, OD.old⟩
      · exact S'.N p hp
    obtain ⟨S4, X4, r4⟩ := S'.newOwn (tk := s'.toks) (x := .list l) OD.out S'.F N3 (.list (.head _) (hV.ext S'.H (Ext.owned OD.out)))
    obtain ⟨oC, hoC, hNC⟩ := LCg.ns_obj hN
    have OC4 : Off c C ((D, listOf vs.toArray nn) :: n2) := ⟨OC.ne, OC.old, by simp only [List.map_cons, List.mem_cons, not_or]; exact ⟨nCD, OC.out⟩⟩
    have S5 := S4.with OC4 hoC
    have e5 : M.bind (storeM c.cs CL y (.hnd st2.length) ρ) (fun ρ' => M.pure (Fl.next, ρ')) (st2 ++ [.list l]) = some r := e3
    refine store_go e5 fun ρ6 st6 e6 e7 => ?_
    cases e7
    show wpAny _ A (assign (.Name y py) c.env (.ref D)) _ _ s'
    refine wpAny_assign_Name (storeM_sound hc hp S5 (r4.ext S4.H Ext.free) e6 fun s7 m7 n7 S7 X7 G7 => ?_)
    obtain ⟨N8, H8, X8, K8, O8, g8⟩ := S4.without (c := c) OC4 (notFree_ns hNC) rfl S7.H S7.N X7
    have S8 := S7.weak hp N8 H8 K8
    refine ⟨mm, ⟨_, _, _, g8, hNC.choose_spec.choose_spec.1, hNC.choose_spec.choose_spec.2⟩, fun h' hs' => ?_⟩
    have S9 := S8.off ⟨OC.ne, OC.old, O8⟩ (tk := s7.toks) fun b o hb e => (hs'.2 b hb).trans e
    exact hQ _ _ _ rfl _ _ m7 _ _ S9 (X1.trans S.H (X'.trans S1.H (X4.trans S'.H X8))) .next (G1.trans (G'.trans (Same.trans G7 ⟨rfl, rfl⟩)))
end
theorem zip_lookup {α : Type} : ∀ {ns : List Str} {vs : List α}, ns.Nodup → vs.length = ns.length → (ns.filterMap fun n => ((ns.zip vs).lookup n).map (n, ·)) = ns.zip vs := by
  intro ns vs hn hl
  have key : ∀ (pre : List (Str × α)) (ns : List Str) (vs : List α), ns.Nodup → (∀ n ∈ ns, n ∉ pre.map (·.1)) → vs.length = ns.length → (ns.filterMap fun n => ((pre ++ ns.zip vs).lookup n).map (n, ·)) = ns.zip vs := by
    intro pre ns
    induction ns generalizing pre with
    | nil => intro vs _ _ _; rfl
    | cons n r ih =>
      intro vs hn hp hl
      cases vs with
      | nil => simp at hl
      | cons v vs =>
        rw [List.nodup_cons] at hn
        have h1 : (pre ++ (n :: r).zip (v :: vs)).lookup n = some v := by
          have hpn := hp n (.head _)
          clear ih hp
          induction pre with
          | nil => simp
          | cons p pre ihp =>
            simp only [List.map_cons, List.mem_cons, not_or] at hpn
            have : (n == p.1) = false := by simpa using hpn.1
            obtain ⟨p1, p2⟩ := p
            simp only [List.cons_append, List.lookup_cons, this]
            exact ihp hpn.2
        rw [List.filterMap_cons, h1]
        simp only [Option.map_some, List.zip_cons_cons]
        congr 1
        have e : pre ++ (n, v) :: r.zip vs = (pre ++ [(n, v)]) ++ r.zip vs := by simp
        rw [e]
        refine ih (pre ++ [(n, v)]) vs hn.2 (fun x hx => ?_) (by simpa using hl)
        simp only [List.map_append, List.map_cons, List.map_nil, List.mem_append, List.mem_singleton, not_or]
        exact ⟨hp x (.tail _ hx), fun e => hn.1 (e ▸ hx)⟩
  simpa using key [] ns vs hn (by simp) hl
theorem lookup_zip {α : Type} {n : Str} {ns : List Str} : ∀ {vs : List α}, vs.length = ns.length → n ∈ ns → ((ns.zip vs).lookup n).isNone = false := by
  induction ns with
  | nil => exact fun _ h => nomatch h
  | cons m ns ih =>
    intro vs hl h
    cases vs with
    | nil => exact nomatch hl
    | cons v vs =>
      rw [List.zip_cons_cons, List.lookup_cons]
      cases hx : n == m with
      | true => rfl
      | false => exact ih (Nat.succ.inj hl) ((List.mem_cons.mp h).resolve_left (beq_eq_false_iff_ne.mp hx))
theorem bind_at {ps : List Arg} {kd : List (Option Expr)} {df : List Expr} (fd : FuncData) {vs : List Value} (hp : fd.params = ⟨[], ps, none, [], kd, none, df⟩) (h5 : fd.defaults = .none) (hl : vs.length = (ps.map (·.arg)).length) (hn : (ps.map (·.arg)).Nodup) :
    bindArgs fd ⟨vs, []⟩ = pure ((ps.map (·.arg)).zip vs) := by
  have hfl : ∀ X, (((ps.map (·.arg)).take X).filter fun n => (((ps.map (·.arg)).zip vs).lookup n).isNone) = [] := fun X =>
    List.filter_eq_nil_iff.mpr fun n hm => by rw [lookup_zip hl (List.mem_of_mem_take hm)]; exact Bool.false_ne_true
  unfold bindArgs
  rw [hp, h5]
  show (if (decide (vs.length > (ps.map (·.arg)).length) && true) = true then _ else _) = _
  rw [if_neg (by rw [hl, decide_eq_false (Nat.lt_irrefl _)]; exact Bool.false_ne_true)]
  show (if (!(List.filter (fun n => (((ps.map (·.arg)).zip vs).lookup n).isNone) (List.take _ (ps.map (·.arg)))).isEmpty) = true then _ else _) = _
  rw [if_neg (by rw [hfl]; exact Bool.false_ne_true)]
  refine (?_ : (forIn (List.zip (List.drop _ (ps.map (·.arg))) (List.drop (0 - (ps.map (·.arg)).length) ([] : List Value))) ((ps.map (·.arg)).zip vs) _ >>= fun r : List (Str × Value) => pure ((ps.map (fun x : Arg => x.arg) ++ []).filterMap fun n => (r.lookup n).map (n, ·)) : Sem (List (Str × Value))) = _)
  rw [List.drop_nil, List.zip_nil_right, List.forIn_nil, pure_bind, List.append_nil, zip_lookup hn hl]
theorem args_eq (p : Arguments) (h1 : p.posonlyargs = []) (h2 : p.kwonlyargs = []) (h3 : p.vararg = none) (h4 : p.kwarg = none) : p = ⟨[], p.args, none, [], p.kw_defaults, none, p.defaults⟩ := by
  cases p
  dsimp only at h1 h2 h3 h4
  rw [h1, h2, h3, h4]
theorem bind_simple (fd : FuncData) {vs : List Value} (h1 : fd.params.posonlyargs = []) (h2 : fd.params.kwonlyargs = []) (h3 : fd.params.vararg = none) (h4 : fd.params.kwarg = none) (h5 : fd.defaults = .none) (hl : vs.length = (fd.params.args.map (·.arg)).length) (hn : (fd.params.args.map (·.arg)).Nodup) :
    bindArgs fd ⟨vs, []⟩ = pure ((fd.params.args.map (·.arg)).zip vs) := bind_at fd (args_eq _ h1 h2 h3 h4) h5 hl hn
structure Fn where
  qual : Str
  tab : Option Nat
  names : List Str
  dfl : List V
  body : List Stmt
  sc : Scope
def kindsOk (sc : Scope) (names : List Str) : Prop := ∀ n, ∀ x ∈ names, sc.names.lookup x = some .local ∨ (sc.names.lookup x = some .cell ∧ ((cellsFrom n sc.names []).lookup x).isSome = true)
structure FnOk (tabs : List (Addr × Addr)) (K : Frag) (f : Addr) (fn : Fn) : Prop where
  at_ : ∃ oc od osl name params dV kV doc pm an cdv ct, K.lookup f = some ⟨oc, od, .func (fnX name fn.qual params fn.body fn.sc [] dV kV doc pm an cdv ct), osl⟩ ∧ codeIn K cdv fn.qual = true ∧
    (∀ ti, fn.tab = some ti → ∃ cc P, cdv = .ref cc ∧ tabs[ti]? = some (cc, P)) ∧ ∃ dvs : List Value, (∀ news al, VRs K news al dvs fn.dfl) ∧ ∀ (s : Shared), K.In s.heap → ∀ vs : List Value, fn.names.length ≤ vs.length + fn.dfl.length → vs.length ≤ fn.names.length →
      BindsTo s (fnX name fn.qual params fn.body fn.sc [] dV kV doc pm an cdv ct) ⟨vs, []⟩ (fn.names.zip (vs ++ dvs.drop (vs.length + fn.dfl.length - fn.names.length)))
  kinds : kindsOk fn.sc fn.names
  nd : ((cellsFrom 0 fn.sc.names []).map (·.1)).Nodup
  co : fn.sc.isCoroutine = false
  gen : fn.sc.isGenerator = false
  kind : fn.sc.kind = .function
noncomputable def bindLV (sc : Scope) : List (Str × V) → Loc → Loc
  | [], ρ => ρ
  | (n, y) :: r, ρ => bindLV sc r (match sc.names.lookup n with
    | some .local => putF n y ρ
    | _ => ρ)
def bindCV (sc : Scope) : List (Str × V) → Loc → Loc
  | [], ρ => ρ
  | (n, y) :: r, ρ => bindCV sc r (match sc.names.lookup n with
    | some .local => ρ
    | _ => putF n y ρ)
def cellsV (cs : List Str) (cv : Loc) : Sto := cs.map fun n => .cell (cv.lookup n)
def clV : List Str → Nat → List (Str × Nat)
  | [], _ => []
  | n :: r, k => (n, k) :: clV r (k + 1)
def retV : Fl → V
  | .ret y => y
  | _ => .none
noncomputable def fnOut : Option (Except Addr (Fl × Loc) × Sto) → Option (Except Addr V × Sto)
  | some (.ok p, st') => some (.ok (retV p.1), st')
  | _ => none
def fnM (fn : Fn) (body : List (Str × Nat) → Loc → M (Fl × Loc)) (args : List V) : M V := fun st =>
  if fn.names.length ≤ args.length + fn.dfl.length ∧ args.length ≤ fn.names.length then
    let binds := fn.names.zip (args ++ fn.dfl.drop (args.length + fn.dfl.length - fn.names.length))
    let cs := (cellsFrom 0 fn.sc.names []).map (·.1)
    fnOut (body (clV cs st.length) (bindLV fn.sc binds []) (st ++ cellsV cs (bindCV fn.sc binds [])))
  else none
theorem fnOut_some {o : Option (Except Addr (Fl × Loc) × Sto)} {r : Except Addr V × Sto} {P : Prop} (e : fnOut o = some r) (k : ∀ p st2, o = some (.ok p, st2) → (.ok (retV p.1), st2) = r → P) : P := by
  cases o with
  | none => exact noS e
  | some p =>
    obtain ⟨r1, st1⟩ := p
    cases r1 with
    | ok a => exact k a st1 rfl (sInj e)
    | error C => exact noS e
set_option backward.match.sparseCases true in
theorem FlR.retV {K : Frag} {news : Led} {al : Al} {f : Flow} {fl : Fl} : FlR K news al f fl → VR K news al (match f with | .ret v => v | _ => .none) (retV fl) := fun h => by
  cases h with
  | ret h => exact h
  | _ => exact .none
section
variable {K : Frag} {news : Led} {al : Al}
inductive BR (K : Frag) (news : Led) (al : Al) : List (Str × Value) → List (Str × V) → Prop where
  | nil : BR K news al [] []
  | cons {n : Str} {v : Value} {y : V} {bs : List (Str × Value)} {ys : List (Str × V)} : VR K news al v y → BR K news al bs ys → BR K news al ((n, v) :: bs) ((n, y) :: ys)
theorem VRs.zip {vs : List Value} {l : List V} (h : VRs K news al vs l) (ns : List Str) : BR K news al (ns.zip vs) (ns.zip l) := by
  induction h using VRs.ind generalizing ns with
  | nil => rw [List.zip_nil_right, List.zip_nil_right]; exact .nil
  | cons h hs ih => cases ns with
    | nil => exact .nil
    | cons n ns => exact .cons h (ih ns)
theorem bindL_rel {sc : Scope} {kindOf : Str → Option NameKind} (hk : ∀ x, kindOf x = sc.names.lookup x) {bs : List (Str × Value)} {ys : List (Str × V)} (hb : BR K news al bs ys) {m : Str → Option Value} {ρ : Loc}
    (h : ∀ x y, ρ.lookup x = some y → ∃ v, m x = some v ∧ VR K news al v y) : ∀ x y, (bindLV sc ys ρ).lookup x = some y → ∃ v, bindL kindOf bs m x = some v ∧ VR K news al v y := by
  induction hb generalizing m ρ with
  | nil => exact h
  | @cons n v y bs ys hv hs ih =>
    unfold bindLV bindL
    refine ih fun x z => ?_
    rw [hk]
    cases sc.names.lookup n with
    | none => exact h x z
    | some kd => cases kd with
      | «local» =>
        dsimp only
        rw [if_pos rfl, putF_lookup]
        by_cases hx : x = n
        · rw [if_pos hx, if_pos hx]; exact fun e => ⟨v, rfl, sInj e ▸ hv⟩
        · rw [if_neg hx, if_neg hx]; exact h x z
      | _ => exact h x z
theorem bindC_rel {sc : Scope} {kindOf : Str → Option NameKind} (hk : ∀ x, kindOf x = sc.names.lookup x) {bs : List (Str × Value)} {ys : List (Str × V)} (hb : BR K news al bs ys) {m : Str → Option Value} {ρ : Loc}
    (h : ∀ x, (∀ y, ρ.lookup x = some y → ∃ v, m x = some v ∧ VR K news al v y) ∧ (ρ.lookup x = none → m x = none)) : ∀ x, (∀ y, (bindCV sc ys ρ).lookup x = some y → ∃ v, bindC kindOf bs m x = some v ∧ VR K news al v y) ∧ ((bindCV sc ys ρ).lookup x = none → bindC kindOf bs m x = none) := by
  induction hb generalizing m ρ with
  | nil => exact h
  | @cons n v y bs ys hv hs ih =>
    unfold bindCV bindC
    refine ih fun x => ?_
    rw [hk]
    have put : (∀ y', (putF n y ρ).lookup x = some y' → ∃ v', (if x = n then some v else m x) = some v' ∧ VR K news al v' y') ∧ ((putF n y ρ).lookup x = none → (if x = n then some v else m x) = none) := by
      rw [putF_lookup]
      by_cases hx : x = n
      · rw [if_pos hx, if_pos hx]
        exact ⟨fun y' e => ⟨v, rfl, sInj e ▸ hv⟩, nofun⟩
      · rw [if_neg hx, if_neg hx]
        exact h x
    cases sc.names.lookup n with
    | none => exact put
    | some kd => cases kd with
      | «local» => exact h x
      | _ => exact put
theorem BR.kp {news' : Led} {al' : Al} (X : Kp news al news' al') {bs : List (Str × Value)} {ys : List (Str × V)} (h : BR K news al bs ys) : BR K news' al' bs ys := by
  induction h with
  | nil => exact .nil
  | cons h _ ih => exact .cons (h.kp X) ih
end
theorem cellsFrom_fst : ∀ (names : List (Str × NameKind)) (n n' : Nat) (acc acc' : List (Str × Addr)), acc.map (·.1) = acc'.map (·.1) → (cellsFrom n names acc).map (·.1) = (cellsFrom n' names acc').map (·.1) := cellsFrom_names
theorem cellsFrom_snd : ∀ (names : List (Str × NameKind)) (n : Nat) (acc : List (Str × Addr)), (∀ p ∈ acc, p.2 < n) → (acc.map (·.2)).Nodup → ((cellsFrom n names acc).map (·.2)).Nodup ∧ ∀ p ∈ cellsFrom n names acc, p ∈ acc ∨ n ≤ p.2
  | [], n, acc, h1, h2 => ⟨h2, fun p hp => .inl hp⟩
  | (name, kind) :: r, n, acc, h1, h2 => by
    unfold cellsFrom
    split
    · obtain ⟨g1, g2⟩ := cellsFrom_snd r (n + 1) ((name, n) :: acc) (fun p hp => by
        rcases List.mem_cons.mp hp with rfl | hp
        · exact Nat.lt_succ_self _
        · exact Nat.lt_succ_of_lt (h1 p hp)) (by
        simp only [List.map_cons, List.nodup_cons]
        refine ⟨fun q => ?_, h2⟩
        obtain ⟨p, hp, e⟩ := List.mem_map.mp q
        exact absurd (h1 p hp) (by rw [e]; exact Nat.lt_irrefl _))
      refine ⟨g1, fun p hp => ?_⟩
      rcases g2 p hp with hp | hp
      · rcases List.mem_cons.mp hp with rfl | hp
        · exact .inr (Nat.le_refl _)
        · exact .inl hp
      · exact .inr (Nat.le_of_succ_le hp)
    · exact cellsFrom_snd r n acc h1 h2
section
variable {G : Pg} {c : Act} {k : Nat} {q : Bool} {CL : List (Str × Nat)} {ρ : Loc} {m : Str → Option Value} {s s' : Shared} {news news' : Led} {al al' : Al} {st st' : Sto} {A : Around} {E : Value → Shared → Prop} {pos : Pos}
theorem cells_in {K : Frag} {prog : Program} {w : World} {cm : Str → Option Value} {cv : Loc} : ∀ {cs : List (Str × Addr)} {cells : Led} {news : Led} {al : Al} {st : Sto}, CellsAre cm cs cells → HR K prog w news al st → (cs.map (·.2)).Nodup → (∀ p ∈ cs, p.2 ∉ news.map (·.1)) →
    (∀ x, (∀ y, cv.lookup x = some y → ∃ v, cm x = some v ∧ VR K news al v y) ∧ (cv.lookup x = none → cm x = none)) →
    HR K prog w (cells.reverse ++ news) (al ++ cells.map fun p => (p.1, none)) (st ++ cellsV (cs.map (·.1)) cv) ∧ Ext news al (cells.reverse ++ news) (al ++ cells.map fun p => (p.1, none)) ∧
    ∀ x k, (clV (cs.map (·.1)) st.length).lookup x = some k → ∃ a, cs.lookup x = some a ∧ (al ++ cells.map fun p => (p.1, (none : Option Addr)))[k]? = some (a, none)
  | [], _, news, al, st, .nil, H, _, _, _ => by
    refine ⟨by simpa [cellsV] using H, by simpa using Ext.refl, fun x k e => ?_⟩
    simp [clV] at e
  | (n, a) :: cs, _, news, al, st, .cons (o := o) (cells := cells) hd hs, H, hn, hf, hr => by
    simp only [List.map_cons, List.nodup_cons] at hn
    have ha : a ∉ news.map (·.1) := hf (n, a) (.head _)
    have hx : OR K prog w ((a, o) :: news) (al ++ [(a, none)]) (a, none) (.cell (cv.lookup n)) := by
      obtain ⟨h1, h2⟩ := hr n
      cases e : cv.lookup n with
      | none => exact .cell0 (.head _) (by rw [hd, h2 e])
      | some y =>
        obtain ⟨v, g1, g2⟩ := h1 y e
        exact .cell (.head _) (by rw [hd, g1]) (g2.kp ((Ext.owned ha).kp H))
    have H1 := H.owned (x := .cell (cv.lookup n)) ha hx
    have X1 : Ext news al ((a, o) :: news) (al ++ [(a, none)]) := Ext.owned ha
    obtain ⟨H2, X2, L2⟩ := cells_in hs H1 hn.2 (fun p hp => by
      simp only [List.map_cons, List.mem_cons, not_or]
      exact ⟨fun e => hn.1 (by rw [← e]; exact List.mem_map_of_mem (f := (·.2)) hp), hf p (.tail _ hp)⟩)
      fun x => ⟨fun y e => by obtain ⟨v, g1, g2⟩ := (hr x).1 y e; exact ⟨v, g1, g2.kp (X1.kp H)⟩, (hr x).2⟩
    have e1 : (((a, o) :: cells).reverse ++ news) = cells.reverse ++ (a, o) :: news := by simp
    have e2 : (al ++ ((a, o) :: cells).map fun p => (p.1, (none : Option Addr))) = (al ++ [(a, none)]) ++ cells.map fun p => (p.1, none) := by simp
    have e3 : st ++ cellsV ((n, a) :: cs |>.map (·.1)) cv = (st ++ [.cell (cv.lookup n)]) ++ cellsV (cs.map (·.1)) cv := by simp [cellsV]
    rw [e1, e2, e3]
    refine ⟨H2, X1.trans H X2, fun x k e => ?_⟩
    simp only [List.map_cons, clV, List.lookup_cons] at e ⊢
    cases hx' : x == n with
    | true =>
      rw [hx'] at e; cases e
      refine ⟨a, rfl, ?_⟩
      rw [← H.len]; simp
    | false =>
      rw [hx'] at e
      exact L2 x k (by rw [List.length_append]; exact e)
structure InFn (G : Pg) (c : Act) (fn : Fn) : Prop where
  comp : c.comp = none
  cs : c.cs = fn.sc
  cn : c.cn = fn.qual
  tab : ∀ ti, fn.tab = some ti → ∃ cc P, c.ccd = .ref cc ∧ G.tabs[ti]? = some (cc, P)
theorem fnCall {f : Addr} {fn : Fn} {body : List (Str × Nat) → Loc → M (Fl × Loc)} {vs : List Value} {args : List V} {y : V} {R : Result → Shared → Prop} (hc : c.Ok G) (hf : FnOk G.tabs (G.K c.w.params) f fn)
    (hb : ∀ (c' : Act) (CL' : List (Str × Nat)), c'.Ok G → InFn G c' fn → SoundS G c' k q CL' (execs fn.body c'.env) (body CL'))
    (hfr : A.frames = some (c.fenv :: c.outer)) (hd : A.depth + 8 * k + 20 < recursionLimit) (hu : A.units + 64 * k + 140 < cLine) (hh : q = true → A.handled = none)
    (S : St G c CL ρ m s news al st) (hs : VRs (G.K c.w.params) news al vs args) (e : fnM fn body args st = some (.ok y, st'))
    (hR : ∀ v s' news' al', St G c CL ρ m s' news' al' st' → Ext news al news' al' → VR (G.K c.w.params) news' al' v y → Same s s' → R (.ok (.ret v)) s') :
    codeAny (model G.prog c.w) A (.call (.ref f) ⟨vs, []⟩) R s := by
  obtain ⟨oc, od, osl, name, params, dV, kV, doc, pm, an, cdv, ct, hK, hcode, htab, dvs, hdv, hbind⟩ := hf.at_
  refine iteS e fun hlen e => fnOut_some e fun pe st2 hbody e => ?_
  · · obtain ⟨e1, e2⟩ := Prod.mk.inj e
      have X0 := hc.X.keeps S.F.keep
      have hlv := hs.length
      have hbr : BR (G.K c.w.params) news al (fn.names.zip (vs ++ dvs.drop (vs.length + fn.dfl.length - fn.names.length))) (fn.names.zip (args ++ fn.dfl.drop (args.length + fn.dfl.length - fn.names.length))) := by
        rw [hlv]
        exact VRs.zip (hs.append ((hdv _ _).drop _)) _
      refine callX_cells hc.B S.F S.N hc.T.nolimit hfr rfl hc.hk (X0 _ _ hK) rfl (codeRec_of X0 hcode) (by lia) (hbind s X0 vs (by lia) (by lia)) (fun n x hx => hf.kinds n _ (List.of_mem_zip hx).1) hf.nd
        (fun g L' h₁ tk cells FG F' N' CA BG stG hlt => ?_) hf.co hf.gen hf.kind
      let c' : Act := { c with A₀ := A, h₀ := g, outer := c.fenv :: c.outer, cn := fn.qual, cs := fn.sc, L := L', a := f, ccd := cdv, cl := cellsFrom (L' + 1) fn.sc.names [], comp := none }
      have hc' : c'.Ok G := ⟨BG, hf.kind, fun C sc cl e => (by exact noS e), hc.X.keeps stG, hc.T.keeps stG, fun q hq => (hc.cd q hq).keeps stG⟩
      have hA' : Ar c' k q (A.deeper (envOfC fn.qual fn.sc L' f cdv)) := by
        refine ⟨Around.frames_deeper hfr, ?_, ?_, hh⟩
        · show A.depth + 1 + 8 * k + 16 < recursionLimit
          lia
        · show A.units + 3 + 64 * k + 128 < cLine
          lia
      obtain ⟨gc1, gc2⟩ := cellsFrom_snd fn.sc.names (L' + 1) [] (fun p hp => by cases hp) List.nodup_nil
      have hnew : ∀ p ∈ cellsFrom (L' + 1) fn.sc.names [], p.2 ∉ news.map (·.1) := fun p hp q => by
        obtain ⟨x, hx, e⟩ := List.mem_map.mp q
        have h1 := hlt x hx
        rcases gc2 p hp with h | h
        · cases h
        · rw [e] at h1; exact absurd (Nat.lt_of_lt_of_le h1 (Nat.le_of_succ_le h)) (Nat.lt_irrefl _)
      have hnames : (cellsFrom (L' + 1) fn.sc.names []).map (·.1) = (cellsFrom 0 fn.sc.names []).map (·.1) := cellsFrom_names _ _ _ _ _ rfl
      obtain ⟨H1, X1, L1⟩ := cells_in (cv := bindCV fn.sc (fn.names.zip (args ++ fn.dfl.drop (args.length + fn.dfl.length - fn.names.length))) []) CA S.H gc1 hnew
        (bindC_rel (sc := fn.sc) (fun x => rfl) hbr fun x => ⟨fun y e => by simp at e, fun _ => rfl⟩)
      rw [hnames] at H1 L1
      have S1 : St G c' (clV ((cellsFrom 0 fn.sc.names []).map (·.1)) st.length) (bindLV fn.sc (fn.names.zip (args ++ fn.dfl.drop (args.length + fn.dfl.length - fn.names.length))) [])
          (bindL (envOfC fn.qual fn.sc L' f cdv).kindOf (fn.names.zip (vs ++ dvs.drop (vs.length + fn.dfl.length - fn.names.length))) fun _ => none) { s with heap := h₁, toks := tk } (cells.reverse ++ news) (al ++ cells.map fun p => (p.1, none)) (st ++ cellsV ((cellsFrom 0 fn.sc.names []).map (·.1)) (bindCV fn.sc (fn.names.zip (args ++ fn.dfl.drop (args.length + fn.dfl.length - fn.names.length))) [])) := by
        refine ⟨F', fun p hp => N' p (by rcases List.mem_append.mp hp with hp | hp; exact List.mem_append_left _ (List.mem_reverse.mp hp); exact List.mem_append_right _ hp), H1, ?_, L1, fun i q e => ?_⟩
        · exact bindL_rel (sc := fn.sc) (fun x => rfl) (hbr.kp (X1.kp S.H)) fun x y e => by simp at e
        · exact (X1.kp S.H).at (S.I i q e)
      refine (hb c' _ hc' ⟨rfl, rfl, rfl, htab⟩).ok hbody hA' S1 fun f2 s2 m2 n2 a2 S2 X2 R2 G2 => ?_
      refine leaveK_ S2.F S2.N fun F N => ?_
      have X := X1.trans S.H X2
      exact hR _ _ n2 a2 (e2 ▸ S.ext X F N S2.H) X (Except.ok.inj e1 ▸ R2.retV) (Same.trans ⟨rfl, rfl⟩ G2)
end
noncomputable def clsM (C : Addr) (init : List V → M V) (args : List V) : M V := fun st => match init (.hnd st.length :: args) (st ++ [.inst C []]) with
  | some (.ok .none, st') => some (.ok (.hnd st.length), st')
  | _ => none
section
variable {K : Frag} {prog : Program} {w : World}
theorem HR.ownedI {news : Led} {al : Al} {st : Sto} {x dx C : Addr} (H : HR K prog w news al st) (hx : x ∉ news.map (·.1)) (hd : dx ∉ news.map (·.1)) (hn : x ≠ dx) :
    HR K prog w ((x, instObj C dx) :: (dx, emptyDict) :: news) (al ++ [(x, some dx)]) (st ++ [.inst C []]) ∧ Ext news al ((x, instObj C dx) :: (dx, emptyDict) :: news) (al ++ [(x, some dx)]) := by
  have hb : ∀ b ∈ [x, dx], b ∉ news.map (·.1) := fun b hb => (List.mem_cons.mp hb).elim (· ▸ hx) fun h => List.mem_singleton.mp h ▸ hd
  have hx2 : x ∉ ((dx, emptyDict) :: news).map (·.1) := fun h => (List.mem_cons.mp h).elim hn hx
  exact ⟨((H.free hd).free hx2).snoc (p := (x, some dx)) (List.nodup_cons.mpr ⟨fun h => hn (List.mem_singleton.mp h), List.nodup_cons.mpr ⟨nofun, List.nodup_nil⟩⟩) (fun b h q => hb b h (H.own_dom q)) (.inst (es := []) (n := 0) (.head _) (.tail _ (.head _)) .nil),
    ⟨⟨[(x, some dx)], rfl, hb⟩, fun _ h _ => .tail _ (.tail _ h), fun _ h => .tail _ (.tail _ h)⟩⟩
end
section
variable {G : Pg} {c : Act} {k : Nat} {q : Bool} {CL : List (Str × Nat)} {ρ : Loc} {m : Str → Option Value} {s s' : Shared} {news news' : Led} {al al' : Al} {st st' : Sto} {A : Around} {E : Value → Shared → Prop} {pos : Pos}
structure ClsFn (K : Frag) (C f : Addr) : Prop where
  mak : makesIn K C = true
  init : findIn K (.ref C) "__init__" = some (some (.ref f))
  fn : typeIn K (.ref f) = some (.type "function")
set_option tactic.hygienic true in
theorem clsCall {C f : Addr} {fn : Fn} {body : List (Str × Nat) → Loc → M (Fl × Loc)} {vs : List Value} {args : List V} {y : V} {R : Result → Shared → Prop} (hc : c.Ok G) (hC : ClsFn (G.K c.w.params) C f) (hf : FnOk G.tabs (G.K c.w.params) f fn)
    (hb : ∀ (c' : Act) (CL' : List (Str × Nat)), c'.Ok G → InFn G c' fn → SoundS G c' k q CL' (execs fn.body c'.env) (body CL'))
    (hfr : A.frames = some (c.fenv :: c.outer)) (hd : A.depth + 8 * k + 22 < recursionLimit) (hu : A.units + 64 * k + 150 < cLine) (hh : q = true → A.handled = none)
    (S : St G c CL ρ m s news al st) (hs : VRs (G.K c.w.params) news al vs args) (e : clsM C (fnM fn body) args st = some (.ok y, st'))
    (hR : ∀ v s' news' al', St G c CL ρ m s' news' al' st' → Ext news al news' al' → VR (G.K c.w.params) news' al' v y → Same s s' → R (.ok (.ret v)) s') :
    codeAny (model G.prog c.w) A (.call (.ref C) ⟨vs, []⟩) R s := by
  unfold clsM at e
  split at e
  · rename_i st2 he
    induction e using E3
    refine W.make_K S.F S.N (hc.X.keeps S.F.keep) hC.mak hC.init hC.fn fun x dx h' F N hlt hxd => ?_
    have hdx : dx ∉ news.map (·.1) := fun q => by
      obtain ⟨p, hp, e⟩ := List.mem_map.mp q
      exact absurd (hlt p hp) (by rw [e]; exact Nat.lt_irrefl _)
    have hx : x ∉ news.map (·.1) := fun q => by
      obtain ⟨p, hp, e⟩ := List.mem_map.mp q
      exact absurd (Nat.lt_trans (hlt p hp) hxd) (by rw [e]; exact Nat.lt_irrefl _)
    obtain ⟨H1, X1⟩ := S.H.ownedI (C := C) hx hdx (Nat.ne_of_gt hxd)
    have S1 : St G c CL ρ m { s with heap := h' } ((x, instObj C dx) :: (dx, emptyDict) :: news) (al ++ [(x, some dx)]) (st ++ [.inst C []]) := S.ext X1 F N H1
    have r1 : VR (G.K c.w.params) ((x, instObj C dx) :: (dx, emptyDict) :: news) (al ++ [(x, some dx)]) (.ref x) (.hnd st.length) := .hnd (x := some dx) (by rw [← S.H.len]; simp)
    refine fnCall (A := A.under (.builtin "type.__call__" ⟨.ref C :: vs, []⟩)) hc hf hb hfr ?_ ?_ hh S1 (.cons r1 (hs.ext S.H X1)) he fun v s2 n2 a2 S2 X2 R2 G2 => ?_
    · show A.depth + 1 + 8 * k + 20 < recursionLimit
      lia
    · show A.units + 1 + 64 * k + 140 < cLine
      lia
    · cases R2
      exact ⟨rfl, hR _ _ n2 a2 S2 (X1.trans S.H X2) (r1.ext S1.H X2) (Same.trans ⟨rfl, rfl⟩ G2)⟩
  · exact noS e
noncomputable def plainPar (p : Arguments) : Bool := p.posonlyargs.isEmpty && p.kwonlyargs.isEmpty && p.vararg.isNone && p.kwarg.isNone && p.defaults.isEmpty && p.kw_defaults.isEmpty && decide ((p.args.map (·.arg)).Nodup)
noncomputable def lamOk (p : Arguments) (sc : Scope) : Bool := plainPar p && (p.args.map (·.arg)).all (fun x => sc.names.lookup x == some .local) && !sc.isCoroutine && !sc.isGenerator && decide (sc.kind = .function) && sc.names.all (fun x => x.2 != .cell)
def tabQ : O → Option Str
  | .tab q => some q
  | _ => none
noncomputable def lamC (ti : Option Nat) (CL : List (Str × Nat)) (params : Arguments) (sc : Scope) (qual : Str) (st : Sto) : Option (List (Str × Nat)) := ti.bind fun ti => st[ti]?.bind fun o => (tabQ o).bind fun qq => if qq = qual ∧ lamOk params sc = true then clos CL sc.names [] else none
def lamM (ti : Option Nat) (CL : List (Str × Nat)) (params : Arguments) (body : Expr) (sc : Scope) (qual : Str) : M V := fun st => (lamC ti CL params sc qual st).bind fun cl => newO (.lam params body sc qual cl) st
theorem lamOk_of {p : Arguments} {sc : Scope} (h : lamOk p sc = true) : (p.posonlyargs = [] ∧ p.kwonlyargs = [] ∧ p.vararg = none ∧ p.kwarg = none ∧ p.defaults = [] ∧ p.kw_defaults = [] ∧ (p.args.map (·.arg)).Nodup) ∧ (∀ x ∈ p.args.map (·.arg), sc.names.lookup x = some .local) ∧ sc.isCoroutine = false ∧ sc.isGenerator = false ∧ sc.kind = .function ∧ ∀ x ∈ sc.names, x.2 ≠ .cell := by
  unfold lamOk plainPar at h
  simp only [Bool.and_eq_true, List.isEmpty_iff, Option.isNone_iff_eq_none, decide_eq_true_eq, Bool.not_eq_true', List.all_eq_true, beq_iff_eq, bne_iff_ne] at h
  obtain ⟨⟨⟨⟨⟨⟨⟨⟨⟨⟨⟨h1, h2⟩, h3⟩, h4⟩, h5⟩, h6⟩, h7⟩, h8⟩, h9⟩, h10⟩, h11⟩, h12⟩ := h
  exact ⟨⟨h1, h2, h3, h4, h5, h6, h7⟩, h8, h9, h10, h11, h12⟩
theorem codeAmong_snoc_ne {pos p : Pos} {cv x : Value} : ∀ (l : List Value), TriplesOk l → codeAmong p (l ++ [rawInt pos.line, rawInt pos.col, cv]) = some x → codeAmong p l = some x ∨ x = cv
  | [], _, e => iteE (show (if ((pos.line : Int) == p.line && (pos.col : Int) == p.col) then some cv else codeAmong p []) = some x from e) (fun _ e => .inr (sInj e).symm) fun _ e => .inl e
  | .int a _ :: .int b _ :: y :: rest, h, e => by
    show (if a == p.line && b == p.col then some y else codeAmong p rest) = _ ∨ _
    refine iteE (show (if a == p.line && b == p.col then some y else codeAmong p (rest ++ _)) = _ from e) (fun hc e => ?_) fun hc e => ?_
    · rw [if_pos hc]; exact .inl e
    · rw [if_neg hc]; exact codeAmong_snoc_ne rest h e
theorem triples_snoc {pos : Pos} {cv : Value} : ∀ {l : List Value}, TriplesOk l → TriplesOk (l ++ [rawInt pos.line, rawInt pos.col, cv])
  | [], _ => trivial
  | .int _ _ :: .int _ _ :: _ :: rest, h => triples_snoc (l := rest) h
theorem dflt_none {p : Arguments} {env : Env} (h1 : p.defaults = []) (h2 : p.kw_defaults = []) : defaultsOf p env = ([], []) := by
  cases p
  simp only at h1 h2
  subst h1 h2
  rfl
theorem env_code : c.env.code = c.ccd := by unfold Act.env; cases c.comp <;> rfl
theorem ne_data {h : Heap} {a b : Addr} {x y : Obj} (h1 : h.get? a = some x) (h2 : h.get? b = some y) (hn : x.data ≠ y.data) : a ≠ b := fun e => hn (by rw [e, h2] at h1; rw [sInj h1])
theorem putLed_cons {d a : Addr} {o x : Obj} {news : Led} (h : a ≠ d) : putLed d o ((a, x) :: news) = (a, x) :: putLed d o news := congrArg (· :: putLed d o news) (if_neg h)
theorem HR.turn {K : Frag} {prog : Program} {w : World} (H : HR K prog w news al st) {ti : Nat} {P c' : Addr} {oc : Obj} {vs : Array Value} {t : Tok} {q : Str} {ps : Array Value} (hal : al[ti]? = some (P, none)) (hst : st[ti]? = some (.tab q)) (g1 : (P, tabObj ps) ∈ news) (g2 : TriplesOk ps.toList)
    (g3 : ∀ pos cv, codeAmong pos ps.toList = some cv → ∃ c' oc vs t, cv = .ref c' ∧ (c', oc) ∈ news ∧ oc.data = .fields vs ∧ vs[1]? = some (.str q t)) (hn : c' ∉ news.map (·.1)) (hd : oc.data = .fields vs) (hv : vs[1]? = some (.str q t)) :
    HR K prog w ((c', oc) :: putLed P (tabObj (ps ++ #[rawInt pos.line, rawInt pos.col, .ref c'])) news) al st := by
  have hne : c' ≠ P := fun e => hn (e ▸ List.mem_map_of_mem (f := (·.1)) g1)
  have hPo : P ∈ flat al := mem_flat.mpr ⟨ti, _, hal, .inl rfl⟩
  have X : Ext news al ((c', oc) :: putLed P (tabObj (ps ++ #[rawInt pos.line, rawInt pos.col, .ref c'])) news) al := putLed_cons hne ▸ (Ext.free (a := c') (o := oc)).trans H (Ext.put hPo)
  have H1 := (H.free hn (o := oc)).put (o := tabObj (ps ++ #[rawInt pos.line, rawInt pos.col, .ref c'])) (x := .tab q) hal (.inl rfl) ?_
  · rw [putLed_cons hne] at H1
    obtain ⟨hlt, hg⟩ := List.getElem?_eq_some_iff.mp hst
    rw [← hg, List.set_getElem_self] at H1
    exact H1
  · rw [putLed_cons hne]
    refine .tab (.tail _ (mem_putLed_at g1)) (by rw [Array.toList_append]; exact triples_snoc g2) fun pos' cv e => ?_
    rw [Array.toList_append] at e
    rcases codeAmong_snoc_ne _ g2 e with e | e
    · obtain ⟨c3, oc3, vs3, t3, u1, u2, u3, u4⟩ := g3 pos' _ e
      exact ⟨c3, oc3, vs3, t3, u1, X.keep _ u2 (H.free_of u2 (free_code u3 u4)), u3, u4⟩
    · exact ⟨c', oc, vs, t, e, .head _, hd, hv⟩
theorem News.turn {h h' : Heap} {h₀ : Heap} {L : Addr} {P : Addr} {o : Obj} (N : News h₀ L h news) (hx : ∀ b x, b ≠ P → h.get? b = some x → h'.get? b = some x) (htb : h'.get? P = some o) : News h₀ L h' (putLed P o news) := fun p hp => by
  obtain ⟨x, hxm, e⟩ := List.mem_map.mp hp
  refine iteE e (fun hxp e => ?_) fun hxp e => ?_
  · exact e ▸ ⟨htb, hxp ▸ (N _ hxm).2⟩
  · exact e ▸ ⟨hx _ _ hxp (N _ hxm).1, (N _ hxm).2⟩
theorem St.lamNew {s1 : Shared} {n1 : Led} {c' : Addr} {oc : Obj} {vs : Array Value} {t : Tok} {name qual : Str} {params : Arguments} {body : Expr} {sc : Scope} {clA : List (Str × Addr)} {CL' : List (Str × Nat)} {pm ctv : Value} {tk : Nat} {Q : Value → Shared → Prop} (S : St G c CL ρ m s1 n1 al st) (k1 : (c', oc) ∈ n1) (k2 : oc.data = .fields vs) (k3 : vs[1]? = some (.str qual t))
    (hrel : ∀ x k, CL'.lookup x = some k → ∃ a, clA.lookup x = some a ∧ al[k]? = some (a, none)) (hQ : Cont G c CL ρ m s1 n1 al relV (.hnd st.length) (st ++ [.lam params body sc qual CL']) Q) :
    Q (.ref s1.heap.objs.size) { s1 with heap := s1.heap.push (kla_obj name qual params body sc clA pm c' ctv), toks := tk } := by
  obtain ⟨S', X', r'⟩ := S.newOwn (tk := tk) S.fresh (S.F.push _) (S.N.push S.F _) (x := .lam params body sc qual CL') (.lam (.head _) (.tail _ k1) k2 k3 fun x kk hx => by
    obtain ⟨a, u1, u2⟩ := hrel x kk hx
    exact ⟨a, u1, (List.getElem?_append_left (List.getElem?_eq_some_iff.mp u2).1).trans u2⟩)
  exact hQ _ _ _ _ S' X' r' ⟨rfl, rfl⟩
theorem Sound.lambda {fn : Fn} {params : Arguments} {body : Expr} {sc : Scope} (hc : c.Ok G) (hcd : ∀ ti, fn.tab = some ti → ∃ cc P, c.ccd = .ref cc ∧ G.tabs[ti]? = some (cc, P)) (hcn : c.cn = fn.qual) :
    Sound G c k q CL ρ relV (eval (.Lambda params body sc pos) c.env) (lamM fn.tab CL params body sc (fn.qual ++ ".<locals>." ++ "<lambda>")) := by
  intro st r e A s m news al Q E hA S hE hQ
  refine bindE e fun CL' e1 e => bindE e1 fun ti hti e1 => bindE e1 fun o hst e1 => bindE e1 fun qq ho e1 => iteS e1 fun hq hCL => ?_
  cases o with
  | tab q' =>
    obtain ⟨⟨p1, p2, p3, p4, p5, p6, p7⟩, _⟩ := lamOk_of hq.2
    rw [show q' = fn.qual ++ ".<locals>." ++ "<lambda>" from (sInj ho).trans hq.1] at hst
    obtain ⟨cc, P, h1, h2⟩ := hcd ti hti
    have hal := S.I ti _ h2
    have CH := (hc.cd _ (List.mem_of_getElem? h2)).keeps S.F.keep
    obtain ⟨clA, hcl, hrel⟩ := clos_rel (al := al) S.C (acc := []) (accN := []) nofun hCL
    obtain ⟨_, ps, g1, g2, g3⟩ := (S.H.obj _ _ _ hal hst).inv
    have hP := S.N.get g1
    obtain ⟨bm, ob, b1, b2, b3, b4, b5, b6⟩ := hc.T.bmain
    have b3 := S.F.keep _ _ b3
    have hgs := hc.T.g.keeps S.F.keep
    obtain ⟨og, es, ep, d1, d2, _⟩ := hgs
    have hgP : mainGlobals ≠ P := ne_data d1 hP (d2 ▸ nofun)
    have hB : s.heap.BuiltinsAt c.mg P := ⟨bm, ob, b1, b2, ne_data b3 d1 (b6 ▸ d2 ▸ nofun), ne_data b3 hP (b6 ▸ nofun), b3, b4, b5, b6⟩
    have hEnd : ∀ {s1 : Shared} {n1 : Led} {c' : Addr} {oc : Obj} {vs : Array Value} {t : Tok} {name : Str} {pm ctv : Value} {tk : Nat}, St G c CL ρ m s1 n1 al st → Ext news al n1 al → Same s s1 → (c', oc) ∈ n1 → oc.data = .fields vs → vs[1]? = some (.str (fn.qual ++ ".<locals>." ++ "<lambda>") t) → Q (.ref s1.heap.objs.size) { s1 with heap := s1.heap.push (kla_obj name (fn.qual ++ ".<locals>." ++ "<lambda>") params body sc clA pm c' ctv), toks := tk } := fun S1 X1 G1 k1 k2 k3 =>
      S1.lamNew k1 k2 k3 hrel fun v s' n' a' S' X' R' G' => hQ _ _ (sInj e).symm v s' n' a' S' (X1.trans S.H X') R' (G1.trans G')
    refine kla_eval (dflt_none p5 p6) ?_
    rw [show c.env.qual ++ "<lambda>" = fn.qual ++ ".<locals>." ++ "<lambda>" by rw [← hcn]; unfold Act.env; cases c.comp <;> rfl]
    cases hf : codeAmong pos ps.toList with
    | some cv =>
      obtain ⟨c', oc, vs, t, e2, k1, k2, k3⟩ := g3 pos cv hf
      refine kla_makeFunctionHit (mg := c.mg) (closureFor_of (env_cells ▸ hcl)) env_globals.1 (hc.T.g.keeps S.F.keep) (env_code.trans h1) CH hP g2 hf hB fun ctv h' tk hk hsz => ?_
      rw [e2]
      exact hEnd (s1 := { s with heap := h', toks := tk }) (S.ext Ext.refl (S.F.keeps hk) (S.N.grown hk) S.H) Ext.refl ⟨rfl, rfl⟩ k1 k2 k3
    | none =>
      refine kla_makeFunction (mg := c.mg) (closureFor_of (env_cells ▸ hcl)) env_globals.1 (hc.T.g.keeps S.F.keep) (env_code.trans h1) CH hP g2 hf hgP hB fun c' ctv h' tk hx hge hlt hrec htb => ?_
      obtain ⟨c₂, oc, vs, t, e2, hoc, hd, hv⟩ := hrec
      rw [← Value.ref.inj e2] at hoc
      have hPn := S.N _ g1
      have hLc : c.L < c' := Nat.lt_of_lt_of_le S.F.ns.lt hge
      have hn : c' ∉ news.map (·.1) := fun q => by
        obtain ⟨p, hp, e⟩ := List.mem_map.mp q
        exact absurd (Heap.lt_size (S.N p hp).1) (by rw [e]; exact Nat.not_lt.mpr hge)
      have hne : c' ≠ P := fun e => hn (e ▸ List.mem_map_of_mem (f := (·.1)) g1)
      have N1 := News.turn S.N hx htb
      have X1 : Ext news al ((c', oc) :: putLed P (tabObj (ps ++ #[rawInt pos.line, rawInt pos.col, .ref c'])) news) al := (Ext.put (mem_flat.mpr ⟨ti, _, hal, .inl rfl⟩)).trans S.H Ext.free
      refine hEnd (s1 := { s with heap := h' }) (S.ext X1 ⟨S.F.ns.extBut hx hPn.2.1.symm, fun b o e => hx b o (fun q => by rw [q, hPn.2.2] at e; exact noS e) (S.F.keep b o e), S.F.above⟩ (fun p hp => ?_) (S.H.turn hal hst g1 g2 g3 hn hd hv)) X1 ⟨rfl, rfl⟩ (.head _) hd hv
      rcases List.mem_cons.mp hp with e | hp
      · exact e ▸ ⟨hoc, Nat.ne_of_gt hLc, Heap.get?_none_of_le (Nat.le_trans S.F.above (Nat.le_of_lt hLc))⟩
      · exact N1 p hp
  | _ => exact noS ho
def lamCallM (ev : List (Str × Nat) → Loc → M V) (params : Arguments) (cl : List (Str × Nat)) (args : List V) : M V := fun st =>
  if args.length = params.args.length then noErr (ev cl ((params.args.map (·.arg)).zip args)) st else none
theorem lookupNd {α : Type} : ∀ {l : List (Str × α)} {x : Str} {v : α}, (l.map (·.1)).Nodup → (x, v) ∈ l → l.lookup x = some v
  | [], _, _, _, h => nomatch h
  | (n, u) :: r, x, v, hn, h => by
    simp only [List.map_cons, List.nodup_cons] at hn
    rw [List.lookup_cons]
    rcases List.mem_cons.mp h with e | h
    · induction e using E4; simp
    · have : (x == n) = false := by
        rw [beq_eq_false_iff_ne]
        exact fun e => hn.1 (e ▸ List.mem_map_of_mem (f := (·.1)) h)
      rw [this]
      exact lookupNd hn.2 h
theorem zip_lookup_rel {K : Frag} : ∀ {ns : List Str} {vs : List Value} {l : List V}, ns.Nodup → vs.length = ns.length → VRs K news al vs l → ∀ x y, (ns.zip l).lookup x = some y → ∃ v, (ns.zip vs).reverse.lookup x = some v ∧ VR K news al v y := by
  intro ns vs l hn hl h x y e
  have key : ∀ {ns : List Str} {vs : List Value} {l : List V}, vs.length = ns.length → VRs K news al vs l → ∀ x y, (ns.zip l).lookup x = some y → ∃ v, (x, v) ∈ ns.zip vs ∧ VR K news al v y := by
    intro ns
    induction ns with
    | nil => intro vs l _ _ x y e; simp at e
    | cons n r ih =>
      intro vs l hl h x y e
      cases h with
      | nil => simp at hl
      | cons h1 h2 =>
        simp only [List.zip_cons_cons, List.lookup_cons] at e
        cases hx : x == n with
        | true => rw [hx] at e; cases e; rw [eq_of_beq hx]; exact ⟨_, .head _, h1⟩
        | false =>
          rw [hx] at e
          obtain ⟨v, g1, g2⟩ := ih (by simpa using hl) h2 x y e
          exact ⟨v, .tail _ g1, g2⟩
  obtain ⟨v, h1, h2⟩ := key hl h x y e
  refine ⟨v, lookupNd ?_ (List.mem_reverse.mpr h1), h2⟩
  rw [List.map_reverse, (List.reverse_perm _).nodup_iff, List.map_fst_zip (by lia)]
  exact hn
theorem noErr_ok {α : Type} {m : M α} {st : Sto} {r : Except Addr α × Sto} {P : Prop} (e : noErr m st = some r) (k : ∀ a st1, m st = some (.ok a, st1) → (.ok a, st1) = r → P) : P := by
  unfold noErr at e
  cases h : m st with
  | none => rw [h] at e; exact noS e
  | some p =>
    obtain ⟨r1, st1⟩ := p
    rw [h] at e
    cases r1 with
    | ok a => exact k a st1 h (sInj e)
    | error C => exact noS e
theorem lamCall {kk : Nat} {params : Arguments} {body : Expr} {sc : Scope} {qual : Str} {cl : List (Str × Nat)} {ev : List (Str × Nat) → Loc → M V} {v : Value} {vs : List Value} {args : List V} {y : V} {R : Result → Shared → Prop} (hG : G.Ok) (hc : c.Ok G) (hok : lamOk params sc = true)
    (hb : ∀ (c' : Act) (CL' : List (Str × Nat)) (ρ' : Loc), c'.Ok G → c'.comp = none → c'.cs = sc → c'.cn = qual → Sound G c' k q CL' ρ' relV (eval body c'.env) (ev CL' ρ'))
    (hfr : A.frames = some (c.fenv :: c.outer)) (hd : A.depth + 8 * k + 20 < recursionLimit) (hu : A.units + 64 * k + 140 < cLine) (hh : q = true → A.handled = none)
    (S : St G c CL ρ m s news al st) (hv : VR (G.K c.w.params) news al v (.hnd kk)) (hst : st[kk]? = some (.lam params body sc qual cl)) (hs : VRs (G.K c.w.params) news al vs args) (e : lamCallM ev params cl args st = some (.ok y, st'))
    (hR : ∀ v s' news' al', St G c CL ρ m s' news' al' st' → Ext news al news' al' → VR (G.K c.w.params) news' al' v y → Same s s' → R (.ok (.ret v)) s') :
    codeAny (model G.prog c.w) A (.call v ⟨vs, []⟩) R s := by
  obtain ⟨⟨p1, p2, p3, p4, p5, p6, p7⟩, p8, p9, p10, p11, p12⟩ := lamOk_of hok
  refine iteS e fun hlen e => noErr_ok e fun y' st2 e1 e2 => ?_
  obtain ⟨z1, z2⟩ := Prod.mk.inj e2
  rw [z2, Except.ok.inj z1] at e1
  obtain ⟨f, e0, _, hal⟩ := hv.inv
  rw [e0]
  obtain ⟨_, c', oc, fvs, t, name, clos, pm, ctv, g1, g2, g3, g4, g5⟩ := (S.H.obj _ _ _ hal hst).inv
  have hns : vs.length = (params.args.map (·.arg)).length := hs.length.trans (hlen.trans (List.length_map _).symm)
  refine kla_code hc.B S.F hc.X S.N hc.T hfr rfl hc.hk g1 ⟨c', oc, fvs, t, rfl, S.N.get g2, g3, g4⟩ (by lia) (bind_simple (kla_fn name qual params body sc clos pm (.ref c') ctv) p1 p2 p3 p4 rfl hns p7) (fun x hx => p8 _ (List.of_mem_zip hx).1)
    (fun g L' h₁ FG F' N' BG XG TG => ?_) p9 p10 p11 p12
  refine (hb { c with A₀ := A, h₀ := g, outer := c.fenv :: c.outer, cn := qual, cs := sc, L := L', a := f, ccd := .ref c', cl := clos, comp := none } cl _ ⟨BG, p11, nofun, XG, TG, fun q hq => hG.tab _ q hq g XG⟩ rfl rfl rfl).ok e1
    (A := A.deeper (envX qual sc L' f (.ref c') clos)) (S := ⟨F', N', S.H, fun x y e => zip_lookup_rel p7 hns hs x y e, g5, S.I⟩) ⟨Around.frames_deeper hfr, by show A.depth + 1 + 8 * k + 16 < recursionLimit; lia, by show A.units + 3 + 64 * k + 128 < cLine; lia, hh⟩ fun v3 s3 n3 a3 S3 X3 R3 G3 => ?_
  exact leaveK_ S3.F S3.N fun F N => hR _ _ n3 a3 (S.ext X3 F N S3.H) X3 R3 (Same.trans ⟨rfl, rfl⟩ G3)
end
def seqAt (a : V) (s : Sto) : Option (List V) := match a with
  | .hnd k => lstAt s k
  | .lstK l => some l
  | _ => none
def partE (f : Expr → M V) : Option Expr → M V
  | none => M.pure .none
  | some e => f e
def sliceV (a lo hi st : V) (s : Sto) : Option (List V) := (seqAt a s).bind fun l => (partV lo).bind fun lo => (partV hi).bind fun hi => (partV st).bind fun st => if l.length ≤ sizeLine ∧ st ≠ some 0 then some (pickV l lo hi st) else none
def sliceM (a lo hi st : V) : M V := fun s => (sliceV a lo hi st s).bind fun l => newO (.list l) s
def pairsM (f : Expr → M V) : List (Option Expr) → List Expr → M (List (Str × V))
  | some k :: ks, v :: vs => M.bind (f k) fun a => M.bind (f v) fun b => M.bind (pairsM f ks vs) fun l => match a with
    | .str x => M.pure ((x, b) :: l)
    | _ => stop
  | [], [] => M.pure []
  | _, _ => stop
def notTup : Expr → Bool
  | .Tuple _ _ _ => false
  | _ => true
set_option backward.match.sparseCases true in
noncomputable def swapNames (cs : Scope) (ts : List Expr) : List Str := ts.filterMap fun
    | .Name id pos => if cs.names.lookup id == some .local && pos.line == (ts.head?.map (·.pos.line)).getD 0 then some id else none
    | _ => none
set_option backward.match.sparseCases true in
noncomputable def swapT (cs : Scope) (ts vs : List Expr) : Bool := (ts.length == 2 || ts.length == 3) && (vs.length == ts.length) && !(vs.any fun | .Starred .. => true | _ => false) && ((swapNames cs ts).length == ts.length) && ((swapNames cs ts).eraseDups.length == (swapNames cs ts).length) && !(vs.all (foldedForSure 8)) && !(vs.all (constantsAlone 8))
section
variable {G : Pg} {c : Act} {k : Nat} {q : Bool} {CL : List (Str × Nat)} {ρ : Loc} {m : Str → Option Value} {s s' : Shared} {news news' : Led} {al al' : Al} {st st' : Sto} {A : Around} {E : Value → Shared → Prop} {pos : Pos}
theorem Sound.part {f : Expr → M V} {o : Option Expr} (h : ∀ e, o = some e → Sound G c k q CL ρ relV (eval e c.env) (f e)) : Sound G c k q CL ρ relV (evalPart o c.env) (partE f o) := by
  cases o with
  | none =>
    intro st r e A s m news al Q E hA S hE hQ
    cases e
    exact wpAny_pure (hQ _ _ rfl _ s news al S Ext.refl .none .refl)
  | some e => exact h e rfl
theorem St.seqAt (hc : c.Ok G) (S : St G c CL ρ m s news al st) {v : Value} {y : V} {l : List V} (h : VR (G.K c.w.params) news al v y) (e : seqAt y st = some l) : ∃ (b : Addr) (vs : List Value), v = .ref b ∧ s.heap.IsList b vs.toArray ∧ VRs (G.K c.w.params) news al vs l := by
  cases y with
  | hnd k =>
    obtain ⟨a, e0, _⟩ := h.inv
    obtain ⟨vs, n, _, hm, hli, r1⟩ := S.list (e0 ▸ h) (lstAt_of e)
    exact ⟨a, vs, e0, hli, r1⟩
  | lstK l' =>
    rw [← sInj e]
    obtain ⟨a, o, vs, n, e0, hK, hK1, hK2, r1⟩ := h.inv
    exact ⟨a, vs, e0, ⟨_, hc.X.keeps S.F.keep _ _ hK, hK1, _, hK2⟩, r1⟩
  | _ => exact noS e
theorem Sound.slice (hc : c.Ok G) {f : Expr → M V} {o : Expr} {lo hi stp : Option Expr} {p : Pos} {mo : M V} (h1 : Sound G c k q CL ρ relV (eval o c.env) mo) (hl : ∀ e, lo = some e → Sound G c k q CL ρ relV (eval e c.env) (f e)) (hh : ∀ e, hi = some e → Sound G c k q CL ρ relV (eval e c.env) (f e)) (hs : ∀ e, stp = some e → Sound G c k q CL ρ relV (eval e c.env) (f e)) :
    Sound G c k q CL ρ relV (eval (.Subscript o (.Slice lo hi stp p) pos) c.env) (M.bind mo fun a => M.bind (partE f lo) fun x => M.bind (partE f hi) fun y => M.bind (partE f stp) fun z => sliceM a x y z) := by
  intro st r e A s m news al Q E hA S hE hQ
  refine Subscript_ (h1.go e hA S hE fun a st1 e1 v1 s1 n1 a1 S1 X1 R1 G1 => ?_)
  have E1 := hE.step S X1 G1
  refine wpAny_Slice ((Sound.part hl).go e1 hA S1 E1 fun x st2 e2 v2 s2 n2 a2 S2 X2 R2 G2 => ?_)
  have E2 := E1.step S1 X2 G2
  refine (Sound.part hh).go e2 hA S2 E2 fun y st3 e3 v3 s3 n3 a3 S3 X3 R3 G3 => ?_
  refine (Sound.part hs).go e3 hA S3 (E2.step S2 X3 G3) fun z st4 e4 v4 s4 n4 a4 S4 X4 R4 G4 => ?_
  refine bindE e4 fun L e5 e4 => bindE e5 fun l g1 e5 => bindE e5 fun lo' g2 e5 => bindE e5 fun hi' g3 e5 => bindE e5 fun st' g4 e5 => iteS e5 fun hz e5 => ?_
  obtain ⟨b, vs, e0, hli, r1⟩ := S4.seqAt hc (((R1.ext S1.H X2).ext S2.H X3).ext S3.H X4) g1
  rw [e0]
  refine sliceTail S4 hli r1 hz.1 (part_of ((R2.ext S2.H X3).ext S3.H X4) g2) (part_of (R3.ext S3.H X4) g3) (part_of R4 g4) hz.2 (match stp with | none => [.ref s4.heap.objs.size, .ref b] | some _ => [.ref b, .ref s4.heap.objs.size]) (by cases stp <;> rfl) fun b2 s5 n5 S5 X5 hb hm5 G5 => ?_
  have hm5' : (b2, listOf (slicePick vs.toArray lo' hi' st').toList.toArray 0) ∈ n5 := by rw [Array.toArray_toList]; exact hm5
  have hnal : b2 ∉ flat a4 := fun h => hb (S4.H.own_dom h)
  have X6 : Ext n4 a4 n5 (a4 ++ [(b2, none)]) := ⟨⟨[(b2, none)], rfl, fun x hx => List.mem_singleton.mp hx ▸ hb⟩, X5.keep, X5.dom⟩
  have H6 : HR (G.K c.w.params) G.prog c.w n5 (a4 ++ [(b2, none)]) (st4 ++ [.list L]) := S5.H.snoc (p := (b2, none)) (List.nodup_cons.mpr ⟨nofun, List.nodup_nil⟩) (fun x hx => List.mem_singleton.mp hx ▸ hnal) (.list hm5' (sInj e5 ▸ (r1.slice lo' hi' st').kp (X6.kp S4.H)))
  exact hQ _ _ (sInj e4).symm _ s5 n5 _ (S4.ext X6 S5.F S5.N H6) (X1.trans S.H (X2.trans S1.H (X3.trans S2.H (X4.trans S3.H X6)))) (.hnd (x := none) (by rw [← S4.H.len, List.getElem?_concat_length])) (G1.trans (G2.trans (G3.trans (G4.trans G5))))
theorem PR.keys {K : Frag} {κ : Type} {kvs : List (κ × Value)} {fs : List (κ × V)} (h : PR K news al kvs fs) : kvs.map (·.1) = fs.map (·.1) := by
  induction h with
  | nil => rfl
  | cons _ _ ih => exact congrArg (List.cons _) ih
theorem pairs_sound {f : Expr → M V} {pv : Pos} {ks : List (Option Expr)} : ∀ {vs : List Expr}, (∀ e, some e ∈ ks → Sound G c k q CL ρ relV (eval e c.env) (f e)) → (∀ e ∈ vs, Sound G c k q CL ρ relV (eval e c.env) (f e)) →
    Sound G c k q CL ρ (fun K news al (l : List (Value × Value)) (l' : List (Str × V)) => ∃ kvs : List (Str × Value), Carries (strKind G.prog c.w) l kvs ∧ PR K news al kvs l') (evalPairs (pairTrees ks vs c.env pv)) (pairsM f ks vs) := by
  induction ks with
  | nil =>
    intro vs hk hv
    cases vs with
    | nil => exact fun st r e A s m news al Q E hA S hE hQ => evalPairs_nil (hQ _ _ (sInj e).symm _ s news al S Ext.refl ⟨[], trivial, .nil⟩ .refl)
    | cons v0 vs => exact fun st r e => noS e
  | cons k0 ks ih =>
    intro vs hk hv
    cases k0 with
    | none => exact fun st r e => noS e
    | some k0 => cases vs with
      | nil => exact fun st r e => noS e
      | cons v0 vs =>
        intro st r e A s m news al Q E hA S hE hQ
        show wpAny _ _ (evalPairs ((eval k0 c.env, do let x ← eval v0 c.env; standAt pv; pure x) :: pairTrees ks vs c.env pv)) _ _ _
        refine evalPairs_cons ((hk k0 (.head _)).go (show M.bind (f k0) _ st = some r from e) hA S hE fun a st1 e1 va s1 n1 a1 S1 X1 R1 G1 => ?_)
        have E1 := hE.step S X1 G1
        refine wpAny_bind ((hv v0 (.head _)).go e1 hA S1 E1 fun b st2 e2 vb s2 n2 a2 S2 X2 R2 G2 => wpAny_bind (wpAny_standAt (wpAny_pure ?_)))
        refine (ih (fun e he => hk e (.tail _ he)) fun e he => hv e (.tail _ he)).go e2 hA S2 (E1.step S1 X2 G2) fun l st3 e3 vl s3 n3 a3 S3 X3 R3 G3 => ?_
        obtain ⟨kvs, g1, g2⟩ := R3
        have Ra := (R1.ext S1.H X2).ext S2.H X3
        cases a with
        | str x =>
          obtain ⟨t, ha⟩ := Ra.inv
          exact hQ _ _ (sInj e3).symm _ s3 n3 a3 S3 (X1.trans S.H (X2.trans S1.H X3)) (ha ▸ ⟨(x, vb) :: kvs, ⟨strKind_is _ _ _ _, rfl, g1⟩, .cons (R2.ext S2.H X3) g2⟩) (G1.trans (G2.trans G3))
        | _ => exact noS e3
theorem Sound.dict0 (hc : c.Ok G) : Sound G c k q CL ρ relV (eval (.Dict [] [] pos) c.env) (newO (.sdict [])) := by
  intro st r e A s m news al Q E hA S hE hQ
  induction e using E1
  refine wpAny_Dict_empty ?_
  obtain ⟨o, ho, hd⟩ := Heap.dictOf_iff.mp (Heap.DictOf.new (knd := strKind G.prog c.w) s.heap)
  have h0 := Heap.get?_push_size (o := ({ cls := .type "dict", data := .dict #[] } : Obj)) s.heap rfl
  rw [h0] at ho; induction ho using E1
  obtain ⟨S', X', r'⟩ := S.newOwn (tk := s.toks) (x := .sdict []) S.fresh (S.F.push emptyDict) (S.N.push S.F emptyDict) (.sdict (.head _) hd (S.sys hc) .nil)
  exact hQ _ _ rfl _ _ _ _ S' X' r' ⟨rfl, rfl⟩
theorem Sound.dict (hc : c.Ok G) {f : Expr → M V} {ks : List (Option Expr)} {vs : List Expr} (hall : ks.all (·.isSome) = true) (hl : ks.length = vs.length) (h0 : ks ≠ []) (hlen : ks.length ≤ 15) (hk : ∀ e, some e ∈ ks → Sound G c k q CL ρ relV (eval e c.env) (f e)) (hv : ∀ e ∈ vs, Sound G c k q CL ρ relV (eval e c.env) (f e)) :
    Sound G c k q CL ρ relV (eval (.Dict ks vs pos) c.env) (M.bind (pairsM f ks vs) fun l st => if (l.map (·.1)).Nodup then newO (.sdict l) st else none) := by
  intro st r e A s m news al Q E hA S hE hQ
  refine kdn_eval (knd := strKind G.prog c.w) S.F S.N hc.T.nolimit hall hl h0 hlen fun d h' o F N hlt hsys hd => ?_
  have hdn : d ∉ news.map (·.1) := fun q => by
    obtain ⟨p, hp, e⟩ := List.mem_map.mp q
    exact absurd (hlt p hp) (by rw [e]; exact Nat.lt_irrefl _)
  have O : Off c d news := ⟨Ne.symm (N (d, o) (.head _)).2.1, (N (d, o) (.head _)).2.2, hdn⟩
  have hnf : ¬ Free o := by
    obtain ⟨es, ep, hc', hdat, _⟩ := hd
    exact nf_data (hdat ▸ nofun) (hdat ▸ nofun)
  have S1 : St G c CL ρ m { s with heap := h' } ((d, o) :: news) al st := S.ext Ext.free F N (S.H.free hdn)
  refine (pairs_sound hk hv).go e hA S1 (hE.step S Ext.free ⟨rfl, rfl⟩) fun l st2 e2 vl s2 n2 a2 S2 X2 R2 G2 => ?_
  obtain ⟨kvs, g1, g2⟩ := R2
  refine iteS e2 fun _ e2 => ?_
  · rename_i hnd
    induction e2 using E1
    have hal : d ∉ flat al := fun h => hdn (S.H.own_dom h)
    have hm2 : (d, o) ∈ n2 := X2.keep _ (.head _) hal
    have hkeys : kvs.map (·.1) = l.map (·.1) := g2.keys
    refine ⟨kvs, g1, Heap.dictOf_iff.mpr ⟨o, S2.N.get hm2, hd⟩, fun h3 hD hsb => ?_⟩
    rw [merged_nil_of_nodup kvs (by rw [hkeys]; exact hnd)] at hD
    obtain ⟨o', ho', hd'⟩ := Heap.dictOf_iff.mp hD
    obtain ⟨N3, H3, X3, K3, O3, g3⟩ := S.without (c := c) O hnf rfl (h' := s2.heap) S2.H S2.N X2
    have S3 : St G c CL ρ m s2 (dropLed d n2) a2 st2 := S.ext X3 S2.F N3 H3
    have O3' : Off c d (dropLed d n2) := ⟨O.ne, O.old, O3⟩
    have S4 := S3.off O3' (tk := s2.toks) fun b x hb e => (hsb.2 b hb).trans e
    have N5 : News c.h₀ c.L h3 ((d, o') :: dropLed d n2) := fun p hp => by
      rcases List.mem_cons.mp hp with rfl | hp
      · exact ⟨ho', Ne.symm O.ne, O.old⟩
      · exact S4.N p hp
    obtain ⟨S5, X5, r5⟩ := S4.newOwn (tk := s2.toks + vl.length) (x := .sdict l) O3 S4.F N5 (.sdict (.head _) hd' hsys ((g2.kp K3).kp ((Ext.owned O3).kp S4.H)))
    exact hQ _ _ rfl _ _ _ _ S5 (X3.trans S.H X5) r5 (Same.trans ⟨rfl, rfl⟩ (Same.trans G2 ⟨rfl, rfl⟩))
theorem SoundS.assignT (hc : c.Ok G) (hp : c.comp = none) (hq : q = true) {es : List Expr} {xs : List Str} {n : Nat} {tp : Pos} {e : Expr} {me : Loc → M V} (hn : namesOf es = some xs) (hnc : noComp e = true) (ht : notTup e = true) (h1 : ∀ ρ, Sound G c k q CL ρ relV (eval e c.env) (me ρ)) :
    SoundS G c k q CL (exec (.Assign [.Tuple es n tp] e pos) c.env) (fun ρ => M.bind (me ρ) fun y => M.bind (noErr (unpackM c.cs CL xs y ρ)) fun ρ' => M.pure (.next, ρ')) := by
  intro ρ st r e1 A s m news al Q E hA S hE hQ
  have hsw : swappedStores [.Tuple es n tp] e c.env = pure none := by
    unfold swappedStores
    cases e <;> first | rfl | exact noB ht
  refine Assign_Tuple ((h1 ρ).goS e1 hA S hE fun y st1 e2 v s1 n1 a1 S1 X1 R1 G1 => noErr_go e2 fun ρ' st2 e3 e4 => ?_) (swapsS_no hnc) hsw
  exact SoundA.tup hc hp hq hn ρ st1 y ρ' st2 e3 A s1 m n1 a1 v _ _ hA S1 R1 fun s2 m2 n2 a2 S2 X2 G2 => hQ _ _ _ (sInj e4).symm _ s2 m2 n2 a2 S2 (X1.trans S.H X2) .next (G1.trans G2)
theorem storesB_sound (hc : c.Ok G) (hp : c.comp = none) {xs : List Str} : ∀ {vs : List Value} {ys : List V} {ρ : Loc} {m : Str → Option Value} {s : Shared} {news : Led} {st : Sto} {ρ' : Loc} {Q : Unit → Shared → Prop},
    St G c CL ρ m s news al st → VRs (G.K c.w.params) news al vs ys → storesM c.cs CL xs ys ρ st = some (.ok ρ', st') →
    (∀ s' m' news', St G c CL ρ' m' s' news' al st' → Ext news al news' al → Same s s' → Q () s') → wpAny (model G.prog c.w) A (assignInOrder (xs.map fun n => bindName c.env n) vs) Q E s := by
  induction xs with
  | nil =>
    intro vs ys ρ m s news st ρ' Q S h e1 hQ
    cases ys with
    | nil =>
      obtain ⟨z1, z2⟩ := Prod.mk.inj (sInj e1)
      rw [show vs = [] from h.inv]
      exact wpAny_pure (hQ s m news (z2 ▸ Except.ok.inj z1 ▸ S) Ext.refl .refl)
    | cons _ _ => exact noS e1
  | cons x xs ih =>
    intro vs ys ρ m s news st ρ' Q S h e1 hQ
    cases ys with
    | nil => exact noS e1
    | cons y ys =>
      obtain ⟨v, ws, e4, h1, h2⟩ := h.inv
      rw [e4]
      refine store_go (g := fun ρ' => storesM c.cs CL xs ys ρ') e1 fun ρ1 st1 e3 e4 => ?_
      show wpAny _ _ (do holding _ (bindName c.env x _); assignInOrder (xs.map fun n => bindName c.env n) _) _ _ _
      refine wpAny_bind (wpAny_holding (bindName_ (storeM_sound hc hp S h1 e3 fun s2 m2 n2 S2 X2 G2 => ?_)))
      exact ih S2 (h2.ext S.H X2) e4 fun s3 m3 n3 S3 X3 G3 => hQ s3 m3 n3 S3 (X2.trans S.H X3) (G2.trans G3)
theorem SoundS.assignW (hc : c.Ok G) (hp : c.comp = none) (hq : q = true) {ts vs : List Expr} {n n' : Nat} {tp vp : Pos} {me : Loc → M V} (hw : swapT c.cs ts vs = true) (h1 : ∀ ρ, Sound G c k q CL ρ relV (eval (.Tuple vs n' vp) c.env) (me ρ)) :
    SoundS G c k q CL (exec (.Assign [.Tuple ts n tp] (.Tuple vs n' vp) pos) c.env) (fun ρ => M.bind (me ρ) fun y st => y.tup?.bind fun l => if l.length = (swapNames c.cs ts).length then M.bind (storesM c.cs CL (swapNames c.cs ts).reverse l.reverse ρ) (fun ρ' => M.pure (.next, ρ')) st else none) := by
  intro ρ st r e1 A s m news al Q E hA S hE hQ
  have hen : c.env = c.fenv := by unfold Act.env; rw [hp]
  unfold swapT at hw
  simp only [Bool.and_eq_true, Bool.not_eq_true'] at hw
  obtain ⟨⟨⟨⟨⟨⟨w1, w2⟩, w3⟩, w4⟩, w5⟩, w6⟩, w7⟩ := hw
  have hb : c.env.blockKind = .function := by
    rw [hen]
    unfold Env.blockKind
    have : c.fenv.scope.kind = .function := hc.hk
    rw [this]; rfl
  have hsw : swappedStores [.Tuple ts n tp] (.Tuple vs n' vp) c.env = pure (some (swapNames c.cs ts)) := by
    unfold swappedStores
    simp only [w1, hb, Bool.not_true, Bool.false_or]
    have w2' : (vs.length != ts.length) = false := by unfold bne; rw [w2]; rfl
    simp only [w2', bne_self_eq_false, Bool.false_or, Bool.false_eq_true, if_false]
    generalize hB : List.any vs _ = B
    have hB' : B = false := by rw [← hB]; exact w3
    subst hB'
    simp only [Bool.false_eq_true, if_false]
    generalize hg : List.filterMap _ ts = N
    have hN : N = swapNames c.cs ts := by rw [← hg, hen]; rfl
    subst hN
    have w4' : ((swapNames c.cs ts).length != ts.length) = false := by unfold bne; rw [w4]; rfl
    have w5' : ((swapNames c.cs ts).eraseDups.length != (swapNames c.cs ts).length) = false := by unfold bne; rw [w5]; rfl
    rw [w4', w5', w6, w7]
    simp only [Bool.or_false, Bool.false_eq_true, if_false]
  refine Assign_Tuple_swapped ((h1 ρ).goS e1 hA S hE fun y st1 e2 v s1 n1 a1 S1 X1 R1 G1 => bindE e2 fun l e3 e2 => iteS e2 fun hl e2 => ?_) rfl hsw
  obtain ⟨a, e0, R1⟩ := R1.vtup e3
  rw [e0]
  obtain ⟨us, t1, r1⟩ := S1.tup hc R1
  refine M.elim e2 (fun ρ' st2 e3 e4 => ?_) fun C st2 e3 _ => by
    obtain ⟨_, _, e5⟩ := storesM_ok e3
    exact noR e5.symm
  refine unpackItemsN_ S1.F S1.N t1 (hA.hd hq) (hl.symm.trans r1.length.symm) fun h' F N => ?_
  exact storesB_sound hc hp (s := { s1 with heap := h' }) (S1.ext Ext.refl F N S1.H) r1.reverse e3 fun s3 m3 n3 S3 X3 G3 => hQ _ _ _ (sInj e4).symm _ s3 m3 n3 a1 S3 (X1.trans S.H X3) .next (G1.trans (Same.trans ⟨rfl, rfl⟩ G3))
end
structure Ev where
  val : Bool → Scope → List (Str × Nat) → Loc → Expr → M V
  tst : Bool → Scope → List (Str × Nat) → Loc → Expr → M Bool
def turns : Nat := 5000
inductive Cmd where
  | const (x : Const)
  | name (x : Str)
  | bin (l : Expr) (op : Operator) (x : Expr)
  | un (op : UnaryOp) (x : Expr)
  | cmp (l : Expr) (op : CmpOp) (x : Expr)
  | and_ (x : Expr) (xs : List Expr)
  | or_ (x : Expr) (xs : List Expr)
  | ite (c a b : Expr)
  | tup (es : List Expr)
  | list (es : List Expr)
  | attr (o : Expr) (x : Str)
  | slice (o : Expr) (lo hi st : Option Expr)
  | sub (o i : Expr)
  | meth (o : Expr) (x : Str) (es : List Expr)
  | call (f : Expr) (es : List Expr)
  | dict0
  | dict (k : Option Expr) (ks : List (Option Expr)) (vs : List Expr)
  | lam (params : Arguments) (body : Expr) (sc : Scope)
  | comp (elt : Expr) (x : Str) (iter : Expr) (ifs : List Expr) (csc : Scope)
  | no
inductive Form (q inC : Bool) : Expr → Cmd → Prop where
  | const {x n p} : Form q inC (.Constant x n p) (.const x)
  | name {x p} : Form q inC (.Name x p) (.name x)
  | bin {l op x p} : Form q inC (.BinOp l op x p) (.bin l op x)
  | un {op x p} : Form q inC (.UnaryOp op x p) (.un op x)
  | cmp {l op x p} (h : behindInMarks op x = false) : Form q inC (.Compare l [op] [x] p) (.cmp l op x)
  | and_ {x xs p} : Form q inC (.BoolOp .And (x :: xs) p) (.and_ x xs)
  | or_ {x xs p} : Form q inC (.BoolOp .Or (x :: xs) p) (.or_ x xs)
  | ite {c a b p} : Form q inC (.IfExp c a b p) (.ite c a b)
  | tup {es n p} (h : es.all noStar = true) : Form q inC (.Tuple es n p) (.tup es)
  | list {es p} (h : es.all noStar = true) : Form q inC (.List es p) (.list es)
  | attr {o x p} (h : okBase o = true) : Form q inC (.Attribute o x p) (.attr o x)
  | slice {o lo hi st p p'} : Form q inC (.Subscript o (.Slice lo hi st p) p') (.slice o lo hi st)
  | sub {o i p} (h : plainIdx i = true) : Form q inC (.Subscript o i p) (.sub o i)
  | meth {o x ap es pos} (h : okBase o = true) (h1 : (ap.endLine == pos.line) = true) (h2 : es.length < 30) (h3 : es.all noStar = true) : Form q inC (.Call (.Attribute o x ap) es [] pos) (.meth o x es)
  | call {f es pos} (h : okFunc f = true) (h3 : es.all noStar = true) : Form q inC (.Call f es [] pos) (.call f es)
  | dict0 {p} : Form q inC (.Dict [] [] p) .dict0
  | dict {k ks vs p} (h : (k :: ks).all (·.isSome) = true) (h1 : (k :: ks).length = vs.length) (h2 : (k :: ks).length ≤ 15) : Form q inC (.Dict (k :: ks) vs p) (.dict k ks vs)
  | lam {params body sc p} : Form q inC (.Lambda params body sc p) (.lam params body sc)
  | comp {elt x px iter ifs csc p} (h : inC = false) (h1 : q = true) (h2 : compOk csc x = true) (h3 : noSet iter = true) : Form q inC (.ListComp elt [⟨.Name x px, iter, ifs, 0⟩] csc p) (.comp elt x iter ifs csc)
  | no {e} : Form q inC e .no
def orNo (b : Bool) (c : Cmd) : Cmd := match b with
  | true => c
  | false => .no
def planCmp (l : Expr) : List CmpOp → List Expr → Cmd
  | [op], [x] => orNo (!behindInMarks op x) (.cmp l op x)
  | _, _ => .no
def planBool : BoolOp → List Expr → Cmd
  | .And, x :: xs => .and_ x xs
  | .Or, x :: xs => .or_ x xs
  | _, _ => .no
def planSub (o : Expr) : Expr → Cmd
  | .Slice lo hi st _ => .slice o lo hi st
  | i => orNo (plainIdx i) (.sub o i)
noncomputable def planCall (es : List Expr) (pos : Pos) : Expr → Cmd
  | .Attribute o x ap => orNo (okBase o && (ap.endLine == pos.line) && decide (es.length < 30) && es.all noStar) (.meth o x es)
  | f => orNo (okFunc f && es.all noStar) (.call f es)
noncomputable def planDict : List (Option Expr) → List Expr → Cmd
  | [], [] => .dict0
  | k :: ks, vs => orNo ((k :: ks).all (·.isSome) && ((k :: ks).length == vs.length) && decide ((k :: ks).length ≤ 15)) (.dict k ks vs)
  | _, _ => .no
noncomputable def planG (b : Bool) (elt : Expr) (csc : Scope) (g : Comprehension) : Cmd := match nameOf g.target with
  | some x => orNo (b && compOk csc x && noSet g.iter && (g.is_async == 0)) (.comp elt x g.iter g.ifs csc)
  | none => .no
def planComp (b : Bool) (elt : Expr) (csc : Scope) : List Comprehension → Cmd
  | [] => .no
  | g :: r => match r with
    | [] => planG b elt csc g
    | _ :: _ => .no
noncomputable def planE (q inC : Bool) : Expr → Cmd
  | .Constant x _ _ => .const x
  | .Name x _ => .name x
  | .BinOp l op x _ => .bin l op x
  | .UnaryOp op x _ => .un op x
  | .Compare l ops xs _ => planCmp l ops xs
  | .BoolOp k xs _ => planBool k xs
  | .IfExp c a b _ => .ite c a b
  | .Tuple es _ _ => orNo (es.all noStar) (.tup es)
  | .List es _ => orNo (es.all noStar) (.list es)
  | .Attribute o x _ => orNo (okBase o) (.attr o x)
  | .Subscript o i _ => planSub o i
  | .Call f es [] pos => planCall es pos f
  | .Dict ks vs _ => planDict ks vs
  | .Lambda params body lsc _ => .lam params body lsc
  | .ListComp elt cs csc _ => planComp (!inC && q) elt csc cs
  | _ => .no
theorem Form.orNo {q inC b : Bool} {e : Expr} {c : Cmd} (h : b = true → Form q inC e c) : Form q inC e (orNo b c) := by
  cases b
  · exact .no
  · exact h rfl
theorem planE_ok (q inC : Bool) (e : Expr) : Form q inC e (planE q inC e) := by
  cases e with
  | Compare l ops xs p =>
    cases ops with
    | nil => exact .no
    | cons op ops => cases ops with
      | cons _ _ => exact .no
      | nil => cases xs with
        | nil => exact .no
        | cons x xs => cases xs with
          | cons _ _ => exact .no
          | nil => exact .orNo fun h => .cmp (Bool.not_eq_true' _ ▸ h)
  | BoolOp k xs p => cases k <;> cases xs <;> first | exact .and_ | exact .or_ | exact .no
  | Tuple es n p => exact .orNo fun h => .tup h
  | List es p => exact .orNo fun h => .list h
  | Attribute o x p => exact .orNo fun h => .attr h
  | Subscript o i p => cases i <;> first | exact .slice | exact .orNo fun h => .sub h
  | Call f es ks pos =>
    cases ks with
    | nil =>
      have H : ∀ f, Form q inC (.Call f es [] pos) (orNo (okFunc f && es.all noStar) (.call f es)) := fun f => .orNo fun h => .call (Bool.and_eq_true _ _ ▸ h).1 (Bool.and_eq_true _ _ ▸ h).2
      cases f with
      | Attribute o x ap =>
        exact .orNo fun h => by
          rw [Bool.and_eq_true, Bool.and_eq_true, Bool.and_eq_true, decide_eq_true_iff] at h
          exact .meth h.1.1.1 h.1.1.2 h.1.2 h.2
      | _ => exact H _
    | cons _ _ => exact .no
  | Dict ks vs p =>
    cases ks with
    | nil => cases vs with
      | nil => exact .dict0
      | cons _ _ => exact .no
    | cons k ks =>
      exact .orNo fun h => by
        rw [Bool.and_eq_true, Bool.and_eq_true, decide_eq_true_iff] at h
        exact .dict h.1.1 (beq_iff_eq.mp h.1.2) h.2
  | ListComp elt cs csc p =>
    cases cs with
    | nil => exact .no
    | cons g cs => cases cs with
      | cons _ _ => exact .no
      | nil =>
        obtain ⟨t, iter, ifs, as⟩ := g
        show Form q inC _ (planG (!inC && q) elt csc ⟨t, iter, ifs, as⟩)
        unfold planG
        dsimp only
        cases ht : nameOf t with
        | none => exact .no
        | some x =>
          obtain ⟨px, h3⟩ := nameOf_of ht
          refine .orNo fun h => ?_
          rw [Bool.and_eq_true, Bool.and_eq_true, Bool.and_eq_true, Bool.and_eq_true, Bool.not_eq_true'] at h
          rw [h3, eq_of_beq h.2]
          exact .comp h.1.1.1.1 h.1.1.1.2 h.1.1.2 h.1.2
  | _ => first | exact .const | exact .name | exact .bin | exact .un | exact .ite | exact .lam | exact .no
def valS (G : Pg) (cf : Bool → V → List V → M V) (fn : Fn) (q : Bool) (r : Ev) (inC : Bool) (sc : Scope) (CL : List (Str × Nat)) (ρ : Loc) : Cmd → M V :=
  let v := r.val inC sc CL ρ
  let t := r.tst inC sc CL ρ
  fun
  | .const x => ofOpt (constV x)
  | .name x => nameM G sc CL ρ x
  | .bin l op x => M.bind (v l) fun a => M.bind (v x) fun b => binM op a b
  | .un op x => M.bind (v x) fun a => still fun st => unV op a st
  | .cmp l op x => M.bind (v l) fun a => M.bind (v x) fun b => still fun st => (cmpX op a b st).map V.bool
  | .and_ x xs => andV v x xs
  | .or_ x xs => orV v x xs
  | .ite c a b => M.bind (t c) fun x => iteM x (v a) (v b)
  | .tup es => M.bind (evList v es) fun l => still fun _ => if l.length ≤ sizeLine then some (.tup l) else none
  | .list es => M.bind (evList v es) fun l st => if l.length ≤ sizeLine then newO (.list l) st else none
  | .attr o x => M.bind (v o) fun a => still fun st => attrM G x a st
  | .slice o lo hi st => M.bind (v o) fun a => M.bind (partE v lo) fun x => M.bind (partE v hi) fun y => M.bind (partE v st) fun z => sliceM a x y z
  | .sub o i => M.bind (v o) fun a => M.bind (v i) fun b => still fun st => getItV a b st
  | .meth o x es => M.bind (v o) fun y => M.bind (still fun st => methM G x y st) fun p => callM G (cf q) p.1 p.2 (evList v es)
  | .call f es => M.bind (v f) fun g => callM G (cf q) g [] (evList v es)
  | .dict0 => newO (.sdict [])
  | .dict k ks vs => M.bind (pairsM v (k :: ks) vs) fun l st => if (l.map (·.1)).Nodup then newO (.sdict l) st else none
  | .lam params body lsc => lamM fn.tab CL params body lsc (fn.qual ++ ".<locals>." ++ "<lambda>")
  | .comp elt x iter ifs csc => match clos CL csc.names [] with
    | some CL' => M.bind (v iter) fun y => M.bind (still fun st => itOf y st) fun it => M.bind (compM x (fun ρ' => testsM (r.tst true csc CL' ρ') ifs) (fun ρ' => r.val true csc CL' ρ' elt) it turns 0 []) fun l => newO (.list l)
    | none => stop
  | .no => stop
inductive Tmd where
  | not_ (x : Expr)
  | and_ (xs : List Expr)
  | or_ (xs : List Expr)
  | ite (c a b : Expr)
  | cmp (l : Expr) (op : CmpOp) (x : Expr)
  | ne0 (l : Expr)
  | plain (e : Expr)
  | no
inductive TForm : Expr → Tmd → Prop where
  | not_ {x p} : TForm (.UnaryOp .Not x p) (.not_ x)
  | and_ {xs p} : TForm (.BoolOp .And xs p) (.and_ xs)
  | or_ {xs p} : TForm (.BoolOp .Or xs p) (.or_ xs)
  | ite {c a b p} : TForm (.IfExp c a b p) (.ite c a b)
  | cmp {l op x p} (h : behindInMarks op x = false) : TForm (.Compare l [op] [x] p) (.cmp l op x)
  | ne0 {l p p'} (h : behindInMarks .NotEq (.List [] p') = false) : TForm (.Compare l [.NotEq] [.List [] p'] p) (.ne0 l)
  | name {x p} : TForm (.Name x p) (.plain (.Name x p))
  | call {f es k p} : TForm (.Call f es k p) (.plain (.Call f es k p))
  | attr {o x p} : TForm (.Attribute o x p) (.plain (.Attribute o x p))
  | sub {o i p} : TForm (.Subscript o i p) (.plain (.Subscript o i p))
  | const {x n p} : TForm (.Constant x n p) (.plain (.Constant x n p))
  | no {e} : TForm e .no
def planTC1 (l : Expr) (op : CmpOp) (x : Expr) : Tmd := match op, x with
  | .NotEq, .List [] _ => .ne0 l
  | op, x => .cmp l op x
def planTCmp (l : Expr) : List CmpOp → List Expr → Tmd
  | [op], [x] => match behindInMarks op x with
    | false => planTC1 l op x
    | true => .no
  | _, _ => .no
noncomputable def planT : Expr → Tmd
  | .UnaryOp op x _ => match op with
    | .Not => .not_ x
    | _ => .no
  | .BoolOp k xs _ => match k with
    | .And => .and_ xs
    | .Or => .or_ xs
  | .IfExp c a b _ => .ite c a b
  | .Compare l ops xs _ => planTCmp l ops xs
  | .Name x p => .plain (.Name x p)
  | .Call f es k p => .plain (.Call f es k p)
  | .Attribute o x p => .plain (.Attribute o x p)
  | .Subscript o i p => .plain (.Subscript o i p)
  | .Constant x n p => .plain (.Constant x n p)
  | _ => .no
theorem planT_ok (e : Expr) : TForm e (planT e) := by
  cases e with
  | UnaryOp op x p => cases op <;> first | exact .not_ | exact .no
  | BoolOp k xs p => cases k <;> first | exact .and_ | exact .or_
  | Compare l ops xs p =>
    cases ops with
    | nil => exact .no
    | cons op ops => cases ops with
      | cons _ _ => exact .no
      | nil => cases xs with
        | nil => exact .no
        | cons x xs => cases xs with
          | cons _ _ => exact .no
          | nil =>
            show TForm _ (match behindInMarks op x with
              | false => planTC1 l op x
              | true => .no)
            cases hb : behindInMarks op x with
            | true => exact .no
            | false =>
              show TForm _ (planTC1 l op x)
              cases op with
              | NotEq => cases x with
                | List es p' => cases es with
                  | nil => exact .ne0 hb
                  | cons _ _ => exact .cmp hb
                | _ => exact .cmp hb
              | _ => exact .cmp hb
  | _ => first | exact .name | exact .call | exact .attr | exact .sub | exact .const | exact .ite | exact .no
def tstS (r : Ev) (inC : Bool) (sc : Scope) (CL : List (Str × Nat)) (ρ : Loc) : Tmd → M Bool :=
  let v := r.val inC sc CL ρ
  let t := r.tst inC sc CL ρ
  fun
  | .not_ x => M.bind (t x) fun b => M.pure (!b)
  | .and_ xs => allT t xs
  | .or_ xs => anyT t xs
  | .ite c a b => M.bind (t c) fun x => iteM x (t a) (t b)
  | .cmp l op x => M.bind (v l) fun a => M.bind (v x) fun b => still fun st => cmpX op a b st
  | .ne0 l => M.bind (v l) fun a => still fun st => ne0V a st
  | .plain e => M.bind (v e) fun a => still fun st => truthV a st
  | .no => stop
def evS (G : Pg) (cf : Bool → V → List V → M V) (fn : Fn) (q : Bool) : Nat → Ev
  | 0 => ⟨fun _ _ _ _ _ => stop, fun _ _ _ _ _ => stop⟩
  | d + 1 => ⟨fun inC sc CL ρ e => valS G cf fn q (evS G cf fn q d) inC sc CL ρ (planE q inC e), fun inC sc CL ρ e => tstS (evS G cf fn q d) inC sc CL ρ (planT e)⟩
structure CtxOk (G : Pg) (fn : Fn) (c : Act) (inC : Bool) (sc : Scope) : Prop where
  ok : c.Ok G
  tab : ∀ ti, fn.tab = some ti → ∃ cc P, c.ccd = .ref cc ∧ G.tabs[ti]? = some (cc, P)
  cn : c.cn = fn.qual
  names : ∀ CL ρ x, nameM G c.nsc CL ρ x = nameM G sc CL ρ x
  comp : inC = false → c.comp = none
def EvOk (G : Pg) (k : Nat) (fn : Fn) (q : Bool) (r : Ev) : Prop :=
  ∀ (c : Act) (inC : Bool) (sc : Scope) (CL : List (Str × Nat)) (ρ : Loc), CtxOk G fn c inC sc → ∀ e, Sound G c k q CL ρ relV (eval e c.env) (r.val inC sc CL ρ e) ∧ Sound G c k q CL ρ relB (isTrue e c.env (eval e c.env)) (r.tst inC sc CL ρ e)
noncomputable def relF (env : Env) (p : Str × NameKind) : Str × NameKind := if (p.2 == NameKind.free && env.scope.kind == .function && env.kindOf p.1 == some .cell) then (p.1, .cell) else (p.1, p.2)
theorem relF_fst (env : Env) (p : Str × NameKind) : (relF env p).1 = p.1 := by unfold relF; split <;> rfl
theorem relF_snd (env : Env) (p : Str × NameKind) : (relF env p).2 = p.2 ∨ (p.2 = .free ∧ (relF env p).2 = .cell) := by
  unfold relF
  split
  · rename_i hb
    rw [Bool.and_eq_true, Bool.and_eq_true] at hb
    exact .inr ⟨beq_iff_eq.mp hb.1.1, rfl⟩
  · exact .inl rfl
theorem relabel_name {G : Pg} {sc : Scope} {env : Env} {CL : List (Str × Nat)} {ρ : Loc} {x : Str} : nameM G (relabel sc env) CL ρ x = nameM G sc CL ρ x := by
  have key : ∀ (l : List (Str × NameKind)), ((l.map (relF env)).lookup x = l.lookup x) ∨ (l.lookup x = some .free ∧ (l.map (relF env)).lookup x = some .cell) := by
    intro l
    induction l with
    | nil => exact .inl rfl
    | cons p r ih =>
      rw [List.map_cons]
      obtain ⟨n, kd⟩ := p
      have h1 := relF_fst env (n, kd)
      have h2 := relF_snd env (n, kd)
      generalize relF env (n, kd) = p at h1 h2 ⊢
      obtain ⟨n', kd'⟩ := p
      simp only at h1 h2
      subst h1
      simp only [List.lookup_cons]
      cases hx : x == n' with
      | true =>
        rcases h2 with rfl | ⟨rfl, rfl⟩
        · exact .inl rfl
        · exact .inr ⟨rfl, rfl⟩
      | false => exact ih
  funext st
  unfold nameM
  have h : (relabel sc env).names = sc.names.map (relF env) := rfl
  rw [h]
  rcases key sc.names with e | ⟨e1, e2⟩
  · rw [e]
  · rw [e1, e2]; rfl
section
variable {G : Pg} {k : Nat} {fn : Fn} {q : Bool} {cf : Bool → V → List V → M V} {r : Ev}
theorem CtxOk.inComp {c : Act} {sc csc : Scope} {C : Addr} {cl : List (Str × Addr)} (X : CtxOk G fn c false sc) (hk : csc.kind = .function) : CtxOk G fn (c.inComp C csc cl) true csc :=
  ⟨inComp_ok X.ok hk, X.tab, X.cn, fun _ _ _ => relabel_name, fun e => by cases e⟩
theorem evS_ok (hG : G.Ok) (hcf : CallOk G k cf) : ∀ d, EvOk G k fn q (evS G cf fn q d) := by
  intro d
  induction d with
  | zero => exact fun c inC sc CL ρ X e => ⟨.stop_, .stop_⟩
  | succ d ih =>
    intro c inC sc CL ρ X e
    have hv := fun e => (ih c inC sc CL ρ X e).1
    have ht := fun e => (ih c inC sc CL ρ X e).2
    have hc := X.ok
    refine ⟨?_, ?_⟩
    · show Sound G c k q CL ρ relV _ (valS G cf fn q (evS G cf fn q d) inC sc CL ρ (planE q inC e))
      have hF := planE_ok q inC e
      generalize planE q inC e = p at hF ⊢
      cases hF with
      | const => exact .const
      | name => show Sound G c k q CL ρ relV _ (nameM G sc CL ρ _); rw [← X.names]; exact .name hG hc
      | bin => exact .binop2 hc (hv _) (hv _)
      | un => exact .unop hc (hv _)
      | cmp h => exact .cmp hc h (hv _) (hv _)
      | and_ => exact .andE hc fun y _ => hv y
      | or_ => exact .orE hc fun y _ => hv y
      | ite => exact .ifE (ht _) (hv _) (hv _)
      | tup h => exact .tup h fun e _ => hv e
      | list h => exact .lst h fun e _ => hv e
      | attr h => exact .attr hG hc h (hv _)
      | slice => exact .slice hc (hv _) (fun e _ => hv e) (fun e _ => hv e) fun e _ => hv e
      | sub h => exact .sub hc h (hv _) (hv _)
      | meth h h1 h2 h3 => exact .meth hG hc hcf h h1 h2 h3 (hv _) fun e _ => hv e
      | call h h3 => exact .call hG hc hcf h h3 (hv _) fun e _ => hv e
      | dict0 => exact .dict0 hc
      | dict h h1 h2 => exact .dict hc h h1 (by simp) h2 (fun e _ => hv e) fun e _ => hv e
      | lam => exact .lambda hc X.tab X.cn
      | comp h h1 h2 h3 =>
        subst h
        unfold valS
        dsimp only
        split
        · rename_i hCL
          have hkind := (compOk_of h2).1
          exact .listComp hc (X.comp rfl) h1 h2 h3 hCL (hv _) (fun C cl ρ' => tests_sound fun x _ => (ih _ true _ _ ρ' (X.inComp hkind) x).2) fun C cl ρ' => (ih _ true _ _ ρ' (X.inComp hkind) _).1
        · exact .stop_
      | no => exact .stop_
    · show Sound G c k q CL ρ relB _ (tstS (evS G cf fn q d) inC sc CL ρ (planT e))
      have hF := planT_ok e
      generalize planT e = p at hF ⊢
      cases hF with
      | not_ => exact .notT (ht _)
      | and_ => exact .andT fun x _ => ht x
      | or_ => exact .orT fun x _ => ht x
      | ite => exact .ifT (ht _) (ht _) (ht _)
      | cmp h => exact .cmpT hc h (hv _) (hv _)
      | ne0 h => exact .ne0T hc h (hv _)
      | name => exact .plainT hc rfl (hv _)
      | call => exact .plainT hc rfl (hv _)
      | attr => exact .plainT hc rfl (hv _)
      | sub => exact .plainT hc rfl (hv _)
      | const => exact .plainT hc rfl (hv _)
      | no => exact .stop_
end
def tryM (mb mo : Loc → M (Fl × Loc)) (ρ : Loc) : M (Fl × Loc) := M.bind (noErr (mb ρ)) fun p => match p.1 with
  | .next => mo p.2
  | fl => M.pure (fl, p.2)
theorem SoundS.try {G : Pg} {c : Act} {k : Nat} {q : Bool} {CL : List (Str × Nat)} {b o : List Stmt} {h : ExceptHandler} {hs : List ExceptHandler} {pos : Pos} {mb mo : Loc → M (Fl × Loc)} (hb : SoundS G c k q CL (execs b c.env) mb) (ho : SoundS G c k q CL (execs o c.env) mo) :
    SoundS G c k q CL (exec (.Try b (h :: hs) o [] pos) c.env) (tryM mb mo) := by
  intro ρ st r e1 A s m news al Q E hA S hE hQ
  refine wpAny_Try_except (noErr_go e1 fun p st1 e2 e3 => hb.ok e2 hA S fun f s2 m2 n2 a2 S2 X2 R2 G2 => ?_)
  obtain ⟨fl, ρ1⟩ := p
  cases R2 with
  | next => exact ho ρ1 st1 r e3 A s2 m2 n2 a2 Q E hA S2 (hE.step S X2 G2) fun fl ρ3 st3 z f s3 m3 n3 a3 S3 X3 R3 G3 => hQ fl ρ3 st3 z f s3 m3 n3 a3 S3 (X2.trans S.H X3) R3 (G2.trans G3)
  | brk => exact hQ _ _ _ (sInj e3).symm _ s2 m2 n2 a2 S2 X2 .brk G2
  | cont => exact hQ _ _ _ (sInj e3).symm _ s2 m2 n2 a2 S2 X2 .cont G2
  | ret hv => exact hQ _ _ _ (sInj e3).symm _ s2 m2 n2 a2 S2 X2 (.ret hv) G2
inductive Smd where
  | expr (e : Expr)
  | ret (e : Expr)
  | ret0
  | pass
  | ite (c : Expr) (b o : List Stmt)
  | asC (x : Str) (elt : Expr) (z : Str) (iter : Expr) (ifs : List Expr) (csc : Scope)
  | asN (x : Str) (e : Expr)
  | asA (o : Expr) (x : Str) (e : Expr)
  | asS (o i e : Expr)
  | asW (xs : List Str) (e : Expr)
  | asT (xs : List Str) (e : Expr)
  | try_ (b o : List Stmt)
  | while_ (c : Expr) (b : List Stmt)
  | forN (x : Str) (it : Expr) (b : List Stmt)
  | forT (xs : List Str) (it : Expr) (b : List Stmt)
  | no
inductive SForm (fn : Fn) (q : Bool) : Stmt → Smd → Prop where
  | expr {e p} (h : noComp e = true) : SForm fn q (.Expr e p) (.expr e)
  | ret {e p} : SForm fn q (.Return (some e) p) (.ret e)
  | ret0 {p} : SForm fn q (.Return none p) .ret0
  | pass {p} : SForm fn q (.Pass p) .pass
  | ite {c b o p} : SForm fn q (.If c b o p) (.ite c b o)
  | asC {x px elt z pz iter ifs csc cpos p} (h : q = true) (h1 : compOk csc z = true) (h2 : noSet iter = true) (h3 : swapC csc fn.sc x px cpos = true) : SForm fn q (.Assign [.Name x px] (.ListComp elt [⟨.Name z pz, iter, ifs, 0⟩] csc cpos) p) (.asC x elt z iter ifs csc)
  | asN {x px e p} (h : noComp e = true) : SForm fn q (.Assign [.Name x px] e p) (.asN x e)
  | asA {o x px e p} : SForm fn q (.Assign [.Attribute o x px] e p) (.asA o x e)
  | asS {o i px e p} : SForm fn q (.Assign [.Subscript o i px] e p) (.asS o i e)
  | asW {ts n px vs m vp p} (h : q = true) (h1 : swapT fn.sc ts vs = true) : SForm fn q (.Assign [.Tuple ts n px] (.Tuple vs m vp) p) (.asW (swapNames fn.sc ts) (.Tuple vs m vp))
  | asT {ts n px e p xs} (h : q = true) (h1 : noComp e = true) (h2 : notTup e = true) (h3 : namesOf ts = some xs) : SForm fn q (.Assign [.Tuple ts n px] e p) (.asT xs e)
  | try_ {b h hs o p} : SForm fn q (.Try b (h :: hs) o [] p) (.try_ b o)
  | while_ {c b p} : SForm fn q (.While c b [] p) (.while_ c b)
  | forN {x px it b p} (h : q = true) (h1 : noSet it = true) : SForm fn q (.For (.Name x px) it b [] p) (.forN x it b)
  | forT {ts n px it b p xs} (h : q = true) (h1 : noSet it = true) (h3 : namesOf ts = some xs) : SForm fn q (.For (.Tuple ts n px) it b [] p) (.forT xs it b)
  | no {s} : SForm fn q s .no
def orNoS (b : Bool) (c : Smd) : Smd := match b with
  | true => c
  | false => .no
theorem SForm.orNo {fn : Fn} {q b : Bool} {e : Stmt} {c : Smd} (h : b = true → SForm fn q e c) : SForm fn q e (orNoS b c) := by
  cases b
  · exact .no
  · exact h rfl
noncomputable def planAG (fn : Fn) (q : Bool) (x : Str) (px : Pos) (elt : Expr) (csc : Scope) (cpos : Pos) (g : Comprehension) : Smd := match nameOf g.target with
  | some z => orNoS (q && compOk csc z && noSet g.iter && swapC csc fn.sc x px cpos && (g.is_async == 0)) (.asC x elt z g.iter g.ifs csc)
  | none => .no
def planAC (fn : Fn) (q : Bool) (x : Str) (px : Pos) (elt : Expr) (csc : Scope) (cpos : Pos) : List Comprehension → Smd
  | [] => .no
  | g :: r => match r with
    | [] => planAG fn q x px elt csc cpos g
    | _ :: _ => .no
def planAN (fn : Fn) (q : Bool) (x : Str) (px : Pos) (e : Expr) : Smd := match e with
  | .ListComp elt cs csc cpos => planAC fn q x px elt csc cpos cs
  | e => orNoS (noComp e) (.asN x e)
noncomputable def planAT (fn : Fn) (q : Bool) (ts : List Expr) : Expr → Smd
  | .Tuple vs n vp => orNoS (q && swapT fn.sc ts vs) (.asW (swapNames fn.sc ts) (.Tuple vs n vp))
  | e => match namesOf ts with
    | some xs => orNoS (q && noComp e && notTup e) (.asT xs e)
    | none => .no
def planA (fn : Fn) (q : Bool) (e : Expr) : Expr → Smd
  | .Name x px => planAN fn q x px e
  | .Attribute o x _ => .asA o x e
  | .Subscript o i _ => .asS o i e
  | .Tuple ts _ _ => planAT fn q ts e
  | _ => .no
noncomputable def planF (q : Bool) (it : Expr) (b : List Stmt) : Expr → Smd
  | .Name x _ => orNoS (q && noSet it) (.forN x it b)
  | .Tuple ts _ _ => match namesOf ts with
    | some xs => orNoS (q && noSet it) (.forT xs it b)
    | none => .no
  | _ => .no
noncomputable def planS (fn : Fn) (q : Bool) : Stmt → Smd
  | .Expr e _ => orNoS (noComp e) (.expr e)
  | .Return o _ => match o with
    | some e => .ret e
    | none => .ret0
  | .Pass _ => .pass
  | .If c b o _ => .ite c b o
  | .Assign [t] e _ => planA fn q e t
  | .Try b (_ :: _) o [] _ => .try_ b o
  | .While c b [] _ => .while_ c b
  | .For t it b [] _ => planF q it b t
  | _ => .no
theorem planAN_ok (fn : Fn) (q : Bool) (x : Str) (px : Pos) (e : Expr) (p : Pos) : SForm fn q (.Assign [.Name x px] e p) (planAN fn q x px e) := by
  cases e with
  | ListComp elt cs csc cpos =>
    cases cs with
    | nil => exact .no
    | cons g cs => cases cs with
      | cons _ _ => exact .no
      | nil =>
        obtain ⟨t, iter, ifs, as⟩ := g
        show SForm fn q _ (planAG fn q x px elt csc cpos ⟨t, iter, ifs, as⟩)
        unfold planAG
        dsimp only
        cases ht : nameOf t with
        | none => exact .no
        | some z =>
          obtain ⟨pz, h3⟩ := nameOf_of ht
          refine .orNo fun h => ?_
          rw [Bool.and_eq_true, Bool.and_eq_true, Bool.and_eq_true, Bool.and_eq_true] at h
          rw [h3, eq_of_beq h.2]
          exact .asC h.1.1.1.1 h.1.1.1.2 h.1.1.2 h.1.2
  | _ => exact .orNo fun h => .asN h
theorem planAT_ok (fn : Fn) (q : Bool) (ts : List Expr) (n : Nat) (px : Pos) (e : Expr) (p : Pos) : SForm fn q (.Assign [.Tuple ts n px] e p) (planAT fn q ts e) := by
  have H : ∀ e, SForm fn q (.Assign [.Tuple ts n px] e p) (match namesOf ts with
    | some xs => orNoS (q && noComp e && notTup e) (.asT xs e)
    | none => .no) := fun e => by
    cases hx : namesOf ts with
    | none => exact .no
    | some xs =>
      exact .orNo fun h => by
        rw [Bool.and_eq_true, Bool.and_eq_true] at h
        exact .asT h.1.1 h.1.2 h.2 hx
  cases e with
  | Tuple vs m vp =>
    exact .orNo fun h => by
      rw [Bool.and_eq_true] at h
      exact .asW h.1 h.2
  | _ => exact H _
theorem planS_ok (fn : Fn) (q : Bool) (s : Stmt) : SForm fn q s (planS fn q s) := by
  cases s with
  | Expr e p => exact .orNo fun h => .expr h
  | Return o p => cases o <;> first | exact .ret | exact .ret0
  | Assign ts e p =>
    cases ts with
    | nil => exact .no
    | cons t ts => cases ts with
      | cons _ _ => exact .no
      | nil => cases t with
        | Name x px => exact planAN_ok fn q x px e p
        | Tuple ts n px => exact planAT_ok fn q ts n px e p
        | _ => first | exact .asA | exact .asS | exact .no
  | Try b hs o f p =>
    cases hs with
    | nil => exact .no
    | cons _ _ => cases f <;> first | exact .try_ | exact .no
  | While c b o p => cases o <;> first | exact .while_ | exact .no
  | For t it b o p =>
    cases o with
    | cons _ _ => exact .no
    | nil => cases t with
      | Name x px =>
        exact .orNo fun h => by
          rw [Bool.and_eq_true] at h
          exact .forN h.1 h.2
      | Tuple ts n px =>
        show SForm fn q _ (match namesOf ts with | some xs => orNoS (q && noSet it) (.forT xs it b) | none => .no)
        cases hx : namesOf ts with
        | none => exact .no
        | some xs =>
          exact .orNo fun h => by
            rw [Bool.and_eq_true] at h
            exact .forT h.1 h.2 hx
      | _ => exact .no
  | _ => first | exact .pass | exact .ite | exact .no
def smdS (G : Pg) (sc : Scope) (q : Bool) (E : Ev) (CL : List (Str × Nat)) (bd : List Stmt → Loc → M (Fl × Loc)) : Smd → Loc → M (Fl × Loc) :=
  let v := fun ρ e => E.val false sc CL ρ e
  let t := fun ρ e => E.tst false sc CL ρ e
  fun
  | .expr e => fun ρ => M.bind (v ρ e) fun _ => M.pure (.next, ρ)
  | .ret e => fun ρ => M.bind (v ρ e) fun y => M.pure (.ret y, ρ)
  | .ret0 => fun ρ => M.pure (.ret .none, ρ)
  | .pass => fun ρ => M.pure (.next, ρ)
  | .ite c b o => fun ρ => M.bind (t ρ c) fun x => iteM x (bd b ρ) (bd o ρ)
  | .asC x elt z iter ifs csc => match clos CL csc.names [] with
    | some CL' => fun ρ => M.bind (v ρ iter) fun y => M.bind (still fun st => itOf y st) fun it => M.bind (compM z (fun ρ' => testsM (E.tst true csc CL' ρ') ifs) (fun ρ' => E.val true csc CL' ρ' elt) it turns 0 []) fun l => M.bind (newO (.list l)) fun u => M.bind (storeM sc CL x u ρ) fun ρ' => M.pure (.next, ρ')
    | none => fun _ => stop
  | .asN x e => fun ρ => M.bind (v ρ e) fun y => M.bind (storeM sc CL x y ρ) fun ρ' => M.pure (.next, ρ')
  | .asA o x e => fun ρ => M.bind (v ρ e) fun u => M.bind (v ρ o) fun y => M.bind (setAttrM G x y u) fun _ => M.pure (.next, ρ)
  | .asS o i e => fun ρ => M.bind (v ρ e) fun u => M.bind (v ρ o) fun y => M.bind (v ρ i) fun j => fun st => (setItV y j u st).map fun st' => (.ok (.next, ρ), st')
  | .asW xs e => fun ρ => M.bind (v ρ e) fun y st => y.tup?.bind fun l => if l.length = xs.length then M.bind (storesM sc CL xs.reverse l.reverse ρ) (fun ρ' => M.pure (.next, ρ')) st else none
  | .asT xs e => fun ρ => M.bind (v ρ e) fun y => M.bind (noErr (unpackM sc CL xs y ρ)) fun ρ' => M.pure (.next, ρ')
  | .try_ b o => fun ρ => tryM (bd b) (bd o) ρ
  | .while_ c b => whileM (fun ρ => t ρ c) (bd b) turns
  | .forN x it b => fun ρ => M.bind (v ρ it) fun y => M.bind (still fun st => itOf y st) fun it => forM (fun y ρ => storeM sc CL x y ρ) (bd b) it turns 0 ρ
  | .forT xs it b => fun ρ => M.bind (v ρ it) fun y => M.bind (still fun st => itOf y st) fun it => forM (fun y ρ => unpackM sc CL xs y ρ) (bd b) it turns 0 ρ
  | .no => fun _ => stop
def stS (G : Pg) (fn : Fn) (q : Bool) (E : Ev) (CL : List (Str × Nat)) : Nat → Stmt → Loc → M (Fl × Loc)
  | 0 => fun _ _ => stop
  | d + 1 => fun s => smdS G fn.sc q E CL (seqM (stS G fn q E CL d)) (planS fn q s)
section
variable {G : Pg} {k : Nat} {fn : Fn} {q : Bool} {E : Ev}
theorem SoundS.stop {c : Act} {CL : List (Str × Nat)} {t : Sem Flow} : SoundS G c k q CL t (fun _ => Mine.stop) := fun ρ st r e => by exact noS e
theorem stS_ok (hG : G.Ok) (hE : EvOk G k fn q E) {c : Act} {CL : List (Str × Nat)} (hc : c.Ok G) (hf : InFn G c fn) : ∀ d s, SoundS G c k q CL (exec s c.env) (stS G fn q E CL d s) := by
  have hsc := hf.cs
  have X : CtxOk G fn c false c.cs := ⟨hc, hf.tab, hf.cn, fun CL ρ x => by
    unfold Act.nsc
    rw [hf.comp], fun _ => hf.comp⟩
  have hv : ∀ e ρ, Sound G c k q CL ρ relV (eval e c.env) (E.val false c.cs CL ρ e) := fun e ρ => (hE c false c.cs CL ρ X e).1
  have ht : ∀ e ρ, Sound G c k q CL ρ relB (isTrue e c.env (eval e c.env)) (E.tst false c.cs CL ρ e) := fun e ρ => (hE c false c.cs CL ρ X e).2
  intro d
  induction d with
  | zero => exact fun s => .stop
  | succ d ih =>
    intro s
    have hb : ∀ b, SoundS G c k q CL (execs b c.env) (seqM (stS G fn q E CL d) b) := fun b => .seq fun x _ => ih x
    show SoundS G c k q CL (exec s c.env) (smdS G fn.sc q E CL (seqM (stS G fn q E CL d)) (planS fn q s))
    have hF := planS_ok fn q s
    rw [← hsc]
    generalize planS fn q s = p at hF ⊢
    cases hF with
    | expr h => exact .expr hc h fun ρ => hv _ ρ
    | ret => exact .ret fun ρ => hv _ ρ
    | ret0 => exact .ret0
    | pass => exact .pass
    | ite => exact .iff (fun ρ => ht _ ρ) (hb _) (hb _)
    | @asC x px elt z pz iter ifs csc cpos p h h1 h2 h3 =>
      have hkind := (compOk_of h1).1
      unfold smdS
      dsimp only
      cases hCL : clos CL csc.names [] with
      | some CL' => exact .assignC hc hf.comp h h1 h2 hCL (hsc ▸ h3) (fun ρ => hv _ ρ) (fun C cl ρ' => tests_sound fun x _ => (hE _ true _ _ ρ' (X.inComp hkind) x).2) fun C cl ρ' => (hE _ true _ _ ρ' (X.inComp hkind) _).1
      | none => exact .stop
    | asN h => exact .assignN hc hf.comp h fun ρ => hv _ ρ
    | asA => exact .assignA hG hc (fun ρ => hv _ ρ) fun ρ => hv _ ρ
    | asS => exact .assignS (fun ρ => hv _ ρ) (fun ρ => hv _ ρ) fun ρ => hv _ ρ
    | asW h h1 =>
      rw [← hsc] at h1 ⊢
      exact .assignW hc hf.comp h h1 fun ρ => hv _ ρ
    | asT h h1 h2 h3 => exact .assignT hc hf.comp h h3 h1 h2 fun ρ => hv _ ρ
    | try_ => exact .try (hb _) (hb _)
    | while_ => exact .while (fun ρ => ht _ ρ) (hb _)
    | forN h h1 => exact .for hf.comp hc h (noSet_of h1) (fun ρ => hv _ ρ) (.name hc hf.comp) (hb _)
    | forT h h1 h3 => exact .for hf.comp hc h (noSet_of h1) (fun ρ => hv _ ρ) (.tup hc hf.comp h h3) (hb _)
    | no => exact .stop
end
structure Fs where
  fns : Addr → Option Fn
  inits : Addr → Option Addr
structure FsOk (G : Pg) (F : Fs) : Prop where
  fn : ∀ P a f, F.fns a = some f → FnOk G.tabs (G.K P) a f
  cls : ∀ P C f, F.inits C = some f → ClsFn (G.K P) C f
def lamFn (qual : Str) (sc : Scope) : Fn := ⟨qual, none, [], [], [], sc⟩
def deep : Nat := 20
def bodyM (G : Pg) (cf : Bool → V → List V → M V) (fn : Fn) (q : Bool) (CL : List (Str × Nat)) (ρ : Loc) : M (Fl × Loc) := seqM (stS G fn q (evS G cf fn q deep) CL deep) fn.body ρ
def lamBody (G : Pg) (cf : Bool → V → List V → M V) (qual : Str) (sc : Scope) (q : Bool) (body : Expr) (CL : List (Str × Nat)) (ρ : Loc) : M V := (evS G cf (lamFn qual sc) q deep).val false sc CL ρ body
noncomputable def callF (G : Pg) (F : Fs) : Nat → Bool → V → List V → M V
  | 0, _, _, _ => stop
  | n + 1, q, f, args => match f with
    | .glob a => match F.fns a with
      | some fn => fnM fn (bodyM G (callF G F n) fn q) args
      | none => match F.inits a with
        | some i => match F.fns i with
          | some fn => clsM a (fnM fn (bodyM G (callF G F n) fn q)) args
          | none => stop
        | none => stop
    | .hnd k => fun st => match st[k]? with
      | some (.lam params body sc qual cl) => match lamOk params sc with
        | true => lamCallM (lamBody G (callF G F n) qual sc q body) params cl args st
        | false => none
      | _ => none
    | f => callC q f args
section
variable {G : Pg} {F : Fs}
theorem body_ok (hG : G.Ok) {k : Nat} {cf : Bool → V → List V → M V} (hcf : CallOk G k cf) {fn : Fn} {q : Bool} {c' : Act} {CL' : List (Str × Nat)} (hc : c'.Ok G) (hf : InFn G c' fn) : SoundS G c' k q CL' (execs fn.body c'.env) (bodyM G cf fn q CL') :=
  .seq fun x _ => stS_ok hG (evS_ok hG hcf deep) hc hf deep x
theorem fnM_ok {fn : Fn} {body : List (Str × Nat) → Loc → M (Fl × Loc)} {args : List V} {st : Sto} {r : Except Addr V × Sto} (e : fnM fn body args st = some r) : ∃ y st', r = (.ok y, st') :=
  iteS e fun _ e => fnOut_some e fun p st2 _ e => ⟨_, _, e.symm⟩
theorem clsM_ok {C : Addr} {init : List V → M V} {args : List V} {st : Sto} {r : Except Addr V × Sto} (e : clsM C init args st = some r) : ∃ y st', r = (.ok y, st') := by
  unfold clsM at e
  split at e
  · induction e using E1; exact ⟨_, _, rfl⟩
  · exact noS e
theorem lamM_ok {ev : List (Str × Nat) → Loc → M V} {params : Arguments} {cl : List (Str × Nat)} {args : List V} {st : Sto} {r : Except Addr V × Sto} (e : lamCallM ev params cl args st = some r) : ∃ y st', r = (.ok y, st') := by
  unfold lamCallM noErr at e
  refine iteS e fun _ e => ?_
  · split at e
    · induction e using E1; exact ⟨_, _, rfl⟩
    · exact noS e
set_option tactic.hygienic true in
theorem callF_ok (hG : G.Ok) (hF : FsOk G F) : ∀ n, CallOk G n (callF G F n)
  | 0 => fun c hc q CL ρ f args v vs st r A s m news al Q E hA S hv hs e => by exact noS e
  | n + 1 => by
    intro c hc q CL ρ f args v vs st r A s m news al Q E hA S hv hs e hE hQ
    have ih := callF_ok hG hF n
    have hd := hA.dep
    have hu := hA.un
    cases f with
    | glob a =>
      unfold callF at e
      dsimp only at e
      cases hfn : F.fns a with
      | some fn =>
        rw [hfn] at e
        dsimp only at e
        obtain ⟨y, st', rfl⟩ := fnM_ok e
        cases hv
        exact wpAny_call (fnCall (k := n) (q := q) hc (hF.fn _ _ _ hfn) (fun c' CL' hc' hf' => body_ok hG ih hc' hf') hA.fr (by lia) (by lia) hA.hd S hs e fun v s' n' a' S' X' R' G' => hQ _ _ rfl v s' n' a' S' X' R' G')
      | none =>
        rw [hfn] at e
        dsimp only at e
        cases hi : F.inits a with
        | none => rw [hi] at e; cases e
        | some i =>
          rw [hi] at e
          dsimp only at e
          cases hfi : F.fns i with
          | none => rw [hfi] at e; cases e
          | some fn =>
            rw [hfi] at e
            dsimp only at e
            obtain ⟨y, st', rfl⟩ := clsM_ok e
            cases hv
            exact wpAny_call (clsCall (k := n) (q := q) hc (hF.cls _ _ _ hi) (hF.fn _ _ _ hfi) (fun c' CL' hc' hf' => body_ok hG ih hc' hf') hA.fr (by lia) (by lia) hA.hd S hs e fun v s' n' a' S' X' R' G' => hQ _ _ rfl v s' n' a' S' X' R' G')
    | hnd kk =>
      unfold callF at e
      dsimp only at e
      split at e
      · rename_i params body sc qual cl hst
        split at e
        · rename_i hok
          obtain ⟨y, st', rfl⟩ := lamM_ok e
          refine wpAny_call (lamCall (k := n) (q := q) hG hc hok (fun c' CL' ρ' hc' hp' hcs' hcn' => ?_) hA.fr (by lia) (by lia) hA.hd S hv hst hs e fun v s' n' a' S' X' R' G' => hQ _ _ rfl v s' n' a' S' X' R' G')
          refine (evS_ok hG ih deep c' false sc CL' ρ' ⟨hc', fun ti e => (by cases e), hcn', fun CL ρ x => ?_, fun _ => hp'⟩ body).1
          unfold Act.nsc
          rw [hp']
          dsimp only
          rw [hcs']
        · cases e
      · cases e
    | _ =>
      exact callC_sound hc hA S hv hs e hQ
theorem topCall {p : Program} {loose : List Str} {w : World} {mean : ExcName → Option Value} {mg mb : Str → Option Value} {s : Shared} {f : Addr} {fn : Fn} {quals : List Str} {k : Nat} {q : Bool} {body : List (Str × Nat) → Loc → M (Fl × Loc)} {vs : List Value} {args : List V} {y : V} {st' : Sto} {R : Result → Shared → Prop}
    (hGp : G.p = topProg) (hGl : G.loose = loose ++ (recsOf p).map (·.name) ++ (litsOf p).map (·.1) ++ (clssOf p loose).map (·.name)) (hK : noTabs (G.K w.params) = true) (hnd : (G.tabs.map (·.2)).Nodup) (hql : quals.length = G.tabs.length)
    (hT : TabsAt G.tabs s.heap) (X : (G.K w.params).In s.heap) (T : Top p loose mean mg mb s.heap) (hG : G.Ok) (hf : FnOk G.tabs (G.K w.params) f fn) (hk : k ≤ 40)
    (hb : ∀ (c' : Act) (CL' : List (Str × Nat)), c'.Ok G → InFn G c' fn → SoundS G c' k q CL' (execs fn.body c'.env) (body CL'))
    (hs : ∀ news al, VRs (G.K w.params) news al vs args) (e : fnM fn body args (quals.map .tab) = some (.ok y, st'))
    (hR : ∀ v s' news' al' L m, Fr (ghostOf s.heap G.tabs) L s'.heap m → News (ghostOf s.heap G.tabs) L s'.heap news' → HR (G.K w.params) G.prog w news' al' st' → Ext (tabNews G.tabs) (G.tabs.map fun q => (q.2, none)) news' al' → VR (G.K w.params) news' al' v y → Same s s' → R (.ok (.ret v)) s') :
    codeAny (model G.prog w) callerA (.call (.ref f) ⟨vs, []⟩) R s := by
  obtain ⟨oc, od, osl, name, params, dV, kV, doc, pm, an, cdv, ct, hKf, hcode, htab, dvs, hdv, hbind⟩ := hf.at_
  refine iteS e fun hlen e => fnOut_some e fun pe st2 hbody e => ?_
  · · obtain ⟨e1, e2⟩ := Prod.mk.inj e
      have hlv := (hs [] []).length
      have hbr : ∀ news al, BR (G.K w.params) news al (fn.names.zip (vs ++ dvs.drop (vs.length + fn.dfl.length - fn.names.length))) (fn.names.zip (args ++ fn.dfl.drop (args.length + fn.dfl.length - fn.names.length))) := fun news al => by
        rw [hlv]
        exact VRs.zip ((hs _ _).append ((hdv _ _).drop _)) _
      have Xg := ghost_K hT X hK
      have Tg := ghost_top hT T
      have Bg : Below callerA (ghostOf s.heap G.tabs) [] (ghostOf s.heap G.tabs) := ghost_below hT
      refine codeAny_call_function (by decide) (X _ _ hKf) rfl hf.co hf.gen rfl (codeRec_of X hcode) (hbind s X vs (by lia) (by lia) _ _ _ _ ?_)
      refine wpAny_newFunctionEnv_cells hf.kind (fun x hx => hf.kinds _ _ (List.of_mem_zip hx).1) fun env' he s' x => ?_
      subst he
      refine ⟨(T.nolimit).keeps x.toInCall.keep, codeAny_func ?_⟩
      obtain ⟨h₁, tk, rfl, _⟩ := x.done
      have hk₁ := x.toInCall.keep
      obtain ⟨cells, NC, Y⟩ := Cl.news (h₀ := s.heap) (Nat.le_refl _) fun n c hm => ⟨x.cell n c (lookup_of_mem_nodup (cellsFrom_names fn.sc.names 0 (s.heap.objs.size + 1) [] [] rfl ▸ hf.nd) hm), x.above n c hm⟩
      have Y' : CellsAre (bindC (envOfC fn.qual fn.sc s.heap.objs.size f cdv).kindOf (fn.names.zip (vs ++ dvs.drop (vs.length + fn.dfl.length - fn.names.length))) fun _ => none) (cellsFrom (s.heap.objs.size + 1) fn.sc.names []) cells := Y
      have F0 : Fr s.heap s.heap.objs.size h₁ (bindL (envOfC fn.qual fn.sc s.heap.objs.size f cdv).kindOf (fn.names.zip (vs ++ dvs.drop (vs.length + fn.dfl.length - fn.names.length))) fun _ => none) := ⟨x.toInCall.ns, hk₁, Nat.le_refl _⟩
      have F1 := ghost_fr hT F0
      have N0 := ghost_news hT F0 NC
      have H0 : HR (G.K w.params) G.prog w (tabNews G.tabs) (G.tabs.map fun q => (q.2, none)) (quals.map .tab) := by
        refine ⟨?_, by simp [hql], ?_, fun j p o hj ho => ?_⟩
        · show ((G.tabs.map fun q => (q.2, tabObj #[])).map (·.1)).Nodup
          rw [List.map_map]; exact hnd
        · have : flat (G.tabs.map fun q => (q.2, (none : Option Addr))) = G.tabs.map (·.2) := by
            generalize G.tabs = l
            unfold flat
            induction l with
            | nil => rfl
            | cons a r ih => simp only [List.map_cons, List.flatMap_cons, ih]; rfl
          rw [this]; exact hnd
        · rw [List.getElem?_map] at hj ho
          obtain ⟨q, hq, rfl⟩ := Option.map_eq_some_iff.mp hj
          obtain ⟨u, hu, rfl⟩ := Option.map_eq_some_iff.mp ho
          exact .tab (ps := #[]) (List.mem_map.mpr ⟨q, List.mem_of_getElem? hq, rfl⟩) trivial fun pos cv e => by exact noS e
      obtain ⟨gc1, gc2⟩ := cellsFrom_snd fn.sc.names (s.heap.objs.size + 1) [] (fun p hp => by cases hp) List.nodup_nil
      have hnew : ∀ p ∈ cellsFrom (s.heap.objs.size + 1) fn.sc.names [], p.2 ∉ (tabNews G.tabs).map (·.1) := fun p hp q => by
        obtain ⟨z, hz, e⟩ := List.mem_map.mp q
        have h1 := ghost_lt hT F0 z hz
        rcases gc2 p hp with h | h
        · cases h
        · rw [e] at h1; exact absurd (Nat.lt_of_lt_of_le h1 (Nat.le_of_succ_le h)) (Nat.lt_irrefl _)
      have hnames : (cellsFrom (s.heap.objs.size + 1) fn.sc.names []).map (·.1) = (cellsFrom 0 fn.sc.names []).map (·.1) := cellsFrom_names _ _ _ _ _ rfl
      obtain ⟨H1, X1, L1⟩ := cells_in (cs := cellsFrom (s.heap.objs.size + 1) fn.sc.names []) (cv := bindCV fn.sc (fn.names.zip (args ++ fn.dfl.drop (args.length + fn.dfl.length - fn.names.length))) []) Y H0 gc1 hnew
        (bindC_rel (sc := fn.sc) (fun x => rfl) (hbr _ _) fun x => ⟨fun y e => by simp at e, fun _ => rfl⟩)
      rw [hnames] at H1 L1
      let c' : Act := { w := w, mean := mean, mg := mg, mb := mb, A₀ := callerA, base := ghostOf s.heap G.tabs, h₀ := ghostOf s.heap G.tabs, outer := [], cn := fn.qual, cs := fn.sc, L := s.heap.objs.size, a := f, ccd := cdv, cl := cellsFrom (s.heap.objs.size + 1) fn.sc.names [], comp := none, fly := fun _ _ _ _ _ _ _ => False }
      have hc' : c'.Ok G := ⟨Bg, hf.kind, fun C sc cl e => (by exact noS e), Xg, by rw [hGp, hGl]; exact Tg, fun q hq => hG.tab _ q hq _ Xg⟩
      have hA' : Ar c' k q (callerA.deeper (envOfC fn.qual fn.sc s.heap.objs.size f cdv)) := by
        refine ⟨Around.frames_deeper rfl, ?_, ?_, fun _ => rfl⟩
        · show 1 + claimMargin + 1 + 8 * k + 16 < recursionLimit
          unfold claimMargin recursionLimit; lia
        · show 4 + 3 + 64 * k + 128 < cLine
          unfold cLine; lia
      have S1 : St G c' (clV ((cellsFrom 0 fn.sc.names []).map (·.1)) (quals.map O.tab).length) (bindLV fn.sc (fn.names.zip (args ++ fn.dfl.drop (args.length + fn.dfl.length - fn.names.length))) [])
          (bindL (envOfC fn.qual fn.sc s.heap.objs.size f cdv).kindOf (fn.names.zip (vs ++ dvs.drop (vs.length + fn.dfl.length - fn.names.length))) fun _ => none) { s with heap := h₁, toks := tk } (cells.reverse ++ tabNews G.tabs) ((G.tabs.map fun q => (q.2, (none : Option Addr))) ++ cells.map fun p => (p.1, none)) (quals.map O.tab ++ cellsV ((cellsFrom 0 fn.sc.names []).map (·.1)) (bindCV fn.sc (fn.names.zip (args ++ fn.dfl.drop (args.length + fn.dfl.length - fn.names.length))) [])) := by
        refine ⟨F1, fun p hp => N0 p (by rcases List.mem_append.mp hp with hp | hp; exact List.mem_append_left _ (List.mem_reverse.mp hp); exact List.mem_append_right _ hp), H1, ?_, L1, fun i q e => ?_⟩
        · exact bindL_rel (sc := fn.sc) (fun x => rfl) (hbr _ _) fun x y e => by simp at e
        · rw [List.getElem?_append_left (by rw [List.length_map]; exact (List.getElem?_eq_some_iff.mp e).1), List.getElem?_map, e]; rfl
      refine (hb c' _ hc' ⟨rfl, rfl, rfl, htab⟩).ok hbody hA' S1 fun f2 s2 m2 n2 a2 S2 X2 R2 G2 => ?_
      exact hR _ _ n2 a2 _ m2 S2.F S2.N (e2 ▸ S2.H) (X1.trans H0 X2) (Except.ok.inj e1 ▸ R2.retV) (Same.trans ⟨rfl, rfl⟩ G2)
end
noncomputable def mkFn (o : Obj) (tab : Option Nat) (dfl : List V) : Fn := match o.data with
  | .func fd => ⟨fd.qualname, tab, fd.params.args.map (·.arg), dfl, (match fd.body with | .stmts b => b | _ => []), fd.scope⟩
  | _ => ⟨.ofString "", none, [], [], [], { kind := .function, names := [], isGenerator := false, isCoroutine := false, more := [] }⟩
def nmOk (sc : Scope) (x : Str) : Bool := match sc.names.lookup x with
  | some .local => true
  | some .cell => ((cellsFrom 0 sc.names []).map (·.1)).contains x
  | _ => false
def refO : Value → Option Addr
  | .ref a => some a
  | _ => none
theorem refO_some {v : Value} {a : Addr} (h : refO v = some a) : v = .ref a := by
  cases v with
  | ref b => exact congrArg Value.ref (sInj h)
  | _ => exact noS h
theorem anyE {α : Type} {o : Option α} {p : α → Bool} {P : Prop} (h : o.any p = true) (k : ∀ a, o = some a → p a = true → P) : P := by
  cases o with
  | none => exact noB h
  | some a => exact k a rfl h
def tabOk (tabs : List (Addr × Addr)) (code : Value) : Option Nat → Bool
  | none => true
  | some ti => (refO code).any fun c => (tabs[ti]?).any fun q => c == q.1
def isNone : Value → Bool
  | .none => true
  | _ => false
theorem isNone_eq {v : Value} (h : isNone v = true) : v = .none := by
  cases v with
  | none => rfl
  | _ => exact noB h
def bodyB : FuncBody → Bool
  | .stmts _ => true
  | _ => false
def fnB (K : Frag) (tabs : List (Addr × Addr)) (tab : Option Nat) (fd : FuncData) : Bool := bodyB fd.body && (fd.globals == mainGlobals && (fd.closure.isEmpty && (fd.builtins == builtinsNs && (codeIn K fd.code fd.qualname && (tabOk tabs fd.code tab && ((fd.params.args.map (·.arg)).all (nmOk fd.scope) && (decide (((cellsFrom 0 fd.scope.names []).map (·.1)).Nodup) && (!fd.scope.isCoroutine && (!fd.scope.isGenerator && (decide (fd.scope.kind = .function) &&
  (fd.params.posonlyargs.isEmpty && (fd.params.kwonlyargs.isEmpty && (fd.params.vararg.isNone && (fd.params.kwarg.isNone && decide ((fd.params.args.map (·.arg)).Nodup)))))))))))))))
structure FB (K : Frag) (tabs : List (Addr × Addr)) (tab : Option Nat) (fd : FuncData) : Prop where
  body : bodyB fd.body = true
  gl : fd.globals = mainGlobals
  cl : fd.closure = []
  bu : fd.builtins = builtinsNs
  code : codeIn K fd.code fd.qualname = true
  tab : tabOk tabs fd.code tab = true
  kinds : (fd.params.args.map (·.arg)).all (nmOk fd.scope) = true
  nd : ((cellsFrom 0 fd.scope.names []).map (·.1)).Nodup
  co : fd.scope.isCoroutine = false
  gen : fd.scope.isGenerator = false
  kind : fd.scope.kind = .function
  pos : fd.params.posonlyargs.isEmpty = true
  kwo : fd.params.kwonlyargs.isEmpty = true
  va : fd.params.vararg = none
  kw : fd.params.kwarg = none
  na : (fd.params.args.map (·.arg)).Nodup
theorem andB {a b : Bool} {P : Prop} (h : (a && b) = true) (k : a = true → b = true → P) : P := k (Bool.and_eq_true_iff.mp h).1 (Bool.and_eq_true_iff.mp h).2
theorem notB {a : Bool} (h : (!a) = true) : a = false := Bool.not_eq_true' a ▸ h
theorem FB.of {K : Frag} {tabs : List (Addr × Addr)} {tab : Option Nat} {fd : FuncData} (h : fnB K tabs tab fd = true) : FB K tabs tab fd :=
  andB h fun h1 h => andB h fun h2 h => andB h fun h3 h => andB h fun h4 h => andB h fun h5 h => andB h fun h6 h => andB h fun h7 h => andB h fun h8 h => andB h fun h9 h => andB h fun h10 h => andB h fun h11 h => andB h fun h12 h => andB h fun h13 h => andB h fun h14 h => andB h fun h15 h16 =>
    ⟨h1, beq_iff_eq.mp h2, List.isEmpty_iff.mp h3, beq_iff_eq.mp h4, h5, h6, h7, of_decide_eq_true h8, notB h9, notB h10, of_decide_eq_true h11, h12, h13, Option.isNone_iff_eq_none.mp h14, Option.isNone_iff_eq_none.mp h15, of_decide_eq_true h16⟩
def fdO (o : Obj) : Option FuncData := match o.data with
  | .func fd => some fd
  | _ => none
theorem fdO_some {o : Obj} {fd : FuncData} (h : fdO o = some fd) : o.data = .func fd := by
  unfold fdO at h
  cases e : o.data with
  | func fd' => rw [e] at h; exact congrArg Data.func (sInj h)
  | _ => rw [e] at h; exact noS h
noncomputable def fnBase (K : Frag) (tabs : List (Addr × Addr)) (o : Obj) (tab : Option Nat) : Bool := (fdO o).any (fnB K tabs tab)
theorem fnBase_some {K : Frag} {tabs : List (Addr × Addr)} {o : Obj} {tab : Option Nat} {P : Prop} (h : fnBase K tabs o tab = true) (k : ∀ fd, o.data = .func fd → FB K tabs tab fd → P) : P := anyE h fun fd e h => k fd (fdO_some e) (.of h)
def fnPlain (o : Obj) : Bool := (fdO o).any fun fd => isNone fd.defaults
theorem cellsFrom_isSome {l : List (Str × NameKind)} {n : Nat} {x : Str} (h : ((cellsFrom 0 l []).map (·.1)).contains x = true) : ((cellsFrom n l []).lookup x).isSome = true := by
  rw [cellsFrom_names l 0 n [] [] rfl] at h
  generalize cellsFrom n l [] = c at h
  induction c with
  | nil => simp at h
  | cons p r ih =>
    obtain ⟨y, a⟩ := p
    rw [List.lookup_cons]
    simp only [List.map_cons, List.contains_cons, Bool.or_eq_true] at h
    cases hx : x == y with
    | true => rfl
    | false =>
      rcases h with h | h
      · rw [hx] at h; cases h
      · exact ih h
theorem kinds_of {sc : Scope} {names : List Str} (h : names.all (nmOk sc) = true) : kindsOk sc names := by
  intro n x hx
  have := List.all_eq_true.mp h x hx
  unfold nmOk at this
  split at this
  · rename_i e; exact .inl e
  · rename_i e; exact .inr ⟨e, cellsFrom_isSome this⟩
  · cases this
theorem fd_eta {fd : FuncData} {b : List Stmt} (h1 : fd.body = .stmts b) (h2 : fd.globals = mainGlobals) (h3 : fd.closure = []) (h4 : fd.builtins = builtinsNs) : fd = fnX fd.name fd.qualname fd.params b fd.scope [] fd.defaults fd.kwdefaults fd.doc fd.pyModule fd.annotations fd.code fd.closureTuple := by
  cases fd
  dsimp only at h1 h2 h3 h4
  rw [h1, h2, h3, h4]
theorem tabOk_some {tabs : List (Addr × Addr)} {code : Value} {ti : Nat} (h : tabOk tabs code (some ti) = true) : ∃ cc P, code = .ref cc ∧ tabs[ti]? = some (cc, P) :=
  anyE h fun c e h => anyE h fun q e2 h => ⟨c, q.2, refO_some e, by rw [e2, beq_iff_eq.mp h]⟩
theorem fnOk_of {K : Frag} {tabs : List (Addr × Addr)} {f : Addr} {o : Obj} {tab : Option Nat} {dfl : List V} (h : K.lookup f = some o) (hb : fnBase K tabs o tab = true)
    (hd : ∀ fd, o.data = .func fd → FB K tabs tab fd → ∃ dvs : List Value, (∀ news al, VRs K news al dvs dfl) ∧ ∀ (s : Shared), K.In s.heap → ∀ vs : List Value, (fd.params.args.map (·.arg)).length ≤ vs.length + dfl.length → vs.length ≤ (fd.params.args.map (·.arg)).length →
      BindsTo s fd ⟨vs, []⟩ ((fd.params.args.map (·.arg)).zip (vs ++ dvs.drop (vs.length + dfl.length - (fd.params.args.map (·.arg)).length)))) : FnOk tabs K f (mkFn o tab dfl) :=
  fnBase_some hb fun fd e B => by
    cases eb : fd.body with
    | stmts b =>
      have he := fd_eta eb B.gl B.cl B.bu
      obtain ⟨dvs, d1, d2⟩ := hd fd e B
      have hm : mkFn o tab dfl = ⟨fd.qualname, tab, fd.params.args.map (·.arg), dfl, b, fd.scope⟩ := by unfold mkFn; rw [e]; dsimp only; rw [eb]
      rw [hm]
      have hK : K.lookup f = some ⟨o.cls, o.dict, .func (fnX fd.name fd.qualname fd.params b fd.scope [] fd.defaults fd.kwdefaults fd.doc fd.pyModule fd.annotations fd.code fd.closureTuple), o.slots⟩ := by rw [h, ← he, ← e]
      exact ⟨⟨o.cls, o.dict, o.slots, fd.name, fd.params, fd.defaults, fd.kwdefaults, fd.doc, fd.pyModule, fd.annotations, fd.code, fd.closureTuple, hK, B.code, fun ti hti => tabOk_some (hti ▸ B.tab), dvs, d1, by rw [← he]; exact d2⟩, kinds_of B.kinds, B.nd, B.co, B.gen, B.kind⟩
    | _ => have := B.body; rw [eb] at this; exact noB this
theorem fnOk_plain {K : Frag} {tabs : List (Addr × Addr)} {f : Addr} {o : Obj} {tab : Option Nat} (h : K.lookup f = some o) (hb : fnBase K tabs o tab = true) (hp : fnPlain o = true) : FnOk tabs K f (mkFn o tab []) :=
  fnOk_of h hb fun fd e B => ⟨[], fun _ _ => .nil, fun s X vs h1 h2 => by
    have hd : fd.defaults = .none := anyE hp fun fd' e' h' => by
      rw [Data.func.inj ((fdO_some e').symm.trans e)] at h'
      exact isNone_eq h'
    refine BindsTo.of_eq ?_
    rw [bind_simple fd (vs := vs) (List.isEmpty_iff.mp B.pos) (List.isEmpty_iff.mp B.kwo) B.va B.kw hd (Nat.le_antisymm h2 h1) B.na, List.drop_nil, List.append_nil]⟩
def vI : Value → Option Int
  | .int i _ => some i
  | _ => none
def vS : Value → Option Str
  | .str x _ => some x
  | _ => none
def seqD : Data → Option (Array Value × Nat)
  | .seq vs n => some (vs, n)
  | _ => none
noncomputable def seqT (o : Obj) : Option (Array Value × Nat) := if o.cls == .type "tuple" && o.dict.isNone && o.slots.isEmpty then seqD o.data else none
def tupT (K : Frag) (v : Value) : Option (Array Value × Nat) := (refO v).bind fun a => (K.lookup a).bind seqT
mutual
noncomputable def vChk (K : Frag) : V → Value → Bool
  | .none, v => v == .none
  | .bool a, v => v == .bool a
  | .int i, v => vI v == some i
  | .str x, v => vS v == some x
  | .glob a, v => v == .ref a
  | .bi x, v => v == .builtin x
  | .ty x, v => v == .type x
  | .tup l, v => match tupT K v with
    | some p => vsChk K l p.1.toList
    | none => false
  | _, _ => false
noncomputable def vsChk (K : Frag) : List V → List Value → Bool
  | [], vs => vs.isEmpty
  | y :: r, vs => match vs with
    | v :: vs => vChk K y v && vsChk K r vs
    | [] => false
end
theorem seqT_of {o : Obj} {p : Array Value × Nat} (h : seqT o = some p) : o = { cls := .type "tuple", data := .seq p.1.toList.toArray p.2 } := by
  obtain ⟨c, d, dt, sl⟩ := o
  refine iteS h fun hc h => ?_
  rw [Bool.and_eq_true, Bool.and_eq_true] at hc
  have h1 : c = .type "tuple" := eq_of_beq hc.1.1
  have h2 : d = none := Option.isNone_iff_eq_none.mp hc.1.2
  have h3 : sl = #[] := Array.isEmpty_iff.mp hc.2
  have h4 : dt = .seq p.1.toList.toArray p.2 := by cases dt <;> first | exact noS h | (rw [← sInj h, Array.toArray_toList])
  rw [h1, h2, h3, h4]
theorem vChk_ok {K : Frag} (y : V) : ∀ (v : Value), vChk K y v = true → ∀ news al, VR K news al v y :=
  V.rec (motive_1 := fun y => ∀ v, vChk K y v = true → ∀ news al, VR K news al v y) (motive_2 := fun l => ∀ vs, vsChk K l vs = true → ∀ news al, VRs K news al vs l)
    (fun v h _ _ => eq_of_beq h ▸ .none) (fun b v h _ _ => eq_of_beq h ▸ .bool)
    (fun i v h _ _ => by
      have h : vI v = some i := eq_of_beq h
      cases v <;> first | exact noS h | (rw [← sInj h]; exact .int))
    (fun i v h _ _ => by
      have h : vS v = some i := eq_of_beq h
      cases v <;> first | exact noS h | (rw [← sInj h]; exact .str))
    (fun l ih v h news al => by
      unfold vChk at h
      cases hp : tupT K v with
      | none => rw [hp] at h; exact noB h
      | some p =>
        rw [hp] at h
        refine bindE hp fun a h1 h2 => bindE h2 fun o h3 h4 => ?_
        have hv : v = .ref a := by cases v <;> first | exact noS h1 | exact congrArg Value.ref (sInj h1)
        rw [seqT_of h4] at h3
        exact hv ▸ .tupK h3 (ih _ h news al))
    (fun _ _ h => noB h) (fun a v h _ _ => eq_of_beq h ▸ .glob) (fun x v h _ _ => eq_of_beq h ▸ .bi) (fun x v h _ _ => eq_of_beq h ▸ .ty) (fun _ _ _ _ h => noB h) (fun _ _ _ h => noB h)
    (fun vs h _ _ => List.isEmpty_iff.mp h ▸ .nil)
    (fun y l h1 h2 vs h news al => by
      cases vs with
      | nil => exact noB h
      | cons v vs =>
        unfold vsChk at h
        rw [Bool.and_eq_true] at h
        exact .cons (h1 v h.1 news al) (h2 vs h.2 news al)) y
noncomputable def glChk (K : Frag) (p : Str × V) : Bool := match nsIn K mainGlobals p.1 with
  | some (some v) => vChk K p.2 v
  | some none => (match bootBuiltins p.1 with
    | some v => vChk K p.2 v && p.1 != "__name__"
    | none => false)
  | none => false
theorem lookup_mem {κ α : Type} [BEq κ] [LawfulBEq κ] {l : List (κ × α)} {x : κ} {y : α} (h : l.lookup x = some y) : (x, y) ∈ l := by
  induction l with
  | nil => exact noS h
  | cons p r ih =>
    obtain ⟨k, v⟩ := p
    rw [List.lookup_cons] at h
    split at h
    · rename_i e; induction h using E1; rw [beq_iff_eq.mp e]; exact List.mem_cons_self
    · exact List.mem_cons_of_mem _ (ih h)
set_option tactic.hygienic true in
theorem gl_ok {K : Frag} {gl : List (Str × V)} (h : gl.all (glChk K) = true) {x : Str} {y : V} (e : gl.lookup x = some y) :
    (∃ v, nsIn K mainGlobals x = some (some v) ∧ ∀ news al, VR K news al v y) ∨ (∃ v, nsIn K mainGlobals x = some none ∧ bootBuiltins x = some v ∧ x ≠ "__name__" ∧ ∀ news al, VR K news al v y) := by
  have := List.all_eq_true.mp h _ (lookup_mem e)
  unfold glChk at this
  dsimp only at this
  split at this
  · rename_i v e1; exact .inl ⟨v, e1, vChk_ok _ _ this⟩
  · rename_i e1
    split at this
    · rename_i v e2
      rw [Bool.and_eq_true] at this
      exact .inr ⟨v, e1, e2, by simpa using this.2, vChk_ok _ _ this.1⟩
    · cases this
  · cases this
noncomputable def methChk (K : Frag) (p : (Addr × Str) × Addr) : Bool := plainGet K p.1.1 p.1.2 && findIn K (.ref p.1.1) p.1.2 == some (some (.ref p.2)) && isFn K (.ref p.2) && keepIn K (.ref p.2)
theorem meth_ok {K : Frag} {ml : List ((Addr × Str) × Addr)} (h : ml.all (methChk K) = true) {C : Addr} {x : Str} {f : Addr} (e : ml.lookup (C, x) = some f) :
    plainGet K C x = true ∧ findIn K (.ref C) x = some (some (.ref f)) ∧ isFn K (.ref f) = true ∧ keepIn K (.ref f) = true := by
  have := List.all_eq_true.mp h _ (lookup_mem e)
  unfold methChk at this
  simp only [Bool.and_eq_true] at this
  exact ⟨this.1.1.1, beq_iff_eq.mp this.1.1.2, this.1.2, this.2⟩
noncomputable def clsFnChk (K : Frag) (p : Addr × Addr) : Bool := makesIn K p.1 && findIn K (.ref p.1) "__init__" == some (some (.ref p.2)) && typeIn K (.ref p.2) == some (.type "function")
theorem clsFn_ok {K : Frag} {p : Addr × Addr} (h : clsFnChk K p = true) : ClsFn K p.1 p.2 := by
  unfold clsFnChk at h
  simp only [Bool.and_eq_true] at h
  exact ⟨h.1.1, beq_iff_eq.mp h.1.2, beq_iff_eq.mp h.2⟩
mutual
noncomputable def V.mp (e : Nat → Nat) : V → V
  | .tup l => .tup (V.mps e l)
  | .hnd k => .hnd (e k)
  | .lstK l => .lstK (V.mps e l)
  | .none => .none
  | .bool b => .bool b
  | .int i => .int i
  | .str x => .str x
  | .glob a => .glob a
  | .bi x => .bi x
  | .ty x => .ty x
  | .rng a b c => .rng a b c
noncomputable def V.mps (e : Nat → Nat) : List V → List V
  | [] => []
  | y :: r => y.mp e :: V.mps e r
end
noncomputable def mpP {κ : Type} (e : Nat → Nat) (l : List (κ × V)) : List (κ × V) := l.map fun p => (p.1, p.2.mp e)
noncomputable def mpC (e : Nat → Nat) (l : List (Str × Nat)) : List (Str × Nat) := l.map fun p => (p.1, e p.2)
noncomputable def O.mp (e : Nat → Nat) : O → O
  | .list l => .list (V.mps e l)
  | .sdict l => .sdict (mpP e l)
  | .idict l => .idict (mpP e l)
  | .inst C fs => .inst C (mpP e fs)
  | .cell v => .cell (v.map (V.mp e))
  | .lam p b sc q cl => .lam p b sc q (mpC e cl)
  | .tab q => .tab q
section
variable {N : Nat} {e : Nat → Nat}
theorem mps_map : ∀ l : List V, V.mps e l = l.map (V.mp e)
  | [] => rfl
  | y :: r => by rw [V.mps, mps_map r]; rfl
theorem mps_length (l : List V) : (V.mps e l).length = l.length := by rw [mps_map, List.length_map]
theorem mps_append (l r : List V) : V.mps e (l ++ r) = V.mps e l ++ V.mps e r := by simp [mps_map]
theorem mps_get {l : List V} {i : Nat} {y : V} (h : l[i]? = some y) : (V.mps e l)[i]? = some (y.mp e) := by simp [mps_map, h]
theorem mpP_lookup {κ : Type} [BEq κ] (x : κ) : ∀ l : List (κ × V), (mpP e l).lookup x = (l.lookup x).map (V.mp e)
  | [] => rfl
  | (k, y) :: r => by
    show List.lookup x ((k, y.mp e) :: mpP e r) = _
    rw [List.lookup_cons, List.lookup_cons]
    split
    · rfl
    · exact mpP_lookup x r
theorem mpC_lookup (x : Str) : ∀ l : List (Str × Nat), (mpC e l).lookup x = (l.lookup x).map e
  | [] => rfl
  | (k, y) :: r => by
    show List.lookup x ((k, e y) :: mpC e r) = _
    rw [List.lookup_cons, List.lookup_cons]
    split
    · rfl
    · exact mpC_lookup x r
def far : Nat := 1000000
structure Sim (N : Nat) (e : Nat → Nat) (a b : Sto) : Prop where
  get : ∀ k o, a[k]? = some o → b[e k]? = some (o.mp e)
  nxt : ∀ k, a.length ≤ k → k < N → e k = b.length + (k - a.length)
  inj : ∀ i j, i < N → j < N → e i = e j → i = j
  out : ∀ h, e (far + h) = h
  len : a.length ≤ N
  cap : N ≤ far
  fix : ∀ k q, a[k]? = some (.tab q) → e k = k
def Out (e : Nat → Nat) (a b b' : Sto) : Prop := ∀ j o, b[j]? = some o → (∀ k, k < a.length → e k ≠ j) → b'[j]? = some o
structure Nx (N : Nat) (e : Nat → Nat) (a b a' b' : Sto) : Prop where
  S : Sim N e a' b'
  O : Out e a b b'
  le : a.length ≤ a'.length
  gr : b'.length + a.length = b.length + a'.length
theorem Out.refl {a b : Sto} : Out e a b b := fun _ _ h _ => h
theorem lt_of_get {α : Type} {l : List α} {k : Nat} {o : α} (h : l[k]? = some o) : k < l.length := (List.getElem?_eq_some_iff.mp h).1
theorem Nx.refl {a b : Sto} (S : Sim N e a b) : Nx N e a b a b := ⟨S, .refl, Nat.le_refl _, rfl⟩
theorem Nx.trans {a b a1 b1 a2 b2 : Sto} (S : Sim N e a b) (x : Nx N e a b a1 b1) (y : Nx N e a1 b1 a2 b2) : Nx N e a b a2 b2 := by
  refine ⟨y.S, fun j o h n => y.O j o (x.O j o h n) fun k hk hj => ?_, Nat.le_trans x.le y.le, by have := x.gr; have := y.gr; lia⟩
  by_cases hka : k < a.length
  · exact n k hka hj
  · have h1 := S.nxt k (by lia) (Nat.lt_of_lt_of_le hk x.S.len)
    have := lt_of_get h
    lia
theorem Sim.lt {a b : Sto} (S : Sim N e a b) {k : Nat} (hk : k < a.length) : e k < b.length := by
  obtain ⟨o', h'⟩ : ∃ o', a[k]? = some o' := ⟨_, List.getElem?_eq_getElem hk⟩
  exact lt_of_get (S.get k o' h')
theorem Sim.at {a b : Sto} (S : Sim N e a b) (h : a.length < N) : e a.length = b.length := by
  have := S.nxt a.length (Nat.le_refl _) h; lia
theorem Sim.push {a b : Sto} (S : Sim N e a b) (o : O) (hl : (a ++ [o]).length ≤ N) (ho : ∀ q, o ≠ .tab q) : Nx N e a b (a ++ [o]) (b ++ [o.mp e]) := by
  have hl' : a.length < N := by simp at hl; lia
  have h0 := S.at hl'
  refine ⟨⟨fun k o' h => ?_, fun k hk hf => ?_, S.inj, S.out, hl, S.cap, fun k q h => ?_⟩, fun j o' h _ => ?_, by simp, by simp; lia⟩
  · rcases Nat.lt_trichotomy k a.length with hk | hk | hk
    · rw [List.getElem?_append_left hk] at h
      have := S.get k o' h
      rw [List.getElem?_append_left (lt_of_get this)]; exact this
    · subst hk
      rw [h0]
      simp at h ⊢
      rw [h]
    · rw [List.getElem?_eq_none (by simp; lia)] at h; exact noS h
  · simp only [List.length_append, List.length_singleton] at hk ⊢
    have := S.nxt k (by lia) hf
    lia
  · rcases Nat.lt_trichotomy k a.length with hk | hk | hk
    · rw [List.getElem?_append_left hk] at h
      exact S.fix k q h
    · subst hk
      simp at h
      exact (ho q h).elim
    · rw [List.getElem?_eq_none (by simp; lia)] at h; exact noS h
  · rw [List.getElem?_append_left (lt_of_get h)]; exact h
theorem Sim.put {a b : Sto} (S : Sim N e a b) {k : Nat} (o : O) (hk : k < a.length) (ho : ∀ q, o ≠ .tab q) : Nx N e a b (a.set k o) (b.set (e k) (o.mp e)) := by
  have hb := S.lt hk
  refine ⟨⟨fun j o' h => ?_, fun j h1 h2 => by simpa using S.nxt j (by simpa using h1) h2, S.inj, S.out, by simpa using S.len, S.cap, fun j q h => ?_⟩, fun j o' h n => ?_, by simp, by simp⟩
  · by_cases hjk : k = j
    · subst hjk
      rw [List.getElem?_set_self hk] at h
      induction h using E1
      rw [List.getElem?_set_self hb]
    · rw [List.getElem?_set_ne hjk] at h
      have hj := lt_of_get h
      rw [List.getElem?_set_ne (fun x => hjk (S.inj _ _ (Nat.lt_of_lt_of_le hk S.len) (Nat.lt_of_lt_of_le hj S.len) x))]
      exact S.get j o' h
  · by_cases hjk : k = j
    · subst hjk
      rw [List.getElem?_set_self hk] at h
      induction h using E1r
      exact (ho q rfl).elim
    · rw [List.getElem?_set_ne hjk] at h
      exact S.fix j q h
  · rw [List.getElem?_set_ne (n k hk)]; exact h
def Tr {α β : Type} (N : Nat) (e : Nat → Nat) (mp : α → β) (m : M α) (m' : M β) : Prop :=
  ∀ a b r a', Sim N e a b → m a = some (r, a') → a'.length ≤ N → ∃ b', m' b = some (r.map mp, b') ∧ Nx N e a b a' b'
theorem Tr.pure {α β : Type} {mp : α → β} {y : α} : Tr N e mp (M.pure y) (M.pure (mp y)) := fun a b r a' S h _ => by
  induction h using E2; exact ⟨b, rfl, .refl S⟩
theorem Tr.stop {α β : Type} {mp : α → β} {m' : M β} : Tr N e mp Mine.stop m' := fun a b r a' S h => by exact noS h
theorem Tr.still {α β : Type} {mp : α → β} {f : Sto → Option α} {f' : Sto → Option β} (h : ∀ a b y, Sim N e a b → f a = some y → f' b = some (mp y)) : Tr N e mp (still f) (still f') := by
  intro a b r a' S x _
  obtain ⟨y, e1, e2⟩ := Option.map_eq_some_iff.mp x
  induction e2 using E4
  exact ⟨b, by unfold Mine.still; rw [h a b y S e1]; rfl, .refl S⟩
theorem Tr.ofOpt {α β : Type} {mp : α → β} {f : Option α} {f' : Option β} (h : ∀ y, f = some y → f' = some (mp y)) : Tr N e mp (ofOpt f) (ofOpt f') := by
  intro a b r a' S x hl
  cases f with
  | none => cases x
  | some y => rw [h y rfl]; exact Tr.pure a b r a' S x hl
end
end Mine
namespace Mine
section
variable {N : Nat} {e : Nat → Nat} {a b : Sto}
theorem int_mp (y : V) : (y.mp e).int? = y.int? := by cases y <;> rfl
theorem str_mp (y : V) : (y.mp e).str? = y.str? := by cases y <;> rfl
theorem tup_mp (y : V) : (y.mp e).tup? = y.tup?.map (V.mps e) := by cases y <;> rfl
theorem hnd_mp (y : V) : (y.mp e).hnd? = y.hnd?.map e := by cases y <;> rfl
theorem binV_tr {op : Operator} {x y z : V} (h : binV op x y = some z) : binV op (x.mp e) (y.mp e) = some (z.mp e) := by
  cases x with
  | int i =>
    obtain ⟨j, h1, h2⟩ := Option.bind_eq_some_iff.mp h
    obtain ⟨r, h3, h4⟩ := Option.map_eq_some_iff.mp h2
    show (y.mp e).int?.bind _ = _
    rw [int_mp, h1, ← h4]
    show (binI op i j).map _ = _
    rw [h3]; rfl
  | str x =>
    obtain ⟨j, h1, h2⟩ := Option.bind_eq_some_iff.mp h
    show (y.mp e).str?.bind _ = _
    rw [str_mp, h1]
    exact iteS h2 fun hl h2 => (if_pos hl).trans (sInj h2 ▸ rfl)
  | tup l =>
    obtain ⟨l', h1, h2⟩ := Option.bind_eq_some_iff.mp h
    show (y.mp e).tup?.bind _ = _
    rw [tup_mp, h1]
    refine iteS h2 fun hl h2 => ?_
    show (if isAdd op = true ∧ (V.mps e l).length + (V.mps e l').length ≤ sizeLine then some (V.tup (V.mps e l ++ V.mps e l')) else none) = _
    rw [mps_length, mps_length, if_pos hl, ← sInj h2, V.mp, mps_append]
  | _ => exact noS h
theorem mps_empty (l : List V) : (V.mps e l).isEmpty = l.isEmpty := by rw [mps_map, List.isEmpty_map]
theorem truthV_tr (S : Sim N e a b) {y : V} {t : Bool} (h : truthV y a = some t) : truthV (y.mp e) b = some t := by
  cases y with
  | tup l => exact iteS h fun hl h => by show (if (V.mps e l).length ≤ sizeLine then some (!(V.mps e l).isEmpty) else none) = _; rw [mps_length, if_pos hl, mps_empty]; exact h
  | hnd k =>
    refine bindE h fun o hk h => ?_
    show (b[e k]?).bind truO = _
    rw [S.get _ _ hk]
    cases o with
    | list l => exact iteS h fun hl h => by show (if (V.mps e l).length ≤ sizeLine then some (!(V.mps e l).isEmpty) else none) = _; rw [mps_length, if_pos hl, mps_empty]; exact h
    | _ => exact noS h
  | _ => first | exact h | exact noS h
mutual
theorem dat0_mp : ∀ y : V, dat0 (y.mp e) = dat0 y
  | .tup l => by rw [V.mp, dat0, dat0, dats0_mp l]
  | .hnd _ => rfl
  | .lstK _ => rfl
  | .none => rfl
  | .bool _ => rfl
  | .int _ => rfl
  | .str _ => rfl
  | .glob _ => rfl
  | .bi _ => rfl
  | .ty _ => rfl
  | .rng _ _ _ => rfl
theorem dats0_mp : ∀ l : List V, dats0 (V.mps e l) = dats0 l
  | [] => rfl
  | y :: r => by rw [V.mps, dats0, dats0, dat0_mp y, dats0_mp r]
end
theorem lstAt_tr (S : Sim N e a b) {k : Nat} {l : List V} (h : lstAt a k = some l) : lstAt b (e k) = some (V.mps e l) := by unfold lstAt; rw [S.get _ _ (lstAt_of h)]; rfl
theorem dicAt_tr (S : Sim N e a b) {k : Nat} {l : List (Str × V)} (h : dicAt a k = some l) : dicAt b (e k) = some (mpP e l) := by unfold dicAt; rw [S.get _ _ (dicAt_of h)]; rfl
theorem eq0_mp (y z : V) : eq0 (y.mp e) (z.mp e) = eq0 y z := by unfold eq0; rw [dat0_mp, dat0_mp]
theorem datV_tr (S : Sim N e a b) {y : V} {d : PyData} (h : datV y a = some d) : datV (y.mp e) b = some d := by
  refine bindE h fun k h1 h => bindE h fun l h2 h => ?_
  unfold datV
  rw [hnd_mp, h1]
  show (lstAt b (e k)).bind _ = _
  rw [lstAt_tr S h2]
  show (dats0 (V.mps e l)).map _ = _
  rw [dats0_mp]; exact h
theorem strL_mp : ∀ (l : List V), strL (V.mps e l) = strL l
  | [] => rfl
  | y :: r => by
    rw [V.mps]
    cases y with
    | str x => rw [V.mp, strL, strL, strL_mp r]
    | _ => rfl
theorem cmpV_mp (op : CmpOp) (x y : V) : cmpV op (x.mp e) (y.mp e) = cmpV op x y := by
  unfold cmpV cmpI cmpS cmpIn cmpD
  rw [int_mp, int_mp, str_mp, str_mp, tup_mp, eq0_mp]
  cases y.tup? with
  | none => rfl
  | some l => dsimp only [Option.map_some, Option.bind_some]; rw [strL_mp]
end
section
variable {N : Nat} {e : Nat → Nat} {a b : Sto}
theorem seqIndex_nat {j : Int} {n i : Nat} (h : seqIndex? j n = some i) : seqIndex? j n = some i := h
theorem mps_get? (l : List V) (i : Nat) : (V.mps e l)[i]? = (l[i]?).map (V.mp e) := by rw [mps_map, List.getElem?_map]
theorem unV_tr (S : Sim N e a b) {op : UnaryOp} {x y : V} (h : unV op x a = some y) : unV op (x.mp e) b = some (y.mp e) := by
  cases op with
  | USub =>
    exact mapE h fun i h1 h2 => by
      show ((x.mp e).int?).map _ = _
      rw [int_mp, h1, ← h2]; rfl
  | Not =>
    exact mapE h fun t h1 h2 => by
      show (truthV (x.mp e) b).map _ = _
      rw [truthV_tr S h1, ← h2]; rfl
  | _ => exact noS h
theorem lget_tr {j : Int} {l : List V} {y : V} (h : lget j l = some y) : lget j (V.mps e l) = some (y.mp e) := by
  unfold lget
  rw [mps_length]
  refine iteS h fun hj h => bindE h fun k h1 h2 => ?_
  rw [if_pos hj, h1]
  show (V.mps e l)[k]? = _
  rw [mps_get?, h2]; rfl
theorem getO_tr {i y : V} {o : O} (h : getO i o = some y) : getO (i.mp e) (o.mp e) = some (y.mp e) := by
  cases o with
  | list l => exact bindE h fun j h1 h => by show (i.mp e).int?.bind _ = _; rw [int_mp, h1]; exact lget_tr h
  | sdict fs => exact bindE h fun j h1 h => by show (i.mp e).str?.bind _ = _; rw [str_mp, h1]; show (mpP e fs).lookup j = _; rw [mpP_lookup, h]; rfl
  | idict fs => exact bindE h fun j h1 h => by show (i.mp e).int?.bind _ = _; rw [int_mp, h1]; show (mpP e fs).lookup j = _; rw [mpP_lookup, h]; rfl
  | _ => exact noS h
theorem getItV_tr (S : Sim N e a b) {x i y : V} (h : getItV x i a = some y) : getItV (x.mp e) (i.mp e) b = some (y.mp e) := by
  cases x with
  | tup l => exact bindE h fun j h1 h => by show (i.mp e).int?.bind _ = _; rw [int_mp, h1]; exact lget_tr h
  | str x =>
    exact bindE h fun j h1 h => by
      show (i.mp e).int?.bind _ = _
      rw [int_mp, h1]
      obtain ⟨z, h1, h2⟩ := Option.map_eq_some_iff.mp (iteS h fun _ h => h)
      exact iteS h fun hj h => (if_pos hj).trans (by rw [h1, ← h2]; rfl)
  | hnd k => exact bindE h fun o h1 h => by show (b[e k]?).bind _ = _; rw [S.get _ _ h1]; exact getO_tr h
  | _ => exact noS h
theorem mpP_length {κ : Type} (l : List (κ × V)) : (mpP e l).length = l.length := by unfold mpP; rw [List.length_map]
theorem mpP_any {κ : Type} (f : κ → Bool) (l : List (κ × V)) : (mpP e l).any (fun p => f p.1) = l.any (fun p => f p.1) := by
  unfold mpP; rw [List.any_map]; rfl
theorem putD_mp {κ : Type} [DecidableEq κ] (k : κ) (y : V) (fs : List (κ × V)) : mpP e (putD k y fs) = putD k (y.mp e) (mpP e fs) := by
  unfold putD
  have : (mpP e fs).any (fun p => decide (p.1 = k)) = fs.any (fun p => decide (p.1 = k)) := mpP_any (fun q => decide (q = k)) fs
  rw [this]
  split
  · unfold mpP
    rw [List.map_map, List.map_map]
    refine List.map_congr_left fun p _ => ?_
    simp only [Function.comp]
    split <;> rfl
  · unfold mpP; rw [List.map_append]; rfl
theorem putF_mp (x : Str) (y : V) : ∀ fs : List (Str × V), mpP e (putF x y fs) = putF x (y.mp e) (mpP e fs)
  | [] => rfl
  | (x', y') :: r => by
    unfold putF
    show _ = putF x (y.mp e) ((x', y'.mp e) :: mpP e r)
    conv => rhs; unfold putF
    split
    · rfl
    · show (x', y'.mp e) :: mpP e (putF x y r) = _
      rw [putF_mp x y r]
theorem mps_set (l : List V) (i : Nat) (u : V) : V.mps e (l.set i u) = (V.mps e l).set i (u.mp e) := by rw [mps_map, mps_map, List.map_set]
theorem setO_tr {i u : V} {o o' : O} (h : setO i u o = some o') : setO (i.mp e) (u.mp e) (o.mp e) = some (o'.mp e) := by
  cases o with
  | list l =>
    exact bindE h fun j h1 h => iteS h fun hc h => by
      show (i.mp e).int?.bind _ = _
      rw [int_mp, h1, ← sInj h]
      show (if 0 ≤ j ∧ j < (V.mps e l).length ∧ (V.mps e l).length ≤ sizeLine then _ else none) = _
      rw [mps_length, if_pos hc, ← mps_set]; rfl
  | sdict fs =>
    exact iteS h fun hc h => by
      show (if (mpP e fs).length ≤ sizeLine then _ else none) = _
      rw [mpP_length, if_pos hc]
      cases i with
      | str x => rw [← sInj h]; exact congrArg (fun l => some (O.sdict l)) (putD_mp _ _ _).symm
      | int j =>
        exact iteS h fun h0 h => by
          rw [List.isEmpty_iff.mp h0, ← sInj h]; rfl
      | _ => exact noS h
  | idict fs =>
    exact bindE h fun j h1 h => iteS h fun hc h => by
      show (i.mp e).int?.bind _ = _
      rw [int_mp, h1, ← sInj h]
      show (if (mpP e fs).length ≤ sizeLine then _ else none) = _
      rw [mpP_length, if_pos hc]
      exact congrArg (fun l => some (O.idict l)) (putD_mp _ _ _).symm
  | _ => exact noS h
theorem setO_tab {i u : V} {o o' : O} (h : setO i u o = some o') (q : Str) : o' ≠ .tab q := by
  cases o with
  | list l => exact bindE h fun j h1 h => iteS h fun hc h => sInj h ▸ nofun
  | sdict fs =>
    exact iteS h fun hc h => by
      cases i with
      | str x => exact sInj h ▸ nofun
      | int j => exact iteS h fun h0 h => sInj h ▸ nofun
      | _ => exact noS h
  | idict fs => exact bindE h fun j h1 h => iteS h fun hc h => sInj h ▸ nofun
  | _ => exact noS h
theorem setItV_tr (S : Sim N e a b) {y i u : V} {a' : Sto} (h : setItV y i u a = some a') : ∃ b', setItV (y.mp e) (i.mp e) (u.mp e) b = some b' ∧ Nx N e a b a' b' := by
  refine bindE h fun k h1 h => bindE h fun o hk h => ?_
  obtain ⟨o', h2, h3⟩ := Option.map_eq_some_iff.mp h
  refine ⟨b.set (e k) (o'.mp e), ?_, h3 ▸ S.put _ (lt_of_get hk) (setO_tab h2)⟩
  unfold setItV
  rw [hnd_mp, h1]
  show (b[e k]?).bind _ = _
  rw [S.get _ _ hk]
  show (setO _ _ (o.mp e)).map _ = _
  rw [setO_tr h2]; rfl
theorem lenV_tr (S : Sim N e a b) {y : V} {n : Int} (h : lenV y a = some n) : lenV (y.mp e) b = some n := by
  cases y with
  | tup l => exact iteS h fun hl h => by show (if (V.mps e l).length ≤ sizeLine then some ((V.mps e l).length : Int) else none) = _; rw [mps_length, if_pos hl]; exact h
  | hnd k =>
    exact bindE h fun o hk h => by
      show (b[e k]?).bind lenO = _
      rw [S.get _ _ hk]
      cases o with
      | list l => exact iteS h fun hl h => by show (if (V.mps e l).length ≤ sizeLine then some ((V.mps e l).length : Int) else none) = _; rw [mps_length, if_pos hl]; exact h
      | _ => exact noS h
  | _ => first | exact h | exact noS h
theorem pickV_mp (l : List V) (lo hi st : Option Int) : pickV (V.mps e l) lo hi st = V.mps e (pickV l lo hi st) := by
  unfold pickV
  rw [mps_length]
  generalize sliceRange _ _ _ = is
  rw [mps_map (List.filterMap _ _), List.map_filterMap]
  congr 1
  funext i
  rw [mps_get?]
theorem partV_mp {y : V} {o : Option Int} (h : partV y = some o) : partV (y.mp e) = some o := by
  unfold partV at h
  split at h
  · exact h
  · exact h
  · exact noS h
theorem getDV_tr (S : Sim N e a b) {y i d z : V} (h : getDV y i d a = some z) : getDV (y.mp e) (i.mp e) (d.mp e) b = some (z.mp e) := by
  refine bindE h fun k h1 h => bindE h fun o h2 h => ?_
  rw [V.hnd_of h1]
  show (b[e k]?).bind _ = _
  rw [S.get _ _ h2]
  cases o with
  | sdict fs =>
    exact mapE h fun x h3 h => by
      show ((i.mp e).str?).map _ = _
      rw [str_mp, h3, ← h]
      show some (((mpP e fs).lookup x).getD (d.mp e)) = _
      rw [mpP_lookup]
      cases fs.lookup x <;> rfl
  | idict fs =>
    exact mapE h fun x h3 h => by
      show ((i.mp e).int?).map _ = _
      rw [int_mp, h3, ← h]
      show some (((mpP e fs).lookup x).getD (d.mp e)) = _
      rw [mpP_lookup]
      cases fs.lookup x <;> rfl
  | _ => exact noS h
theorem notBi_mp (y : V) : notBi (y.mp e) = notBi y := by cases y <;> rfl
theorem fldO_tr {G : Pg} {x : Str} {o : O} {z : V} (h : fldO G x o = some z) : fldO G x (o.mp e) = some (z.mp e) := by
  refine fldO_some h fun C fs h1 h2 h3 h4 => ?_
  rw [h1]
  show (if (G.flds C).contains x then ((mpP e fs).lookup x).bind _ else none) = _
  rw [if_pos (List.contains_iff_mem.mpr h2), mpP_lookup, h3]
  show (if notBi (z.mp e) then some (z.mp e) else none) = _
  rw [notBi_mp, if_pos h4]
theorem attrM_tr {G : Pg} {x : Str} (S : Sim N e a b) {y z : V} (h : attrM G x y a = some z) : attrM G x (y.mp e) b = some (z.mp e) := by
  refine bindE h fun k h1 h => bindE h fun o h2 h => ?_
  unfold attrM
  rw [hnd_mp, h1]
  show (b[e k]?).bind _ = _
  rw [S.get _ _ h2]
  exact fldO_tr h
theorem methO_tr {G : Pg} {x : Str} {y : V} {o : O} {z : V × List V} (h : methO G x y o = some z) : methO G x (y.mp e) (o.mp e) = some (z.1.mp e, V.mps e z.2) := by
  cases o with
  | list l => exact iteT h (fun _ h => sInj h ▸ rfl) fun _ h => iteT h (fun _ h => sInj h ▸ rfl) fun _ h => noS h
  | sdict l => exact iteT h (fun _ h => sInj h ▸ rfl) fun _ h => noS h
  | idict l => exact iteT h (fun _ h => sInj h ▸ rfl) fun _ h => noS h
  | inst C fs =>
    have h : methI G x y C fs = some z := h
    show methI G x (y.mp e) C (mpP e fs) = _
    unfold methI at h ⊢
    rw [mpP_lookup]
    cases hz : fs.lookup x with
    | some w =>
      rw [hz] at h
      show (if (G.flds C).contains x && notBi (w.mp e) then some (w.mp e, []) else none) = _
      rw [notBi_mp]
      exact iteT h (fun _ h => sInj h ▸ rfl) fun _ h => noS h
    | none =>
      rw [hz] at h
      exact mapE h fun f h1 h => by
        show (G.meth C x).map _ = _
        rw [h1, ← h]; rfl
  | _ => exact noS h
theorem methM_tr {G : Pg} {x : Str} (S : Sim N e a b) {y : V} {z : V × List V} (h : methM G x y a = some z) : methM G x (y.mp e) b = some (z.1.mp e, V.mps e z.2) := by
  refine bindE h fun k h1 h => bindE h fun o h2 h => ?_
  unfold methM
  rw [hnd_mp, h1]
  show (b[e k]?).bind _ = _
  rw [S.get _ _ h2]
  exact methO_tr h
theorem putFld_tr {G : Pg} {x : Str} {u : V} {o o' : O} (h : putFld G x u o = some o') : putFld G x (u.mp e) (o.mp e) = some (o'.mp e) ∧ ∀ q, o' ≠ .tab q := by
  cases o with
  | inst C fs =>
    refine iteS h fun hc h => ⟨?_, sInj h ▸ nofun⟩
    show (if (G.flds C).contains x && decide ((mpP e fs).length ≤ 900) then some (O.inst C (putF x (u.mp e) (mpP e fs))) else none) = _
    rw [mpP_length, if_pos hc, ← putF_mp, ← sInj h]; rfl
  | _ => exact noS h
theorem setAttrM_tr {G : Pg} {x : Str} {y u : V} : Tr N e id (setAttrM G x y u) (setAttrM G x (y.mp e) (u.mp e)) := by
  intro a b r a' S h hl
  refine bindE h fun k h1 h => bindE h fun o hk h => mapE h fun o' h2 h3 => ?_
  obtain ⟨z1, z2⟩ := Prod.mk.inj h3
  obtain ⟨h4, h5⟩ := putFld_tr (e := e) h2
  refine ⟨b.set (e k) (o'.mp e), ?_, z2 ▸ S.put _ (lt_of_get hk) h5⟩
  unfold setAttrM
  rw [hnd_mp, h1]
  show (b[e k]?).bind _ = _
  rw [S.get _ _ hk]
  show (putFld G x (u.mp e) (o.mp e)).map _ = _
  rw [h4, ← z1]; rfl
theorem callable_tr {G : Pg} {f : V} (S : Sim N e a b) (h : callable G f a = true) : callable G (f.mp e) b = true := by
  cases f with
  | hnd k =>
    obtain ⟨o, hk, h1⟩ := mapD h
    show ((b[e k]?).map callO).getD false = _
    rw [S.get _ _ hk]
    cases o <;> first | rfl | exact noB h1
  | _ => first | exact h | exact noB h
theorem arg1_mp {l : List V} {x : V} (h : arg1 l = some x) : arg1 (V.mps e l) = some (x.mp e) := by rw [arg1_of h]; rfl
theorem arg2_mp {l : List V} {x : V × V} (h : arg2 l = some x) : arg2 (V.mps e l) = some (x.1.mp e, x.2.mp e) := by rw [arg2_of h]; rfl
theorem arg3_mp {l : List V} {x : V × V × V} (h : arg3 l = some x) : arg3 (V.mps e l) = some (x.1.mp e, x.2.1.mp e, x.2.2.mp e) := by rw [arg3_of h]; rfl
theorem int1_mp (l : List V) : int1 (V.mps e l) = int1 l := by
  cases l with
  | nil => rfl
  | cons a l => cases l with
    | nil => exact int_mp a
    | cons b l => rfl
theorem int2_mp (l : List V) : int2 (V.mps e l) = int2 l := by
  cases l with
  | nil => rfl
  | cons a l => cases l with
    | nil => rfl
    | cons b l => cases l with
      | nil => show ((a.mp e).int?.bind fun x => (b.mp e).int?.bind fun y => some (x, y)) = _; rw [int_mp, int_mp]; rfl
      | cons c l => rfl
theorem int3_mp (l : List V) : int3 (V.mps e l) = int3 l := by
  cases l with
  | nil => rfl
  | cons a l => cases l with
    | nil => rfl
    | cons b l => cases l with
      | nil => rfl
      | cons c l => cases l with
        | nil => show ((a.mp e).int?.bind fun x => (b.mp e).int?.bind fun y => (c.mp e).int?.bind fun z => some (x, y, z)) = _; rw [int_mp, int_mp, int_mp]; rfl
        | cons d l => rfl
theorem mapI {α : Type} {o : Option α} {f : α → V} {y : V} (hf : ∀ x, (f x).mp e = f x) (h : o.map f = some y) : o.map f = some (y.mp e) := mapE h fun d h1 h2 => by rw [h1, ← h2, hf]; rfl
theorem tupP_tr (S : Sim N e a b) {x y : V} (h : tupP x a = some y) : tupP (x.mp e) b = some (y.mp e) := by
  unfold tupP
  refine orE h (fun h => mapE h fun l h1 h2 => ?_) fun h => bindE h fun k h1 h => bindE h fun l h2 h => iteS h fun hl h => ?_
  · rw [V.tup_of h1, ← h2]; rfl
  · rw [V.hnd_of h1]
    show ((lstAt b (e k)).bind fun l => if l.length ≤ 16384 then some (V.tup l) else none) = _
    rw [lstAt_tr S h2]
    show (if (V.mps e l).length ≤ 16384 then _ else none) = _
    rw [mps_length, if_pos hl, ← sInj h]; rfl
theorem biP_tr {q : Bool} {id : String} {args : List V} (S : Sim N e a b) {y : V} (h : biP q id args a = some y) : biP q id (V.mps e args) b = some (y.mp e) := by
  unfold biP
  rw [int1_mp, int2_mp]
  refine iteT h (fun _ h => bindE h fun x h1 h => mapE h fun n h2 h => ?_) fun _ h => iteT h (fun _ h => mapI (fun _ => rfl) h) fun _ h => iteT h (fun _ h => iteT h (fun _ h => mapI (fun _ => rfl) h) fun _ h => noS h) fun _ h => iteT h (fun _ h => iteT h (fun _ h => mapI (fun _ => rfl) h) fun _ h => noS h) fun _ h => noS h
  rw [arg1_mp h1]
  show (lenV (x.mp e) b).map V.int = _
  rw [lenV_tr S h2, ← h]; rfl
theorem tyP_tr {id : String} {args : List V} (S : Sim N e a b) {y : V} (h : tyP id args a = some y) : tyP id (V.mps e args) b = some (y.mp e) := by
  unfold tyP rngP
  rw [int1_mp, int2_mp, int3_mp]
  refine iteT h (fun _ h => mapI (fun _ => rfl) h) fun _ h => iteT h (fun _ h => ?_) fun _ h => iteT h (fun _ h => bindE h fun x h1 h => ?_) fun _ h => noS h
  · rw [show y.mp e = y from orE h (fun h => mapE h fun _ _ h => h ▸ rfl) fun h => orE h (fun h => mapE h fun _ _ h => h ▸ rfl) fun h => bindE h fun _ _ h => iteE h (fun _ h => noS h) fun _ h => sInj h ▸ rfl]
    exact h
  · rw [arg1_mp h1]
    exact tupP_tr S h
theorem callB_tr {q : Bool} {f : V} {args : List V} (S : Sim N e a b) {y : V} {a' : Sto} (h : callB q f args a = some (y, a')) : a' = a ∧ callB q (f.mp e) (V.mps e args) b = some (y.mp e, b) := by
  cases f with
  | bi id => exact mapE h fun z h1 h2 => ⟨(Prod.mk.inj h2).2.symm, by show (biP q id (V.mps e args) b).map _ = _; rw [biP_tr S h1, ← (Prod.mk.inj h2).1]; rfl⟩
  | ty id => exact mapE h fun z h1 h2 => ⟨(Prod.mk.inj h2).2.symm, by show (tyP id (V.mps e args) b).map _ = _; rw [tyP_tr S h1, ← (Prod.mk.inj h2).1]; rfl⟩
  | _ => exact noS h
theorem newO_tr {o : O} (ho : ∀ q, o ≠ .tab q) : Tr N e (V.mp e) (newO o) (newO (o.mp e)) := by
  intro a b r a' S h hl
  induction h using E2
  exact ⟨_, by unfold newO; rw [show Except.map (V.mp e) (Except.ok (.hnd a.length) : Except Addr V) = .ok (.hnd (e a.length)) from rfl, S.at (by simp at hl; lia)], S.push o hl ho⟩
theorem getLast_mps (l : List V) : (V.mps e l).getLast? = l.getLast?.map (V.mp e) := by rw [mps_map, List.getLast?_map]
theorem dropLast_mps (l : List V) : (V.mps e l).dropLast = V.mps e l.dropLast := by rw [mps_map, mps_map, List.map_dropLast]
theorem callD_tr {q : Bool} {f : V} {args : List V} (S : Sim N e a b) {p : V × Sto} (hl : p.2.length ≤ N) (h : callD q f args a = some p) : ∃ b', callD q (f.mp e) (V.mps e args) b = some (p.1.mp e, b') ∧ Nx N e a b p.2 b' := by
  have hB : callB q f args a = some p → ∃ b', callB q (f.mp e) (V.mps e args) b = some (p.1.mp e, b') ∧ Nx N e a b p.2 b' := fun h => by
    obtain ⟨h1, h2⟩ := callB_tr S (y := p.1) (a' := p.2) h
    exact ⟨b, h2, h1.symm ▸ .refl S⟩
  cases f with
  | bi id =>
    refine iteE h (fun hid h => bindE h fun u h1 h => bindE h fun k h2 h => bindE h fun l h3 h => iteS h fun hn h => ?_) fun n1 h => iteE h (fun hid h => bindE h fun u h1 h => bindE h fun k h2 h => bindE h fun l h3 h => iteS h fun hn h => mapE h fun y hy h => ?_) fun n2 h => iteE h (fun hid h => bindE h fun u h1 h => mapE h fun z h2 h => ?_) fun n3 h => ?_
    · refine ⟨b.set (e k) (O.mp e (.list (l ++ [u.2]))), ?_, sInj h ▸ S.put _ (lt_of_get (lstAt_of h3)) nofun⟩
      show (if id = "list.append" then appP (V.mps e args) b else _) = _
      rw [if_pos hid]
      unfold appP
      rw [arg2_mp h1]
      show ((u.1.mp e).hnd?).bind _ = _
      rw [hnd_mp, h2]
      show (lstAt b (e k)).bind _ = _
      rw [lstAt_tr S h3]
      show (if (V.mps e l).length ≤ sizeLine then _ else none) = _
      rw [mps_length, if_pos hn, ← sInj h, O.mp, mps_append]; rfl
    · refine ⟨b.set (e k) (O.mp e (.list l.dropLast)), ?_, h ▸ S.put _ (lt_of_get (lstAt_of h3)) nofun⟩
      show (if id = "list.append" then _ else if id = "list.pop" then popP (V.mps e args) b else _) = _
      rw [if_neg n1, if_pos hid]
      unfold popP
      rw [arg1_mp h1]
      show ((u.mp e).hnd?).bind _ = _
      rw [hnd_mp, h2]
      show (lstAt b (e k)).bind _ = _
      rw [lstAt_tr S h3]
      show (if (V.mps e l).length ≤ sizeLine then _ else none) = _
      rw [mps_length, if_pos hn, getLast_mps, hy, dropLast_mps, ← h]; rfl
    · refine ⟨b, ?_, h ▸ .refl S⟩
      show (if id = "list.append" then _ else if id = "list.pop" then _ else if id = "dict.get" then (arg3 (V.mps e args)).bind _ else _) = _
      rw [if_neg n1, if_neg n2, if_pos hid, arg3_mp h1]
      show (getDV (u.1.mp e) (u.2.1.mp e) (u.2.2.mp e) b).map _ = _
      rw [getDV_tr S h2, ← h]; rfl
    · obtain ⟨b', h1, N1⟩ := hB h
      refine ⟨b', ?_, N1⟩
      show (if id = "list.append" then _ else if id = "list.pop" then _ else if id = "dict.get" then _ else callB q (.bi id) (V.mps e args) b) = _
      rw [if_neg n1, if_neg n2, if_neg n3]; exact h1
  | ty id =>
    refine iteE h (fun hid h => bindE h fun u h1 h => bindE h fun k h2 h => bindE h fun l h3 h => iteS h fun hn h => ?_) fun n1 h => ?_
    · rw [← sInj h] at hl ⊢
      refine ⟨_, ?_, S.push (.sdict l) hl nofun⟩
      show (if id = "dict" then dupP (V.mps e args) b else _) = _
      rw [if_pos hid]
      unfold dupP
      rw [arg1_mp h1]
      show ((u.mp e).hnd?).bind _ = _
      rw [hnd_mp, h2]
      show (dicAt b (e k)).bind _ = _
      rw [dicAt_tr S h3]
      show (if (mpP e l).length ≤ sizeLine then _ else none) = _
      rw [mpP_length, if_pos hn, ← S.at (by simp at hl; lia)]; rfl
    · obtain ⟨b', h1, N1⟩ := hB h
      refine ⟨b', ?_, N1⟩
      show (if id = "dict" then _ else callB q (.ty id) (V.mps e args) b) = _
      rw [if_neg n1]; exact h1
  | _ => exact noS h
theorem callC_tr {q : Bool} {f : V} {args : List V} : Tr N e (V.mp e) (callC q f args) (callC q (f.mp e) (V.mps e args)) := by
  intro a b r a' S h hl
  refine mapE h fun p h1 h2 => ?_
  obtain ⟨z1, z2⟩ := Prod.mk.inj h2
  obtain ⟨b', h3, N1⟩ := callD_tr S (z2.symm ▸ hl) h1
  refine ⟨b', ?_, z2 ▸ N1⟩
  show (callD q (f.mp e) (V.mps e args) b).map _ = _
  rw [h3, ← z1]; rfl
theorem binL_hnd {op : Operator} {x y z : V} {b : Sto} (h : binV op x y = some z) : binL op (x.mp e) (y.mp e) b = none := by
  cases x <;> first | rfl | exact noS h
theorem binM_tr {op : Operator} {x y : V} : Tr N e (V.mp e) (binM op x y) (binM op (x.mp e) (y.mp e)) := by
  intro a b r a' S h hl
  unfold binM at h
  cases h1 : binL op x y a with
  | some l =>
    rw [h1] at h
    refine bindE h1 fun i g1 h1 => bindE h1 fun j g2 h1 => bindE h1 fun l g3 h1 => bindE h1 fun l' g4 h1 => iteS h1 fun hn h1 => ?_
    have : binL op (x.mp e) (y.mp e) b = some (V.mps e l ++ V.mps e l') := by
      unfold binL
      rw [hnd_mp, hnd_mp, g1, g2]
      dsimp only [Option.map_some, Option.bind_some]
      rw [lstAt_tr S g3, lstAt_tr S g4]
      dsimp only [Option.bind_some]
      rw [mps_length, mps_length, if_pos hn]
    unfold binM
    rw [this, ← mps_append, sInj h1]
    exact newO_tr (by intro q z; cases z) a b r a' S h hl
  | none =>
    rw [h1] at h
    obtain ⟨z, h2, h3⟩ := ofOpt_some h
    unfold binM
    rw [binL_hnd h2]
    exact Tr.ofOpt (fun y h => binV_tr h) a b r a' S h hl
theorem seqAt_tr (S : Sim N e a b) {x : V} {l : List V} (h : seqAt x a = some l) : seqAt (x.mp e) b = some (V.mps e l) := by
  cases x with
  | hnd k => exact lstAt_tr S h
  | lstK l => rw [← sInj h]; rfl
  | _ => exact noS h
theorem sliceM_tr {x lo hi st : V} : Tr N e (V.mp e) (sliceM x lo hi st) (sliceM (x.mp e) (lo.mp e) (hi.mp e) (st.mp e)) := by
  intro a b r a' S h hl
  refine bindE h fun L h1 h => bindE h1 fun l g1 h1 => bindE h1 fun lo' g2 h1 => bindE h1 fun hi' g3 h1 => bindE h1 fun st' g4 h1 => iteS h1 fun hz h1 => ?_
  have : sliceV (x.mp e) (lo.mp e) (hi.mp e) (st.mp e) b = some (V.mps e L) := by
    unfold sliceV
    rw [seqAt_tr S g1, partV_mp g2, partV_mp g3, partV_mp g4]
    dsimp only [Option.bind_some]
    rw [mps_length, if_pos hz, pickV_mp, sInj h1]
  unfold sliceM
  rw [this]
  exact newO_tr (by intro q z; cases z) a b r a' S h hl
end
mutual
def flatV : V → Bool
  | .tup l => flatVs l
  | .hnd _ => false
  | .lstK l => flatVs l
  | .none | .bool _ | .int _ | .str _ | .glob _ | .bi _ | .ty _ | .rng _ _ _ => true
def flatVs : List V → Bool
  | [] => true
  | y :: r => flatV y && flatVs r
end
section
variable {N : Nat} {e : Nat → Nat} {a b : Sto}
mutual
theorem flat_mp : ∀ {y : V}, flatV y = true → y.mp e = y
  | .tup l, h => by rw [V.mp, flat_mps (by rw [flatV] at h; exact h)]
  | .lstK l, h => by rw [V.mp, flat_mps (by rw [flatV] at h; exact h)]
  | .hnd _, h => by rw [flatV] at h; cases h
  | .none, _ => rfl
  | .bool _, _ => rfl
  | .int _, _ => rfl
  | .str _, _ => rfl
  | .glob _, _ => rfl
  | .bi _, _ => rfl
  | .ty _, _ => rfl
  | .rng _ _ _, _ => rfl
theorem flat_mps : ∀ {l : List V}, flatVs l = true → V.mps e l = l
  | [], _ => rfl
  | y :: r, h => by
    rw [flatVs, Bool.and_eq_true] at h
    rw [V.mps, flat_mp h.1, flat_mps h.2]
end
def GFlat (G : Pg) : Prop := ∀ x y, G.gl x = some y → flatV y = true
theorem constV_mp {x : Const} {y : V} (h : constV x = some y) : constV x = some (y.mp e) := by
  cases x <;> first | exact noS h | exact sInj h ▸ rfl
theorem celV_tr (S : Sim N e a b) {CL : List (Str × Nat)} {x : Str} {y : V} (h : celV CL x a = some y) : celV (mpC e CL) x b = some (y.mp e) :=
  bindE h fun k h1 h => bindE h fun o h2 h => by
    unfold celV
    rw [mpC_lookup, h1]
    show (b[e k]?).bind _ = _
    rw [S.get _ _ h2]
    cases o with
    | cell v => rw [show v = some y from h]; rfl
    | _ => exact noS h
theorem nameM_tr {G : Pg} (hG : GFlat G) {sc : Scope} {CL : List (Str × Nat)} {ρ : Loc} {x : Str} : Tr N e (V.mp e) (nameM G sc CL ρ x) (nameM G sc (mpC e CL) (mpP e ρ) x) := by
  intro a b r a' S h hl
  refine mapE h fun y h h2 => iteE h (fun _ h => noS h) fun hx h => bindE h fun kd hk h => ?_
  have : nameK G (mpC e CL) (mpP e ρ) x b kd = some (y.mp e) := by
    cases kd with
    | «local» => show (mpP e ρ).lookup x = _; rw [mpP_lookup, show ρ.lookup x = _ from h]; rfl
    | cell => exact celV_tr S h
    | free => exact celV_tr S h
    | globalImplicit => rw [flat_mp (hG _ _ h)]; exact h
    | _ => exact noS h
  obtain ⟨z1, z2⟩ := Prod.mk.inj h2
  refine ⟨b, ?_, z2 ▸ .refl S⟩
  unfold nameM
  rw [if_neg hx, hk, ← z1]
  show (nameK G (mpC e CL) (mpP e ρ) x b kd).map _ = _
  rw [this]; rfl
theorem storeM_tr {sc : Scope} {CL : List (Str × Nat)} {ρ : Loc} {x : Str} {y : V} : Tr N e (mpP e) (storeM sc CL x y ρ) (storeM sc (mpC e CL) x (y.mp e) (mpP e ρ)) := by
  intro a b r a' S h hl
  refine storeM_some h (fun hk h => ?_) fun k o hk hc ho hcell h => ?_
  · obtain ⟨z1, z2⟩ := Prod.mk.inj h
    unfold storeM
    rw [hk, ← putF_mp, ← z1, ← z2]
    exact ⟨b, rfl, .refl S⟩
  · obtain ⟨z1, z2⟩ := Prod.mk.inj h
    rw [← z1, ← z2]
    refine ⟨_, ?_, S.put (.cell (some y)) (lt_of_get ho) nofun⟩
    unfold storeM
    rw [hk]
    show ((mpC e CL).lookup x).bind _ = _
    rw [mpC_lookup, hc]
    show (b[e k]?).bind _ = _
    rw [S.get _ _ ho]
    cases o <;> first | rfl | exact noB hcell
def Up {α : Type} (m : M α) : Prop := ∀ a r a', m a = some (r, a') → a.length ≤ a'.length
theorem Tr.bind {α β γ δ : Type} {mp : α → β} {mq : γ → δ} {m : M α} {m' : M β} {f : α → M γ} {f' : β → M δ} (h1 : Tr N e mp m m') (h2 : ∀ y, Tr N e mq (f y) (f' (mp y))) (hu : ∀ y, Up (f y)) : Tr N e mq (M.bind m f) (M.bind m' f') := by
  intro a b r a' S h hl
  refine M.elim h (fun y a1 e1 h => ?_) fun C a1 e1 h => ?_
  · obtain ⟨b1, e2, N1⟩ := h1 _ _ _ _ S e1 (Nat.le_trans (hu _ _ _ _ h) hl)
    obtain ⟨b2, e3, N2⟩ := h2 y _ _ _ _ N1.S h hl
    refine ⟨b2, ?_, N1.trans S N2⟩
    unfold M.bind
    rw [e2]; exact e3
  · obtain ⟨z1, z2⟩ := Prod.mk.inj h
    rw [← z2] at hl ⊢
    obtain ⟨b1, e2, N1⟩ := h1 _ _ _ _ S e1 hl
    refine ⟨b1, ?_, N1⟩
    unfold M.bind
    rw [e2, ← z1]; rfl
theorem storeM_up {sc : Scope} {CL : List (Str × Nat)} {ρ : Loc} {x : Str} {y : V} : Up (storeM sc CL x y ρ) := fun a r a' h =>
  storeM_some h (fun _ h => (Prod.mk.inj h).2 ▸ Nat.le_refl _) fun _ _ _ _ _ _ h => (Prod.mk.inj h).2 ▸ Nat.le_of_eq List.length_set.symm
theorem storesM_up {sc : Scope} {CL : List (Str × Nat)} : ∀ (xs : List Str) (ys : List V) (ρ : Loc), Up (storesM sc CL xs ys ρ)
  | [], [], ρ => fun a r a' h => (Prod.mk.inj (sInj h)).2 ▸ Nat.le_refl _
  | x :: xs, y :: ys, ρ => fun a r a' h => M.elim (f := fun ρ' => storesM sc CL xs ys ρ') h (fun ρ' a1 e1 h => Nat.le_trans (storeM_up _ _ _ e1) (storesM_up xs ys _ _ _ _ h)) fun C a1 e1 h => (Prod.mk.inj h).2 ▸ storeM_up _ _ _ e1
  | [], _ :: _, ρ => fun a r a' h => noS h
  | _ :: _, [], ρ => fun a r a' h => noS h
theorem storesM_tr {sc : Scope} {CL : List (Str × Nat)} : ∀ (xs : List Str) (ys : List V) (ρ : Loc), Tr N e (mpP e) (storesM sc CL xs ys ρ) (storesM sc (mpC e CL) xs (V.mps e ys) (mpP e ρ))
  | [], [], ρ => .pure
  | x :: xs, y :: ys, ρ => .bind storeM_tr (fun ρ' => storesM_tr xs ys ρ') fun ρ' => storesM_up xs ys ρ'
  | [], _ :: _, ρ => .stop
  | _ :: _, [], ρ => .stop
theorem unpackM_tr {sc : Scope} {CL : List (Str × Nat)} {xs : List Str} {y : V} {ρ : Loc} : Tr N e (mpP e) (unpackM sc CL xs y ρ) (unpackM sc (mpC e CL) xs (y.mp e) (mpP e ρ)) := by
  intro a b r a' S h hl
  refine bindE h fun l h1 h => iteS h fun hn h => ?_
  obtain ⟨b', h2, N1⟩ := storesM_tr xs l ρ a b r a' S h hl
  refine ⟨b', ?_, N1⟩
  unfold unpackM
  rw [tup_mp, h1]
  show (if (V.mps e l).length = xs.length then _ else none) = _
  rw [mps_length, if_pos hn]; exact h2
def It.mp (e : Nat → Nat) : It → It
  | .lst k => .lst (e k)
  | .tup l => .tup (V.mps e l)
  | .rng a n c => .rng a n c
  | .dk k => .dk (e k)
theorem itOf_tr (S : Sim N e a b) {y : V} {it : It} (h : itOf y a = some it) : itOf (y.mp e) b = some (it.mp e) := by
  cases y with
  | hnd k =>
    exact bindE h fun o hk h => by
      show (b[e k]?).bind _ = _
      rw [S.get _ _ hk]
      cases o with
      | list l => exact sInj h ▸ rfl
      | sdict l => exact iteS h fun hc h => by rw [List.isEmpty_iff.mp hc, ← sInj h]; rfl
      | _ => exact noS h
  | tup l => exact sInj h ▸ rfl
  | rng x y z => exact iteS h fun hc h => (if_pos hc).trans (sInj h ▸ rfl)
  | _ => exact noS h
theorem itM_tr (S : Sim N e a b) {it : It} {i : Nat} {o : Option V} (h : itM it i a = some o) : itM (it.mp e) i b = some (o.map (V.mp e)) := by
  cases it with
  | lst k =>
    exact mapE h fun l h1 h => by
      show (lstAt b (e k)).map _ = _
      rw [lstAt_tr S h1, ← h]
      exact congrArg some (mps_get? ..)
  | tup l =>
    rw [← sInj h]
    exact congrArg some (mps_get? ..)
  | rng x y z =>
    rw [← sInj h]
    show some (if (i : Int) < y then some (V.int (x + i * z)) else none) = _
    split <;> rfl
  | dk k => rw [← sInj h]; rfl
theorem clos_mp {cells : List (Str × Nat)} (l : List (Str × NameKind)) : ∀ (acc out : List (Str × Nat)), clos cells l acc = some out → clos (mpC e cells) l (mpC e acc) = some (mpC e out) := by
  induction l with
  | nil => exact fun acc out h => sInj h ▸ rfl
  | cons p r ih =>
    intro acc out h
    unfold clos
    refine iteT h (fun _ h => bindE h fun a h1 h => ?_) fun _ h => ih _ _ h
    rw [mpC_lookup, h1]
    exact ih _ _ h
theorem lamM_tr {ti : Option Nat} {CL : List (Str × Nat)} {params : Arguments} {body : Expr} {sc : Scope} {qual : Str} : Tr N e (V.mp e) (lamM ti CL params body sc qual) (lamM ti (mpC e CL) params body sc qual) := by
  intro a b r a' S h hl
  refine bindE h fun cl h1 h => bindE h1 fun t ht h1 => bindE h1 fun o ho h1 => bindE h1 fun qq hq h1 => iteS h1 fun hc hcl => ?_
  have : lamC ti (mpC e CL) params sc qual b = some (mpC e cl) := by
    cases o with
    | tab q' =>
      have g := S.get _ _ ho
      rw [S.fix _ _ ho] at g
      unfold lamC
      rw [ht]
      show (b[t]?).bind _ = _
      rw [g]
      show (if q' = qual ∧ lamOk params sc = true then clos (mpC e CL) sc.names [] else none) = _
      rw [if_pos (sInj hq ▸ hc)]
      exact clos_mp (e := e) _ _ _ hcl
    | _ => exact noS hq
  unfold lamM
  rw [this]
  exact newO_tr (by intro q z; cases z) a b r a' S h hl
theorem hitsV_mp (g : List (Str × V)) : ∀ (f : List (Str × V)), hitsV (mpP e g) (mpP e f) = hitsV g f
  | [] => rfl
  | (k, v) :: r => by
    show hitsV (mpP e g) ((k, v.mp e) :: mpP e r) = _
    unfold hitsV
    rw [mpP_lookup, hitsV_mp g r]
    cases g.lookup k with
    | none => rfl
    | some y => dsimp only [Option.map_some]; rw [eq0_mp]
theorem eqD_tr (S : Sim N e a b) {j k : Nat} {t : Bool} (h : eqD a j k = some t) : eqD b (e j) (e k) = some t := by
  refine bindE h fun f h1 h => bindE h fun g h2 h => ?_
  unfold eqD
  rw [dicAt_tr S h1, dicAt_tr S h2]
  dsimp only [Option.bind_some]
  rw [mpP_length, mpP_length, hitsV_mp]; exact h
theorem eqD_lt {j k : Nat} {t : Bool} (h : eqD a j k = some t) : j < a.length ∧ k < a.length := bindE h fun _ h1 h => bindE h fun _ h2 _ => ⟨lt_of_get (dicAt_of h1), lt_of_get (dicAt_of h2)⟩
theorem eqEl_tr (S : Sim N e a b) {y z : V} {t : Bool} (h : eqEl a y z = some t) : eqEl b (y.mp e) (z.mp e) = some t := by
  unfold eqEl
  rw [hnd_mp, hnd_mp, eq0_mp]
  refine orE h (fun h => bindE h fun j h1 h => bindE h fun k h2 h => ?_) fun h => ?_
  · rw [h1, h2]
    dsimp only [Option.map_some, Option.bind_some]
    refine iteE h (fun hjk h => ?_) fun hjk h => ?_
    · rw [if_pos (congrArg e hjk), h]; rfl
    · have hb := eqD_lt h
      rw [if_neg fun z => hjk (S.inj _ _ (Nat.lt_of_lt_of_le hb.1 S.len) (Nat.lt_of_lt_of_le hb.2 S.len) z), eqD_tr S h]; rfl
  · rw [h]
    have : y.hnd? = none := by cases y <;> first | rfl | exact noS h
    rw [this]; rfl
theorem eqDs_tr (S : Sim N e a b) : ∀ (l l' : List V) (t : List Bool), eqDs a l l' = some t → eqDs b (V.mps e l) (V.mps e l') = some t
  | [], [], t, h => h
  | [], _ :: _, t, h => noS h
  | _ :: _, [], t, h => noS h
  | y :: r, z :: r', t, h => by
    refine bindE h fun b' h1 h => bindE h fun bs h2 h => ?_
    rw [V.mps, V.mps]
    unfold eqDs
    rw [eqEl_tr S h1, eqDs_tr S r r' _ h2]; exact h
theorem neX_tr (S : Sim N e a b) {x y : V} {t : Bool} (h : neX x y a = some t) : neX (x.mp e) (y.mp e) b = some t := by
  refine bindE h fun j h1 h => bindE h fun k h2 h => ?_
  unfold neX
  rw [hnd_mp, hnd_mp, h1, h2]
  dsimp only [Option.map_some, Option.bind_some]
  refine orE h (fun h => bindE h fun u h3 h => ?_) fun h => bindE h fun l h3 h => bindE h fun l' h4 h => ?_
  · rw [eqD_tr S h3]; dsimp only [Option.bind_some]; rw [h]; rfl
  · rw [lstAt_tr S h3, lstAt_tr S h4]
    have : eqD b (e j) (e k) = none := by unfold eqD dicAt; rw [S.get _ _ (lstAt_of h3)]; rfl
    rw [this]
    show neL b (V.mps e l) (V.mps e l') = _
    unfold neL at h ⊢
    rw [mps_length, mps_length]
    refine iteE h (fun hl h => bindE h fun bs h3 h => ?_) fun hl h => ?_
    · rw [if_pos hl, eqDs_tr S _ _ _ h3]; exact h
    · rw [if_neg hl]; exact h
end
end Mine
namespace Mine
structure Orc where
  need : Nat
  q : Bool
  f : Addr
  vs : List V
  a : Sto
  y : V
  a' : Sto
  deriving Inhabited
inductive Dec where
  | b (v : Bool)
  | v (y : V)
structure XS where
  st : Sto
  ds : List (Nat × Dec)
  dc : List (Orc × List Nat)
  cs : Prop
def XM (α : Type) : Type := XS → Option (α × XS)
noncomputable def XM.pure {α : Type} (y : α) : XM α := fun x => some (y, x)
noncomputable def XM.bind {α β : Type} (m : XM α) (f : α → XM β) : XM β := fun x => match m x with
  | some (y, x') => f y x'
  | none => none
noncomputable def stopX {α : Type} : XM α := fun _ => none
noncomputable def liftX {α : Type} (m : M α) : XM α
  | ⟨st, ds, dc, cs⟩ => match m st with
    | some (.ok y, s) => match Nat.ble st.length s.length with
      | true => some (y, ⟨s, ds, dc, cs⟩)
      | false => none
    | _ => none
noncomputable def askB (b : Bool) : XM Bool
  | ⟨st, ds, dc, cs⟩ => match ds with
    | [] => some (b, ⟨st, ds, dc, cs⟩)
    | (k, d) :: ds' => match k with
      | 0 => match d with
        | .b v => some (v, ⟨st, ds', dc, b = v ∧ cs⟩)
        | .v _ => none
      | k + 1 => some (b, ⟨st, (k, d) :: ds', dc, cs⟩)
def okX (o : Option V) : XM V := match o with
  | some y => XM.pure y
  | none => stopX
def askV (f : Sto → Option V) : XM V
  | ⟨st, ds, dc, cs⟩ => match ds with
    | [] => okX (f st) ⟨st, ds, dc, cs⟩
    | (k, d) :: ds' => match k with
      | 0 => match d with
        | .v y => some (y, ⟨st, ds', dc, f st = some y ∧ cs⟩)
        | .b _ => none
      | k + 1 => okX (f st) ⟨st, (k, d) :: ds', dc, cs⟩
def mustX (b : Bool) (y : V) : XM V := XM.bind (askB b) fun v => match v with
  | true => XM.pure y
  | false => stopX
noncomputable def binX (op : Operator) (a b : V) : XM V := match a, b with
  | .int i, .int j => match op with
    | .Mult => mustX (mulOk i j) (.int (i * j))
    | .FloorDiv => mustX (!decide (j = 0 ∨ Builtin.divisionGoesByPylong i j = true)) (.int (i.fdiv j))
    | .Mod => mustX (!decide (j = 0)) (.int (i.fmod j))
    | .Pow => mustX (powOk i j) (.int (i ^ j.toNat))
    | op => liftX (binM op (.int i) (.int j))
  | a, b => liftX (binM op a b)
def iteX {α : Type} (b : Bool) (x y : XM α) : XM α := XM.bind (askB b) fun v => match v with
  | true => x
  | false => y
def allX (f : Expr → XM Bool) : List Expr → XM Bool
  | [] => XM.pure true
  | x :: r => XM.bind (f x) fun b => iteX b (allX f r) (XM.pure false)
def anyX (f : Expr → XM Bool) : List Expr → XM Bool
  | [] => XM.pure false
  | x :: r => XM.bind (f x) fun b => iteX b (XM.pure true) (anyX f r)
def andX (f : Expr → XM V) : Expr → List Expr → XM V
  | x, [] => f x
  | x, y :: r => XM.bind (f x) fun a => XM.bind (liftX (still fun st => truthV a st)) fun b => iteX b (andX f y r) (XM.pure a)
def orX (f : Expr → XM V) : Expr → List Expr → XM V
  | x, [] => f x
  | x, y :: r => XM.bind (f x) fun a => XM.bind (liftX (still fun st => truthV a st)) fun b => iteX b (XM.pure a) (orX f y r)
def evListX (f : Expr → XM V) : List Expr → XM (List V)
  | [] => XM.pure []
  | e :: r => XM.bind (f e) fun a => XM.bind (evListX f r) fun l => XM.pure (a :: l)
def callMX (G : Pg) (cf : V → List V → XM V) (f : V) (first : List V) (as : XM (List V)) : XM V :=
  XM.bind as fun l x => match callable G f x.st with
    | true => cf f (first ++ l) x
    | false => none
def partX (f : Expr → XM V) : Option Expr → XM V
  | none => XM.pure .none
  | some e => f e
def pairsX (f : Expr → XM V) : List (Option Expr) → List Expr → XM (List (Str × V))
  | some k :: ks, v :: vs => XM.bind (f k) fun a => XM.bind (f v) fun b => XM.bind (pairsX f ks vs) fun l => match a with
    | .str x => XM.pure ((x, b) :: l)
    | _ => stopX
  | [], [] => XM.pure []
  | _, _ => stopX
def testsX (f : Expr → XM Bool) : List Expr → XM Bool
  | [] => XM.pure true
  | x :: r => XM.bind (f x) fun b => iteX b (testsX f r) (XM.pure false)
def compX (x : Str) (mt : Loc → XM Bool) (me : Loc → XM V) (it : It) : Nat → Nat → List V → XM (List V)
  | 0, _, _ => stopX
  | n + 1, i, acc => XM.bind (liftX (still fun st => itM it i st)) fun o => match o with
    | none => XM.pure acc
    | some y => XM.bind (mt [(x, y)]) fun b => iteX b (XM.bind (me [(x, y)]) fun z => match Nat.blt acc.length sizeLine with
        | true => compX x mt me it n (i + 1) (acc ++ [z])
        | false => stopX) (compX x mt me it n (i + 1) acc)
def seqX (f : Stmt → Loc → XM (Fl × Loc)) : List Stmt → Loc → XM (Fl × Loc)
  | [], ρ => XM.pure (.next, ρ)
  | x :: r, ρ => XM.bind (f x ρ) fun p => match p.1 with
    | .next => seqX f r p.2
    | fl => XM.pure (fl, p.2)
def whileX (mt : Loc → XM Bool) (mb : Loc → XM (Fl × Loc)) : Nat → Loc → XM (Fl × Loc)
  | 0, _ => stopX
  | n + 1, ρ => XM.bind (mt ρ) fun b => iteX b (XM.bind (mb ρ) fun p => match p.1 with
      | .next | .cont => whileX mt mb n p.2
      | .brk => XM.pure (.next, p.2)
      | .ret y => XM.pure (.ret y, p.2)) (XM.pure (.next, ρ))
def forX (asg : V → Loc → XM Loc) (mb : Loc → XM (Fl × Loc)) (it : It) : Nat → Nat → Loc → XM (Fl × Loc)
  | 0, _, _ => stopX
  | n + 1, i, ρ => XM.bind (liftX (still fun st => itM it i st)) fun o => match o with
    | none => XM.pure (.next, ρ)
    | some y => XM.bind (asg y ρ) fun ρ1 => XM.bind (mb ρ1) fun p => match p.1 with
      | .next | .cont => forX asg mb it n (i + 1) p.2
      | .brk => XM.pure (.next, p.2)
      | .ret y => XM.pure (.ret y, p.2)
def tryX (mb mo : Loc → XM (Fl × Loc)) (ρ : Loc) : XM (Fl × Loc) := XM.bind (mb ρ) fun p => match p.1 with
  | .next => mo p.2
  | fl => XM.pure (fl, p.2)
structure EvX where
  val : Bool → Scope → List (Str × Nat) → Loc → Expr → XM V
  tst : Bool → Scope → List (Str × Nat) → Loc → Expr → XM Bool
def valX (G : Pg) (cf : Bool → V → List V → XM V) (fn : Fn) (q : Bool) (r : EvX) (inC : Bool) (sc : Scope) (CL : List (Str × Nat)) (ρ : Loc) : Cmd → XM V :=
  let v := r.val inC sc CL ρ
  let t := r.tst inC sc CL ρ
  fun
  | .const x => liftX (ofOpt (constV x))
  | .name x => liftX (nameM G sc CL ρ x)
  | .bin l op x => XM.bind (v l) fun a => XM.bind (v x) fun b => binX op a b
  | .un op x => XM.bind (v x) fun a => liftX (still fun st => unV op a st)
  | .cmp l op x => XM.bind (v l) fun a => XM.bind (v x) fun b => askV fun st => (cmpX op a b st).map V.bool
  | .and_ x xs => andX v x xs
  | .or_ x xs => orX v x xs
  | .ite c a b => XM.bind (t c) fun x => iteX x (v a) (v b)
  | .tup es => XM.bind (evListX v es) fun l => liftX (still fun _ => if l.length ≤ sizeLine then some (.tup l) else none)
  | .list es => XM.bind (evListX v es) fun l => liftX (fun st => if l.length ≤ sizeLine then newO (.list l) st else none)
  | .attr o x => XM.bind (v o) fun a => liftX (still fun st => attrM G x a st)
  | .slice o lo hi st => XM.bind (v o) fun a => XM.bind (partX v lo) fun x => XM.bind (partX v hi) fun y => XM.bind (partX v st) fun z => liftX (sliceM a x y z)
  | .sub o i => XM.bind (v o) fun a => XM.bind (v i) fun b => askV fun st => getItV a b st
  | .meth o x es => XM.bind (v o) fun y => XM.bind (liftX (still fun st => methM G x y st)) fun p => callMX G (cf q) p.1 p.2 (evListX v es)
  | .call f es => XM.bind (v f) fun g => callMX G (cf q) g [] (evListX v es)
  | .dict0 => liftX (newO (.sdict []))
  | .dict k ks vs => XM.bind (pairsX v (k :: ks) vs) fun l => liftX (fun st => if (l.map (·.1)).Nodup then newO (.sdict l) st else none)
  | .lam params body lsc => liftX (lamM fn.tab CL params body lsc (fn.qual ++ ".<locals>." ++ "<lambda>"))
  | .comp elt x iter ifs csc => match clos CL csc.names [] with
    | some CL' => XM.bind (v iter) fun y => XM.bind (liftX (still fun st => itOf y st)) fun it => XM.bind (compX x (fun ρ' => testsX (r.tst true csc CL' ρ') ifs) (fun ρ' => r.val true csc CL' ρ' elt) it turns 0 []) fun l => liftX (newO (.list l))
    | none => stopX
  | .no => stopX
def tstX (r : EvX) (inC : Bool) (sc : Scope) (CL : List (Str × Nat)) (ρ : Loc) : Tmd → XM Bool :=
  let v := r.val inC sc CL ρ
  let t := r.tst inC sc CL ρ
  fun
  | .not_ x => XM.bind (t x) fun b => XM.pure (!b)
  | .and_ xs => allX t xs
  | .or_ xs => anyX t xs
  | .ite c a b => XM.bind (t c) fun x => iteX x (t a) (t b)
  | .cmp l op x => XM.bind (v l) fun a => XM.bind (v x) fun b => XM.bind (askV fun st => (cmpX op a b st).map V.bool) fun y => match y with
    | .bool t => XM.pure t
    | _ => stopX
  | .ne0 l => XM.bind (v l) fun a => XM.bind (askV fun st => (ne0V a st).map V.bool) fun y => match y with
    | .bool t => XM.pure t
    | _ => stopX
  | .plain e => XM.bind (v e) fun a => liftX (still fun st => truthV a st)
  | .no => stopX
def evX (G : Pg) (cf : Bool → V → List V → XM V) (fn : Fn) (q : Bool) : Nat → EvX
  | 0 => ⟨fun _ _ _ _ _ => stopX, fun _ _ _ _ _ => stopX⟩
  | d + 1 => ⟨fun inC sc CL ρ e => valX G cf fn q (evX G cf fn q d) inC sc CL ρ (planE q inC e), fun inC sc CL ρ e => tstX (evX G cf fn q d) inC sc CL ρ (planT e)⟩
def smdX (G : Pg) (fn : Fn) (q : Bool) (E : EvX) (CL : List (Str × Nat)) (bd : List Stmt → Loc → XM (Fl × Loc)) : Smd → Loc → XM (Fl × Loc) :=
  let v := fun ρ e => E.val false fn.sc CL ρ e
  let t := fun ρ e => E.tst false fn.sc CL ρ e
  fun
  | .expr e => fun ρ => XM.bind (v ρ e) fun _ => XM.pure (.next, ρ)
  | .ret e => fun ρ => XM.bind (v ρ e) fun y => XM.pure (.ret y, ρ)
  | .ret0 => fun ρ => XM.pure (.ret .none, ρ)
  | .pass => fun ρ => XM.pure (.next, ρ)
  | .ite c b o => fun ρ => XM.bind (t ρ c) fun x => iteX x (bd b ρ) (bd o ρ)
  | .asC x elt z iter ifs csc => match clos CL csc.names [] with
    | some CL' => fun ρ => XM.bind (v ρ iter) fun y => XM.bind (liftX (still fun st => itOf y st)) fun it => XM.bind (compX z (fun ρ' => testsX (E.tst true csc CL' ρ') ifs) (fun ρ' => E.val true csc CL' ρ' elt) it turns 0 []) fun l => XM.bind (liftX (newO (.list l))) fun u => XM.bind (liftX (storeM fn.sc CL x u ρ)) fun ρ' => XM.pure (.next, ρ')
    | none => fun _ => stopX
  | .asN x e => fun ρ => XM.bind (v ρ e) fun y => XM.bind (liftX (storeM fn.sc CL x y ρ)) fun ρ' => XM.pure (.next, ρ')
  | .asA o x e => fun ρ => XM.bind (v ρ e) fun u => XM.bind (v ρ o) fun y => XM.bind (liftX (setAttrM G x y u)) fun _ => XM.pure (.next, ρ)
  | .asS o i e => fun ρ => XM.bind (v ρ e) fun u => XM.bind (v ρ o) fun y => XM.bind (v ρ i) fun j => liftX (fun st => (setItV y j u st).map fun st' => (.ok (.next, ρ), st'))
  | .asW xs e => fun ρ => XM.bind (v ρ e) fun y => match y with
      | .tup l => match Nat.beq l.length xs.length with
        | true => XM.bind (liftX (storesM fn.sc CL xs.reverse l.reverse ρ)) fun ρ' => XM.pure (.next, ρ')
        | false => stopX
      | _ => stopX
  | .asT xs e => fun ρ => XM.bind (v ρ e) fun y => XM.bind (liftX (unpackM fn.sc CL xs y ρ)) fun ρ' => XM.pure (.next, ρ')
  | .try_ b o => fun ρ => tryX (bd b) (bd o) ρ
  | .while_ c b => whileX (fun ρ => t ρ c) (bd b) turns
  | .forN x it b => fun ρ => XM.bind (v ρ it) fun y => XM.bind (liftX (still fun st => itOf y st)) fun it => forX (fun y ρ => liftX (storeM fn.sc CL x y ρ)) (bd b) it turns 0 ρ
  | .forT xs it b => fun ρ => XM.bind (v ρ it) fun y => XM.bind (liftX (still fun st => itOf y st)) fun it => forX (fun y ρ => liftX (unpackM fn.sc CL xs y ρ)) (bd b) it turns 0 ρ
  | .no => fun _ => stopX
def stX (G : Pg) (fn : Fn) (q : Bool) (E : EvX) (CL : List (Str × Nat)) : Nat → Stmt → Loc → XM (Fl × Loc)
  | 0 => fun _ _ => stopX
  | d + 1 => fun s => smdX G fn q E CL (seqX (stX G fn q E CL d)) (planS fn q s)
def addX (os : Sto) : XM Nat
  | ⟨st, ds, dc, cs⟩ => some (st.length, ⟨st ++ os, ds, dc, cs⟩)
def retOf : Fl → V
  | .ret y => y
  | _ => .none
def fnX' (fn : Fn) (body : List (Str × Nat) → Loc → XM (Fl × Loc)) (args : List V) : XM V :=
  match Nat.ble fn.names.length (args.length + fn.dfl.length) && Nat.ble args.length fn.names.length with
  | true =>
    let binds := fn.names.zip (args ++ fn.dfl.drop (args.length + fn.dfl.length - fn.names.length))
    let cs := (cellsFrom 0 fn.sc.names []).map (·.1)
    XM.bind (addX (cellsV cs (bindCV fn.sc binds []))) fun k => XM.bind (body (clV cs k) (bindLV fn.sc binds [])) fun p => XM.pure (retOf p.1)
  | false => stopX
def clsX (C : Addr) (init : List V → XM V) (args : List V) : XM V :=
  XM.bind (addX [.inst C []]) fun k => XM.bind (init (.hnd k :: args)) fun y => match y with
    | .none => XM.pure (.hnd k)
    | _ => stopX
def lamCallX (ev : List (Str × Nat) → Loc → XM V) (params : Arguments) (cl : List (Str × Nat)) (args : List V) : XM V :=
  match Nat.beq args.length params.args.length with
  | true => ev cl ((params.args.map (·.arg)).zip args)
  | false => stopX
def jof (jl : List Nat) (n k : Nat) : Nat := match Nat.blt k jl.length with
  | true => jl.getD k 0
  | false => match Nat.blt k far with
    | true => n + (k - jl.length)
    | false => k
def okJ (n : Nat) : List Nat → Bool
  | [] => true
  | k :: r => Nat.blt k n && r.all (fun j => !Nat.beq j k) && okJ n r
noncomputable def putAll (j : Nat → Nat) : List Nat → Sto → Sto → Sto
  | k :: r, o :: os, a => putAll j r os (a.set k (o.mp j))
  | [], os, a => a ++ os.map (O.mp j)
  | _ :: _, [], a => a
def isTab : O → Bool
  | .tab _ => true
  | _ => false
noncomputable def tabsFix (k : Nat) : List Nat → Sto → Bool
  | jk :: r, o :: os => (!isTab o || Nat.beq jk k) && tabsFix (k + 1) r os
  | [], os => os.all (fun o => !isTab o)
  | _ :: _, [] => true
def callOrc (c : Nat) (q : Bool) (f : Addr) (vs : List V) (o : Orc) (jl : List Nat) (st : Sto) : Option (V × Sto × (List V × Sto) × (List V × Sto)) :=
  let j := jof jl st.length
  let a' := putAll j jl o.a' st
  match Nat.beq f o.f && (q == o.q) && Nat.ble o.need c && Nat.beq jl.length o.a.length && Nat.ble o.a.length o.a'.length && okJ st.length jl && Nat.ble o.a'.length far && tabsFix 0 jl o.a && tabsFix 0 jl o.a' with
  | true => some (o.y.mp j, a', (V.mps j o.vs, o.a.map (O.mp j)), (vs, jl.map fun k => (st[k]?).getD default))
  | false => none
noncomputable def pushX (k : Nat) (l : List V) (y : V) : XM V
  | ⟨st, ds, dc, cs⟩ => some (.none, ⟨st.set k (.list (l ++ [y])), ds, dc, cs⟩)
def appX1 (k : Nat) (y : V) : XM V := fun x => match x.st[k]? with
  | some (.list l) => iteX (Nat.ble l.length sizeLine) (pushX k l y) stopX x
  | _ => none
noncomputable def appX (args : List V) : XM V := match args with
  | [.hnd k, y] => appX1 k y
  | _ => stopX
def bodyX (G : Pg) (cf : Bool → V → List V → XM V) (fn : Fn) (q : Bool) (CL : List (Str × Nat)) (ρ : Loc) : XM (Fl × Loc) := seqX (stX G fn q (evX G cf fn q deep) CL deep) fn.body ρ
def lamBodyX (G : Pg) (cf : Bool → V → List V → XM V) (qual : Str) (sc : Scope) (q : Bool) (body : Expr) (CL : List (Str × Nat)) (ρ : Loc) : XM V := (evX G cf (lamFn qual sc) q deep).val false sc CL ρ body
def globX (G : Pg) (F : Fs) (cf : Bool → V → List V → XM V) (q : Bool) (a : Addr) (args : List V) : XM V := match F.fns a with
  | some fn => fnX' fn (bodyX G cf fn q) args
  | none => match F.inits a with
    | some i => match F.fns i with
      | some fn => clsX a (fnX' fn (bodyX G cf fn q)) args
      | none => stopX
    | none => stopX
noncomputable def orcX (c : Nat) (q : Bool) (a : Addr) (args : List V) (m : XM V) : XM V
  | ⟨st, ds, dc, cs⟩ => match dc with
    | [] => m ⟨st, ds, dc, cs⟩
    | (o, jl) :: dc' => match Nat.beq a o.f with
      | true => match callOrc c q a args o jl st with
        | some (y, st', p, p') => some (y, ⟨st', ds, dc', p = p' ∧ cs⟩)
        | none => none
      | false => m ⟨st, ds, dc, cs⟩
def biX (q : Bool) (f : V) (args : List V) : XM V := askV fun st => (callB q f args st).map (·.1)
noncomputable def callX (G : Pg) (F : Fs) : Nat → Bool → V → List V → XM V
  | 0, _, _, _ => stopX
  | n + 1, q, f, args => match f with
    | .glob a => orcX (n + 1) q a args (globX G F (callX G F n) q a args)
    | .hnd k => fun x => match x.st[k]? with
      | some (.lam params body sc qual cl) => match lamOk params sc with
        | true => lamCallX (lamBodyX G (callX G F n) qual sc q body) params cl args x
        | false => none
      | _ => none
    | .bi id => match id == "list.append" with
      | true => appX args
      | false => match id == "list.pop" || id == "dict.get" with
        | true => liftX (callC q (.bi id) args)
        | false => biX q (.bi id) args
    | .ty id => match id == "dict" with
      | true => liftX (callC q (.ty id) args)
      | false => biX q (.ty id) args
    | _ => stopX
def MS {α β : Type} (mp : (Nat → Nat) → α → β) (m : (Nat → Nat) → M β) (a : Sto) (y : α) (a' : Sto) : Prop :=
  ∀ e b, Sim a'.length e a b → ∃ b', m e b = some (.ok (mp e y), b') ∧ Nx a'.length e a b a' b'
def CS (cf : Bool → V → List V → M V) (q : Bool) (f : V) (vs : List V) (a : Sto) (y : V) (a' : Sto) : Prop :=
  MS V.mp (fun e => cf q (f.mp e) (V.mps e vs)) a y a'
def OrcOk (G : Pg) (F : Fs) (o : Orc) : Prop := ∀ n, CS (callF G F (n + o.need)) o.q (.glob o.f) o.vs o.a o.y o.a'
def Good (x : XS) : Prop := x.cs
def OK (G : Pg) (F : Fs) (x : XS) : Prop := ∀ p ∈ x.dc, OrcOk G F p.1
structure TrX (G : Pg) (F : Fs) (N : Nat) (e : Nat → Nat) {α β : Type} (mp : α → β) (m : XM α) (m' : M β) : Prop where
  g : ∀ x y x', m x = some (y, x') → (Good x' → Good x) ∧ (OK G F x → OK G F x') ∧ x.st.length ≤ x'.st.length
  t : ∀ x y x' b, m x = some (y, x') → Good x' → OK G F x → x'.st.length ≤ N → Sim N e x.st b → ∃ b', m' b = some (.ok (mp y), b') ∧ Nx N e x.st b x'.st b'
def Fl.mp (e : Nat → Nat) : Fl → Fl
  | .ret y => .ret (y.mp e)
  | .next => .next
  | .brk => .brk
  | .cont => .cont
def mpF (e : Nat → Nat) (p : Fl × Loc) : Fl × Loc := (p.1.mp e, mpP e p.2)
def mpM (e : Nat → Nat) (p : V × List V) : V × List V := (p.1.mp e, V.mps e p.2)
section
variable {G : Pg} {F : Fs} {N : Nat} {e : Nat → Nat} {α β γ δ : Type} {mp : α → β} {mq : γ → δ}
theorem TrX.pure {y : α} : TrX G F N e mp (XM.pure y) (M.pure (mp y)) :=
  ⟨fun x y x' h => by induction h using E2; exact ⟨id, id, Nat.le_refl _⟩, fun x y x' b h g o _ S => by induction h using E2; exact ⟨b, rfl, .refl S⟩⟩
theorem TrX.stop {m' : M β} : TrX G F N e mp stopX m' := ⟨fun x y x' h => (by exact noS h), fun x y x' b h => (by exact noS h)⟩
set_option tactic.hygienic true in
theorem bindX_some {m : XM α} {f : α → XM γ} {x : XS} {z : γ} {x' : XS} (h : XM.bind m f x = some (z, x')) : ∃ y x1, m x = some (y, x1) ∧ f y x1 = some (z, x') := by
  unfold XM.bind at h
  split at h
  · rename_i y1 x1 e1; exact ⟨y1, x1, e1, h⟩
  · exact noS h
theorem gTrans {x x1 x' : XS} (a1 : (Good x1 → Good x) ∧ (OK G F x → OK G F x1) ∧ x.st.length ≤ x1.st.length) (a2 : (Good x' → Good x1) ∧ (OK G F x1 → OK G F x') ∧ x1.st.length ≤ x'.st.length) :
    (Good x' → Good x) ∧ (OK G F x → OK G F x') ∧ x.st.length ≤ x'.st.length := ⟨fun z => a1.1 (a2.1 z), fun z => a2.2.1 (a1.2.1 z), Nat.le_trans a1.2.2 a2.2.2⟩
theorem TrX.bind {m : XM α} {m' : M β} {f : α → XM γ} {f' : β → M δ} (h1 : TrX G F N e mp m m') (h2 : ∀ y, TrX G F N e mq (f y) (f' (mp y))) : TrX G F N e mq (XM.bind m f) (M.bind m' f') := by
  refine ⟨fun x y x' h => ?_, fun x y x' b h g o hl S => ?_⟩
  · obtain ⟨y1, x1, e1, h⟩ := bindX_some h
    exact gTrans (h1.g _ _ _ e1) ((h2 _).g _ _ _ h)
  · obtain ⟨y1, x1, e1, h⟩ := bindX_some h
    have a2 := (h2 _).g _ _ _ h
    obtain ⟨b1, e2, N1⟩ := h1.t _ _ _ _ e1 (a2.1 g) o (Nat.le_trans a2.2.2 hl) S
    obtain ⟨b2, e3, N2⟩ := (h2 _).t _ _ _ _ h g ((h1.g _ _ _ e1).2.1 o) hl N1.S
    refine ⟨b2, ?_, N1.trans S N2⟩
    unfold M.bind
    rw [e2]; exact e3
set_option tactic.hygienic true in
theorem liftX_some {m : M α} {x : XS} {z : α} {x' : XS} (h : liftX m x = some (z, x')) : m x.st = some (.ok z, x'.st) ∧ x'.dc = x.dc ∧ x'.cs = x.cs ∧ x.st.length ≤ x'.st.length := by
  obtain ⟨st, ds, dc, cs⟩ := x
  unfold liftX at h
  dsimp only at h
  split at h
  · split at h
    · rename_i y1 s1 e1 _ e2; induction h using E2; exact ⟨e1, rfl, rfl, Nat.le_of_ble_eq_true e2⟩
    · exact noS h
  · exact noS h
theorem TrX.lift {m : M α} {m' : M β} (T : Tr N e mp m m') : TrX G F N e mp (liftX m) m' := by
  refine ⟨fun x y x' h => ?_, fun x y x' b h g o hl S => ?_⟩
  · obtain ⟨_, h2, h3, h4⟩ := liftX_some h
    exact ⟨fun g => by unfold Good at *; rw [← h3]; exact g, fun o p hp => o p (by rw [← h2]; exact hp), h4⟩
  · exact T _ _ _ _ S (liftX_some h).1 hl
theorem TrX.noErr {m : XM α} {m' : M β} (T : TrX G F N e mp m m') : TrX G F N e mp m (Mine.noErr m') :=
  ⟨T.g, fun x y x' b h g o hl S => by
    obtain ⟨b', e1, N1⟩ := T.t x y x' b h g o hl S
    exact ⟨b', by unfold Mine.noErr; rw [e1], N1⟩⟩
theorem askB_ok {b : Bool} {x : XS} {v : Bool} {x' : XS} (h : askB b x = some (v, x')) : x'.st = x.st ∧ x'.dc = x.dc ∧ (Good x' → Good x ∧ b = v) := by
  obtain ⟨st, ds, dc, cs⟩ := x
  unfold askB at h
  dsimp only at h
  split at h
  · induction h using E2; exact ⟨rfl, rfl, fun g => ⟨g, rfl⟩⟩
  · split at h
    · split at h
      · induction h using E2; exact ⟨rfl, rfl, fun g => ⟨g.2, g.1⟩⟩
      · exact noS h
    · induction h using E2; exact ⟨rfl, rfl, fun g => ⟨g, rfl⟩⟩
theorem okX_some {o : Option V} {x : XS} {v : V} {x' : XS} (h : okX o x = some (v, x')) : o = some v ∧ x' = x := by
  unfold okX at h
  split at h
  · induction h using E2; exact ⟨rfl, rfl⟩
  · exact noS h
theorem askV_ok {f : Sto → Option V} {x : XS} {v : V} {x' : XS} (h : askV f x = some (v, x')) : x'.st = x.st ∧ x'.dc = x.dc ∧ (Good x' → Good x ∧ f x.st = some v) := by
  obtain ⟨st, ds, dc, cs⟩ := x
  unfold askV at h
  dsimp only at h
  split at h
  · obtain ⟨e1, rfl⟩ := okX_some h
    exact ⟨rfl, rfl, fun g => ⟨g, e1⟩⟩
  · split at h
    · split at h
      · induction h using E2; exact ⟨rfl, rfl, fun g => ⟨g.2, g.1⟩⟩
      · exact noS h
    · obtain ⟨e1, rfl⟩ := okX_some h
      exact ⟨rfl, rfl, fun g => ⟨g, e1⟩⟩
theorem gKeep {x x' : XS} (hs : x'.st = x.st) (hd : x'.dc = x.dc) (hg : Good x' → Good x) : (Good x' → Good x) ∧ (OK G F x → OK G F x') ∧ x.st.length ≤ x'.st.length :=
  ⟨hg, fun o p hp => o p (by rw [← hd]; exact hp), by rw [hs]; exact Nat.le_refl _⟩
theorem TrX.askV {f : Sto → Option V} {f' : Sto → Option V} (h : ∀ a b y, Sim N e a b → f a = some y → f' b = some (y.mp e)) : TrX G F N e (V.mp e) (Mine.askV f) (Mine.still f') := by
  refine ⟨fun x y x' h1 => ?_, fun x y x' b h1 g o hl S => ?_⟩
  · obtain ⟨hs, hd, hg⟩ := askV_ok h1
    exact gKeep hs hd fun z => (hg z).1
  · obtain ⟨hs, hd, hg⟩ := askV_ok h1
    rw [hs]
    exact ⟨b, by unfold Mine.still; rw [h _ _ _ S (hg g).2]; rfl, .refl S⟩
theorem TrX.ask {b : Bool} {f : Bool → XM α} {m' : M β} (h : TrX G F N e mp (f b) m') (h0 : ∀ v x y x', f v x = some (y, x') → (Good x' → Good x) ∧ (OK G F x → OK G F x') ∧ x.st.length ≤ x'.st.length) : TrX G F N e mp (XM.bind (askB b) f) m' := by
  refine ⟨fun x y x' h1 => ?_, fun x y x' b' h1 g o hl S => ?_⟩
  · obtain ⟨v, x1, e1, h1⟩ := bindX_some h1
    obtain ⟨hs, hd, hg⟩ := askB_ok e1
    exact gTrans (gKeep hs hd fun z => (hg z).1) (h0 _ _ _ _ h1)
  · obtain ⟨v, x1, e1, h1⟩ := bindX_some h1
    obtain ⟨hs, hd, hg⟩ := askB_ok e1
    obtain ⟨g1, rfl⟩ := hg ((h0 _ _ _ _ h1).1 g)
    rw [← hs] at S ⊢
    exact h.t _ _ _ _ h1 g (fun p hp => o p (by rw [← hd]; exact hp)) hl S
theorem TrX.ite {b : Bool} {m1 m2 : XM α} {m1' m2' : M β} (h1 : TrX G F N e mp m1 m1') (h2 : TrX G F N e mp m2 m2') : TrX G F N e mp (iteX b m1 m2) (iteM b m1' m2') :=
  .ask (by cases b; exact h2; exact h1) fun v => by cases v; exact h2.g; exact h1.g
theorem truth_tr {y : V} : TrX G F N e id (liftX (still fun st => truthV y st)) (still fun st => truthV (y.mp e) st) := .lift (.still fun a b t S h => truthV_tr S h)
theorem TrX.must {b : Bool} {y : V} {m' : M V} (h : b = true → m' = M.pure (y.mp e)) : TrX G F N e (V.mp e) (mustX b y) m' := by
  refine .ask ?_ fun v => by cases v <;> (intro x y x' h; cases h; try exact ⟨id, id, Nat.le_refl _⟩)
  cases b
  · exact .stop
  · rw [h rfl]; exact .pure
theorem binX_tr {op : Operator} {x y : V} : TrX G F N e (V.mp e) (binX op x y) (binM op (x.mp e) (y.mp e)) := by
  unfold binX
  split
  · split
    · exact .must fun h => by funext st; show ofOpt ((if _ then _ else none : Option Int).map V.int) st = _; rw [if_pos h]; rfl
    · exact .must fun h => by
        have h := of_decide_eq_false (by simpa only [Bool.not_eq_true'] using h)
        funext st; show ofOpt ((if _ then none else _ : Option Int).map V.int) st = _; rw [if_neg h]; rfl
    · exact .must fun h => by
        have h := of_decide_eq_false (by simpa only [Bool.not_eq_true'] using h)
        funext st; show ofOpt ((if _ then none else _ : Option Int).map V.int) st = _; rw [if_neg h]; rfl
    · exact .must fun h => by funext st; show ofOpt ((if _ then _ else none : Option Int).map V.int) st = _; rw [if_pos h]; rfl
    · exact .lift binM_tr
  · exact .lift binM_tr
theorem still_bool {f : Sto → Option Bool} : still f = M.bind (still fun st => (f st).map V.bool) fun y => match y with
    | .bool t => M.pure t
    | _ => Mine.stop := by
  funext st
  unfold still M.bind
  dsimp only
  cases h : f st <;> rfl
theorem TrX.allT {f : Expr → XM Bool} {f' : Expr → M Bool} (h : ∀ x, TrX G F N e id (f x) (f' x)) : ∀ l, TrX G F N e id (allX f l) (Mine.allT f' l)
  | [] => .pure
  | x :: r => .bind (h x) fun b => .ite (TrX.allT h r) .pure
theorem TrX.anyT {f : Expr → XM Bool} {f' : Expr → M Bool} (h : ∀ x, TrX G F N e id (f x) (f' x)) : ∀ l, TrX G F N e id (anyX f l) (Mine.anyT f' l)
  | [] => .pure
  | x :: r => .bind (h x) fun b => .ite .pure (TrX.anyT h r)
theorem TrX.tests {f : Expr → XM Bool} {f' : Expr → M Bool} (h : ∀ x, TrX G F N e id (f x) (f' x)) : ∀ l, TrX G F N e id (testsX f l) (testsM f' l)
  | [] => .pure
  | x :: r => .bind (h x) fun b => .ite (TrX.tests h r) .pure
theorem TrX.andV {f : Expr → XM V} {f' : Expr → M V} (h : ∀ x, TrX G F N e (V.mp e) (f x) (f' x)) : ∀ l x, TrX G F N e (V.mp e) (andX f x l) (Mine.andV f' x l)
  | [], x => h x
  | y :: r, x => .bind (h x) fun a => .bind truth_tr fun b => .ite (TrX.andV h r y) .pure
theorem TrX.orV {f : Expr → XM V} {f' : Expr → M V} (h : ∀ x, TrX G F N e (V.mp e) (f x) (f' x)) : ∀ l x, TrX G F N e (V.mp e) (orX f x l) (Mine.orV f' x l)
  | [], x => h x
  | y :: r, x => .bind (h x) fun a => .bind truth_tr fun b => .ite .pure (TrX.orV h r y)
theorem TrX.evList {f : Expr → XM V} {f' : Expr → M V} (h : ∀ x, TrX G F N e (V.mp e) (f x) (f' x)) : ∀ l, TrX G F N e (V.mps e) (evListX f l) (Mine.evList f' l)
  | [] => .pure
  | x :: r => .bind (h x) fun a => .bind (TrX.evList h r) fun l => .pure
theorem TrX.part {f : Expr → XM V} {f' : Expr → M V} (h : ∀ x, TrX G F N e (V.mp e) (f x) (f' x)) : ∀ o, TrX G F N e (V.mp e) (partX f o) (partE f' o)
  | none => .pure
  | some x => h x
theorem TrX.pairs {f : Expr → XM V} {f' : Expr → M V} (h : ∀ x, TrX G F N e (V.mp e) (f x) (f' x)) : ∀ (ks : List (Option Expr)) (vs : List Expr), TrX G F N e (mpP e) (pairsX f ks vs) (pairsM f' ks vs)
  | some k :: ks, v :: vs => .bind (h k) fun a => .bind (h v) fun b => .bind (TrX.pairs h ks vs) fun l => by
    cases a <;> first | exact .pure | exact .stop
  | [], [] => .pure
  | [], _ :: _ => .stop
  | some _ :: _, [] => .stop
  | none :: _, _ => .stop
theorem TrX.of_eq {m : XM α} {m' m2 : M β} (h : TrX G F N e mp m m') (hm : m' = m2) : TrX G F N e mp m m2 := hm ▸ h
theorem itM_trX {it : It} {i : Nat} : TrX G F N e (Option.map (V.mp e)) (liftX (still fun st => itM it i st)) (still fun st => itM (it.mp e) i st) := .lift (.still fun a b t S h => itM_tr S h)
theorem itOf_trX {y : V} : TrX G F N e (It.mp e) (liftX (still fun st => itOf y st)) (still fun st => itOf (y.mp e) st) := .lift (.still fun a b t S h => itOf_tr S h)
theorem TrX.comp {x : Str} {mt : Loc → XM Bool} {mt' : Loc → M Bool} {me : Loc → XM V} {me' : Loc → M V} {it : It} (ht : ∀ ρ, TrX G F N e id (mt ρ) (mt' (mpP e ρ))) (he : ∀ ρ, TrX G F N e (V.mp e) (me ρ) (me' (mpP e ρ))) :
    ∀ n i acc, TrX G F N e (V.mps e) (compX x mt me it n i acc) (compM x mt' me' (it.mp e) n i (V.mps e acc))
  | 0, i, acc => .stop
  | n + 1, i, acc => .bind itM_trX fun o => by
    cases o with
    | none => exact .pure
    | some y =>
      refine .bind (ht [(x, y)]).noErr fun b => .ite (.bind (he [(x, y)]).noErr fun z => ?_) (TrX.comp ht he n (i + 1) acc)
      split
      · rename_i hb
        have hb' : acc.length < sizeLine := by rw [Nat.blt] at hb; exact Nat.le_of_ble_eq_true hb
        refine (TrX.comp ht he n (i + 1) (acc ++ [z])).of_eq ?_
        funext st
        rw [mps_length, if_pos hb', mps_append]; rfl
      · exact .stop
theorem TrX.seq {f : Stmt → Loc → XM (Fl × Loc)} {f' : Stmt → Loc → M (Fl × Loc)} (h : ∀ s ρ, TrX G F N e (mpF e) (f s ρ) (f' s (mpP e ρ))) : ∀ l ρ, TrX G F N e (mpF e) (seqX f l ρ) (seqM f' l (mpP e ρ))
  | [], ρ => .pure
  | x :: r, ρ => .bind (h x ρ) fun p => by
    obtain ⟨fl, ρ'⟩ := p
    cases fl with
    | next => exact TrX.seq h r ρ'
    | brk => exact .pure
    | cont => exact .pure
    | ret y => exact .pure
theorem TrX.while {mt : Loc → XM Bool} {mt' : Loc → M Bool} {mb : Loc → XM (Fl × Loc)} {mb' : Loc → M (Fl × Loc)} (ht : ∀ ρ, TrX G F N e id (mt ρ) (mt' (mpP e ρ))) (hb : ∀ ρ, TrX G F N e (mpF e) (mb ρ) (mb' (mpP e ρ))) :
    ∀ n ρ, TrX G F N e (mpF e) (whileX mt mb n ρ) (whileM mt' mb' n (mpP e ρ))
  | 0, ρ => .stop
  | n + 1, ρ => .bind (ht ρ).noErr fun b => .ite (.bind (hb ρ).noErr fun p => by
    obtain ⟨fl, ρ'⟩ := p
    cases fl with
    | next => exact TrX.while ht hb n ρ'
    | brk => exact .pure
    | cont => exact TrX.while ht hb n ρ'
    | ret y => exact .pure) .pure
theorem TrX.for {asg : V → Loc → XM Loc} {asg' : V → Loc → M Loc} {mb : Loc → XM (Fl × Loc)} {mb' : Loc → M (Fl × Loc)} {it : It} (ha : ∀ y ρ, TrX G F N e (mpP e) (asg y ρ) (asg' (y.mp e) (mpP e ρ))) (hb : ∀ ρ, TrX G F N e (mpF e) (mb ρ) (mb' (mpP e ρ))) :
    ∀ n i ρ, TrX G F N e (mpF e) (forX asg mb it n i ρ) (forM asg' mb' (it.mp e) n i (mpP e ρ))
  | 0, i, ρ => .stop
  | n + 1, i, ρ => .bind itM_trX fun o => by
    cases o with
    | none => exact .pure
    | some y =>
      refine .bind (ha y ρ).noErr fun ρ1 => .bind (hb ρ1).noErr fun p => ?_
      obtain ⟨fl, ρ'⟩ := p
      cases fl with
      | next => exact TrX.for ha hb n (i + 1) ρ'
      | brk => exact .pure
      | cont => exact TrX.for ha hb n (i + 1) ρ'
      | ret y => exact .pure
theorem TrX.try {mb mo : Loc → XM (Fl × Loc)} {mb' mo' : Loc → M (Fl × Loc)} {ρ : Loc} (hb : TrX G F N e (mpF e) (mb ρ) (mb' (mpP e ρ))) (ho : ∀ ρ, TrX G F N e (mpF e) (mo ρ) (mo' (mpP e ρ))) : TrX G F N e (mpF e) (tryX mb mo ρ) (tryM mb' mo' (mpP e ρ)) :=
  .bind hb.noErr fun p => by
    obtain ⟨fl, ρ'⟩ := p
    cases fl with
    | next => exact ho _
    | _ => exact .pure
theorem cmpX_tr {a b : Sto} (S : Sim N e a b) {op : CmpOp} {x y : V} {t : Bool} (h : cmpX op x y a = some t) : cmpX op (x.mp e) (y.mp e) b = some t := by
  unfold cmpX at h ⊢
  rw [cmpV_mp]
  cases h1 : cmpV op x y with
  | some r => rw [h1] at h; exact h
  | none =>
    rw [h1] at h
    cases op with
    | NotEq => exact neX_tr S h
    | _ => exact noS h
theorem cmpX_map {a b : Sto} (S : Sim N e a b) {op : CmpOp} {x y t : V} (h : (cmpX op x y a).map V.bool = some t) : (cmpX op (x.mp e) (y.mp e) b).map V.bool = some (t.mp e) := by
  obtain ⟨u, h1, rfl⟩ := Option.map_eq_some_iff.mp h
  rw [cmpX_tr S h1]; rfl
theorem ne0_map {a b : Sto} (S : Sim N e a b) {x t : V} (h : (ne0V x a).map V.bool = some t) : (ne0V (x.mp e) b).map V.bool = some (t.mp e) := by
  obtain ⟨u, h1, h2⟩ := Option.map_eq_some_iff.mp h
  refine bindE h1 fun d hd h1 => ?_
  unfold ne0V
  rw [datV_tr S hd]
  dsimp only [Option.bind_some]
  rw [h1, ← h2]; rfl
structure EvTr (G : Pg) (F : Fs) (N : Nat) (e : Nat → Nat) (r : EvX) (r' : Ev) : Prop where
  val : ∀ inC sc CL ρ x, TrX G F N e (V.mp e) (r.val inC sc CL ρ x) (r'.val inC sc (mpC e CL) (mpP e ρ) x)
  tst : ∀ inC sc CL ρ x, TrX G F N e id (r.tst inC sc CL ρ x) (r'.tst inC sc (mpC e CL) (mpP e ρ) x)
def CfTr (G : Pg) (F : Fs) (N : Nat) (e : Nat → Nat) (cf : Bool → V → List V → XM V) (cf' : Bool → V → List V → M V) : Prop :=
  ∀ q f vs, TrX G F N e (V.mp e) (cf q f vs) (cf' q (f.mp e) (V.mps e vs))
theorem callM_trX {cf : V → List V → XM V} {cf' : V → List V → M V} (hcf : ∀ f vs, TrX G F N e (V.mp e) (cf f vs) (cf' (f.mp e) (V.mps e vs))) {f : V} {first : List V} {as : XM (List V)} {as' : M (List V)} (h : TrX G F N e (V.mps e) as as') : TrX G F N e (V.mp e) (callMX G cf f first as) (callM G cf' (f.mp e) (V.mps e first) as') := by
  refine .bind h fun l => ?_
  have T := hcf f (first ++ l)
  refine ⟨fun x y x' hx => ?_, fun x y x' b hx g o hl S => ?_⟩
  · split at hx
    · exact T.g _ _ _ hx
    · exact noS hx
  · split at hx
    · rename_i hc
      obtain ⟨b', e1, N1⟩ := T.t _ _ _ _ hx g o hl S
      refine ⟨b', ?_, N1⟩
      rw [if_pos (callable_tr S hc), ← mps_append]; exact e1
    · exact noS hx
theorem clos_mp0 {CL : List (Str × Nat)} {l : List (Str × NameKind)} {out : List (Str × Nat)} (h : clos CL l [] = some out) : clos (mpC e CL) l [] = some (mpC e out) := clos_mp l [] out h
theorem valX_tr (hG : GFlat G) {cf : Bool → V → List V → XM V} {cf' : Bool → V → List V → M V} (hcf : CfTr G F N e cf cf') {fn : Fn} {q : Bool} {r : EvX} {r' : Ev} (hr : EvTr G F N e r r') {inC : Bool} {sc : Scope} {CL : List (Str × Nat)} {ρ : Loc} (c : Cmd) :
    TrX G F N e (V.mp e) (valX G cf fn q r inC sc CL ρ c) (valS G cf' fn q r' inC sc (mpC e CL) (mpP e ρ) c) := by
  have v := fun x => hr.val inC sc CL ρ x
  have t := fun x => hr.tst inC sc CL ρ x
  cases c with
  | const x => exact .lift (.ofOpt fun y h => constV_mp h ▸ h ▸ rfl)
  | name x => exact .lift (nameM_tr hG)
  | bin l op x => exact .bind (v l) fun a => .bind (v x) fun b => binX_tr
  | un op x => exact .bind (v x) fun a => .lift (.still fun a b t S h => unV_tr S h)
  | cmp l op x => exact .bind (v l) fun a => .bind (v x) fun b => .askV fun a b t S h => cmpX_map S h
  | and_ x xs => exact .andV v xs x
  | or_ x xs => exact .orV v xs x
  | ite c a b => exact .bind (t c) fun x => .ite (v a) (v b)
  | tup es =>
    exact .bind (.evList v es) fun l => .lift (.still fun a b t S h => by
      split at h
      · rename_i hl; cases h; rw [if_pos (by rw [mps_length]; exact hl)]; rfl
      · cases h)
  | list es =>
    exact .bind (.evList v es) fun l => .lift (fun a b r a' S h hl => by
      have h : (if l.length ≤ sizeLine then newO (.list l) a else none) = some (r, a') := h
      show ∃ b', (if (V.mps e l).length ≤ sizeLine then newO (.list (V.mps e l)) b else none) = _ ∧ _
      split at h
      · rename_i hn
        rw [if_pos (by rw [mps_length]; exact hn)]
        exact newO_tr (o := .list l) (by intro q z; cases z) a b r a' S h hl
      · cases h)
  | attr o x => exact .bind (v o) fun a => .lift (.still fun a b t S h => attrM_tr S h)
  | slice o lo hi st => exact .bind (v o) fun a => .bind (.part v lo) fun x => .bind (.part v hi) fun y => .bind (.part v st) fun z => .lift sliceM_tr
  | sub o i => exact .bind (v o) fun a => .bind (v i) fun b => .askV fun a b t S h => getItV_tr S h
  | meth o x es => exact .bind (v o) fun y => .bind (mp := mpM e) (.lift (.still fun a b t S h => methM_tr S h)) fun p => callM_trX (hcf q) (.evList v es)
  | call f es => exact .bind (v f) fun g => callM_trX (first := []) (hcf q) (.evList v es)
  | dict0 => exact .lift (newO_tr (o := .sdict []) (by intro q z; cases z))
  | dict k ks vs =>
    exact .bind (.pairs v (k :: ks) vs) fun l => .lift (fun a b r a' S h hl => by
      have hk : (mpP e l).map (·.1) = l.map (·.1) := by unfold mpP; rw [List.map_map]; rfl
      have h : (if (l.map (·.1)).Nodup then newO (.sdict l) a else none) = some (r, a') := h
      show ∃ b', (if ((mpP e l).map (·.1)).Nodup then newO (.sdict (mpP e l)) b else none) = _ ∧ _
      split at h
      · rename_i hn
        rw [if_pos (by rw [hk]; exact hn)]
        exact newO_tr (o := .sdict l) (by intro q z; cases z) a b r a' S h hl
      · cases h)
  | lam params body lsc => exact .lift lamM_tr
  | comp elt x iter ifs csc =>
    show TrX G F N e (V.mp e) (match clos CL csc.names [] with | some CL' => _ | none => _) (match clos (mpC e CL) csc.names [] with | some CL' => _ | none => _)
    cases hc : clos CL csc.names [] with
    | none => exact .stop
    | some CL' =>
      rw [clos_mp0 hc]
      exact .bind (v iter) fun y => .bind itOf_trX fun it => .bind (.comp (fun ρ => .tests (fun x => hr.tst true csc CL' ρ x) ifs) (fun ρ => hr.val true csc CL' ρ elt) turns 0 []) fun l => .lift (newO_tr (o := .list l) (by intro q z; cases z))
  | no => exact .stop
theorem tstX_tr {r : EvX} {r' : Ev} (hr : EvTr G F N e r r') {inC : Bool} {sc : Scope} {CL : List (Str × Nat)} {ρ : Loc} (c : Tmd) :
    TrX G F N e id (tstX r inC sc CL ρ c) (tstS r' inC sc (mpC e CL) (mpP e ρ) c) := by
  have v := fun x => hr.val inC sc CL ρ x
  have t := fun x => hr.tst inC sc CL ρ x
  cases c with
  | not_ x => exact .bind (t x) fun b => .pure
  | and_ xs => exact .allT t xs
  | or_ xs => exact .anyT t xs
  | ite c a b => exact .bind (t c) fun x => .ite (t a) (t b)
  | cmp l op x => exact .bind (v l) fun a => .bind (v x) fun b => TrX.of_eq (.bind (mp := V.mp e) (.askV (f' := fun st => (cmpX op (a.mp e) (b.mp e) st).map V.bool) fun a b t S h => cmpX_map S h) fun y => (by cases y <;> first | exact .stop | exact .pure)) still_bool.symm
  | ne0 l => exact .bind (v l) fun a => TrX.of_eq (.bind (mp := V.mp e) (.askV (f' := fun st => (ne0V (a.mp e) st).map V.bool) fun a b t S h => ne0_map S h) fun y => (by cases y <;> first | exact .stop | exact .pure)) still_bool.symm
  | plain x => exact .bind (v x) fun a => truth_tr
  | no => exact .stop
theorem evX_tr (hG : GFlat G) {cf : Bool → V → List V → XM V} {cf' : Bool → V → List V → M V} (hcf : CfTr G F N e cf cf') {fn : Fn} {q : Bool} : ∀ d, EvTr G F N e (evX G cf fn q d) (evS G cf' fn q d)
  | 0 => ⟨fun _ _ _ _ _ => .stop, fun _ _ _ _ _ => .stop⟩
  | d + 1 => ⟨fun inC sc CL ρ x => valX_tr hG hcf (evX_tr hG hcf d) _, fun inC sc CL ρ x => tstX_tr (evX_tr hG hcf d) _⟩
theorem smdX_tr {fn : Fn} {q : Bool} {r : EvX} {r' : Ev} (hr : EvTr G F N e r r') {CL : List (Str × Nat)} {bd : List Stmt → Loc → XM (Fl × Loc)} {bd' : List Stmt → Loc → M (Fl × Loc)} (hb : ∀ b ρ, TrX G F N e (mpF e) (bd b ρ) (bd' b (mpP e ρ))) (c : Smd) (ρ : Loc) :
    TrX G F N e (mpF e) (smdX G fn q r CL bd c ρ) (smdS G fn.sc q r' (mpC e CL) bd' c (mpP e ρ)) := by
  have v := fun ρ x => hr.val false fn.sc CL ρ x
  have t := fun ρ x => hr.tst false fn.sc CL ρ x
  cases c with
  | expr x => exact .bind (v ρ x) fun _ => .pure
  | ret x => exact .bind (v ρ x) fun y => .pure
  | ret0 => exact .pure
  | pass => exact .pure
  | ite c b o => exact .bind (t ρ c) fun x => .ite (hb b ρ) (hb o ρ)
  | asC x elt z iter ifs csc =>
    unfold smdX smdS
    dsimp only
    cases hc : clos CL csc.names [] with
    | none => exact .stop
    | some CL' =>
      rw [clos_mp0 hc]
      exact .bind (v ρ iter) fun y => .bind itOf_trX fun it => .bind (.comp (fun ρ => .tests (fun x => hr.tst true csc CL' ρ x) ifs) (fun ρ => hr.val true csc CL' ρ elt) turns 0 []) fun l => .bind (.lift (newO_tr (o := .list l) (by intro q z; cases z))) fun u => .bind (.lift storeM_tr) fun ρ' => .pure
  | asN x y => exact .bind (v ρ y) fun y => .bind (.lift storeM_tr) fun ρ' => .pure
  | asA o x y => exact .bind (v ρ y) fun u => .bind (v ρ o) fun y => .bind (.lift setAttrM_tr) fun _ => .pure
  | asS o i y =>
    exact .bind (v ρ y) fun u => .bind (v ρ o) fun y => .bind (v ρ i) fun j => .lift (fun a b r a' S h hl => by
      obtain ⟨s, h1, h2⟩ := Option.map_eq_some_iff.mp h
      cases h2
      obtain ⟨b', h3, N⟩ := setItV_tr S h1
      exact ⟨b', by rw [h3]; rfl, N⟩)
  | asW xs y =>
    refine .bind (v ρ y) fun y => ?_
    cases y with
    | tup l =>
      dsimp only
      split
      · rename_i hn
        refine TrX.of_eq (.bind (f' := fun ρ' => M.pure (Fl.next, ρ')) (.lift (storesM_tr xs.reverse l.reverse ρ)) fun ρ' => .pure) ?_
        funext st
        show _ = (if (V.mps e l).length = xs.length then _ else _)
        rw [mps_length, if_pos (Nat.eq_of_beq_eq_true hn)]
        rw [mps_map, mps_map, List.map_reverse]
      · exact .stop
    | _ => exact .stop
  | asT xs y => exact .bind (v ρ y) fun y => .bind (TrX.noErr (.lift unpackM_tr)) fun ρ' => .pure
  | try_ b o => exact .try (hb b ρ) fun ρ => hb o ρ
  | while_ c b => exact .while (mt' := fun ρ => r'.tst false fn.sc (mpC e CL) ρ c) (fun ρ => t ρ c) (fun ρ => hb b ρ) turns ρ
  | forN x it b => exact .bind (v ρ it) fun y => .bind itOf_trX fun it => .for (fun y ρ => .lift storeM_tr) (fun ρ => hb b ρ) turns 0 ρ
  | forT xs it b => exact .bind (v ρ it) fun y => .bind itOf_trX fun it => .for (fun y ρ => .lift unpackM_tr) (fun ρ => hb b ρ) turns 0 ρ
  | no => exact .stop
theorem stX_tr {fn : Fn} {q : Bool} {r : EvX} {r' : Ev} (hr : EvTr G F N e r r') {CL : List (Str × Nat)} : ∀ d s ρ, TrX G F N e (mpF e) (stX G fn q r CL d s ρ) (stS G fn q r' (mpC e CL) d s (mpP e ρ))
  | 0, s, ρ => .stop
  | d + 1, s, ρ => smdX_tr (q := q) hr (fun b ρ => .seq (fun s ρ => stX_tr hr d s ρ) b ρ) _ ρ
end
section
variable {N : Nat} {e j : Nat → Nat} {a b : Sto}
theorem Sim.adds : ∀ (os : Sto) {a b : Sto}, Sim N e a b → (a ++ os).length ≤ N → (∀ o ∈ os, ∀ q, o ≠ .tab q) → Nx N e a b (a ++ os) (b ++ os.map (O.mp e))
  | [], a, b, S, _, _ => by simpa using Nx.refl S
  | o :: os, a, b, S, hl, ho => by
    have n1 := S.push o (by simp at hl ⊢; lia) (ho o List.mem_cons_self)
    have n2 := Sim.adds os n1.S (by simp at hl ⊢; lia) fun o h => ho o (List.mem_cons_of_mem _ h)
    have := n1.trans S n2
    simpa using this
theorem bindLV_mp (sc : Scope) : ∀ (bs ρ : Loc), mpP e (bindLV sc bs ρ) = bindLV sc (mpP e bs) (mpP e ρ)
  | [], ρ => rfl
  | (n, y) :: r, ρ => by
    show mpP e (bindLV sc r _) = bindLV sc (mpP e r) _
    rw [bindLV_mp sc r]
    congr 1
    have : ∀ o : Option NameKind, mpP e (match o with | some .local => putF n y ρ | _ => ρ) = match o with | some .local => putF n (y.mp e) (mpP e ρ) | _ => mpP e ρ := fun o => by
      split
      · rw [putF_mp]
      · rfl
    exact this _
theorem bindCV_mp (sc : Scope) : ∀ (bs ρ : Loc), mpP e (bindCV sc bs ρ) = bindCV sc (mpP e bs) (mpP e ρ)
  | [], ρ => rfl
  | (n, y) :: r, ρ => by
    show mpP e (bindCV sc r _) = bindCV sc (mpP e r) _
    rw [bindCV_mp sc r]
    congr 1
    have : ∀ o : Option NameKind, mpP e (match o with | some .local => ρ | _ => putF n y ρ) = match o with | some .local => mpP e ρ | _ => putF n (y.mp e) (mpP e ρ) := fun o => by
      split
      · rfl
      · rw [putF_mp]
    exact this _
theorem cellsV_mp (cs : List Str) (cv : Loc) : (cellsV cs cv).map (O.mp e) = cellsV cs (mpP e cv) := by
  unfold cellsV
  rw [List.map_map]
  refine List.map_congr_left fun n _ => ?_
  simp only [Function.comp, O.mp, mpP_lookup]
theorem cellsV_tab {cs : List Str} {cv : Loc} : ∀ o ∈ cellsV cs cv, ∀ q, o ≠ .tab q := by
  intro o h q z
  obtain ⟨n, _, rfl⟩ := List.mem_map.mp h
  cases z
theorem clV_mp : ∀ (cs : List Str) (k k' : Nat), (∀ i, i < cs.length → e (k + i) = k' + i) → mpC e (clV cs k) = clV cs k'
  | [], _, _, _ => rfl
  | n :: r, k, k', h => by
    show (n, e k) :: mpC e (clV r (k + 1)) = (n, k') :: clV r (k' + 1)
    rw [clV_mp r (k + 1) (k' + 1) fun i hi => by
      have := h (i + 1) (by simp; lia)
      rw [show k + 1 + i = k + (i + 1) by lia, this]; lia]
    have := h 0 (by simp)
    rw [show e k = k' from this]
theorem zip_mp (names : List Str) (l : List V) : mpP e (names.zip l) = names.zip (V.mps e l) := by
  unfold mpP
  rw [mps_map]
  induction names generalizing l with
  | nil => rfl
  | cons n r ih =>
    cases l with
    | nil => rfl
    | cons y l => simp [ih]
mutual
theorem mp_mp : ∀ y : V, (y.mp j).mp e = y.mp fun k => e (j k)
  | .tup l => by rw [V.mp, V.mp, V.mp, mps_mps]
  | .lstK l => by rw [V.mp, V.mp, V.mp, mps_mps]
  | .hnd _ => rfl
  | .none => rfl
  | .bool _ => rfl
  | .int _ => rfl
  | .str _ => rfl
  | .glob _ => rfl
  | .bi _ => rfl
  | .ty _ => rfl
  | .rng _ _ _ => rfl
theorem mps_mps : ∀ l : List V, V.mps e (V.mps j l) = V.mps (fun k => e (j k)) l
  | [] => rfl
  | y :: r => by rw [V.mps, V.mps, V.mps, mp_mp, mps_mps]
end
theorem mpP_mpP {κ : Type} (l : List (κ × V)) : mpP e (mpP j l) = mpP (fun k => e (j k)) l := by
  unfold mpP; rw [List.map_map]; exact List.map_congr_left fun p _ => by simp only [Function.comp, mp_mp]
theorem omp_mp (o : O) : (o.mp j).mp e = o.mp fun k => e (j k) := by
  cases o with
  | list l => simp only [O.mp, mps_mps]
  | sdict l => simp only [O.mp, mpP_mpP]
  | idict l => simp only [O.mp, mpP_mpP]
  | inst C l => simp only [O.mp, mpP_mpP]
  | cell v => cases v <;> simp [O.mp, mp_mp]
  | lam p b sc q cl => exact congrArg (O.lam p b sc q) (by simp [mpC])
  | tab q => rfl
theorem omp_tab {o : O} {q : Str} : o.mp e = .tab q ↔ o = .tab q := by cases o <;> simp [O.mp]
end
section
variable {G : Pg} {F : Fs} {N : Nat} {e : Nat → Nat}
theorem retOf_mp (fl : Fl) : retOf (fl.mp e) = (retOf fl).mp e := by cases fl <;> rfl
def FFlat (F : Fs) : Prop := ∀ a fn, F.fns a = some fn → flatVs fn.dfl = true
theorem drop_flat : ∀ {l : List V} (n : Nat), flatVs l = true → flatVs (l.drop n) = true
  | _, 0, h => h
  | [], _ + 1, _ => rfl
  | _ :: r, n + 1, h => drop_flat n (by rw [flatVs, Bool.and_eq_true] at h; exact h.2)
theorem fnX_tr {fn : Fn} {body : List (Str × Nat) → Loc → XM (Fl × Loc)} {body' : List (Str × Nat) → Loc → M (Fl × Loc)} (hd : flatVs fn.dfl = true) (hb : ∀ CL ρ, TrX G F N e (mpF e) (body CL ρ) (body' (mpC e CL) (mpP e ρ))) (args : List V) :
    TrX G F N e (V.mp e) (fnX' fn body args) (fnM fn body' (V.mps e args)) := by
  unfold fnX'
  split
  · rename_i hc
    rw [Bool.and_eq_true] at hc
    have hc1 := Nat.le_of_ble_eq_true hc.1
    have hc2 := Nat.le_of_ble_eq_true hc.2
    dsimp only
    refine ⟨fun x y x' h => ?_, fun x y x' b h g o hl S => ?_⟩
    · obtain ⟨k, x1, e1, h⟩ := bindX_some h
      obtain ⟨⟨fl, ρ⟩, x2, e2, h⟩ := bindX_some h
      induction h using E2
      induction e1 using E2
      have a2 := (hb _ _).g _ _ _ e2
      exact ⟨fun z => a2.1 z, fun z => a2.2.1 z, Nat.le_trans (by simp) a2.2.2⟩
    · obtain ⟨k, x1, e1, h⟩ := bindX_some h
      obtain ⟨⟨fl, ρ⟩, x2, e2, h⟩ := bindX_some h
      induction h using E2
      induction e1 using E2
      have gg := (hb _ _).g _ _ _ e2
      have hl1 := Nat.le_trans gg.2.2 hl
      have N1 := S.adds _ hl1 cellsV_tab
      obtain ⟨b2, e3, N2⟩ := (hb _ _).t _ _ _ _ e2 g o hl N1.S
      refine ⟨b2, ?_, N1.trans S N2⟩
      unfold fnM
      rw [mps_length, if_pos ⟨hc1, hc2⟩]
      dsimp only
      have hz : fn.names.zip (V.mps e args ++ fn.dfl.drop (args.length + fn.dfl.length - fn.names.length)) = mpP e (fn.names.zip (args ++ fn.dfl.drop (args.length + fn.dfl.length - fn.names.length))) := by
        rw [zip_mp, mps_append, flat_mps (drop_flat _ hd)]
      rw [hz]
      rw [cellsV_mp, bindCV_mp, bindLV_mp] at e3
      rw [clV_mp _ _ b.length fun i hi => by
        have := S.nxt (x.st.length + i) (by lia) (by simp only [List.length_append, cellsV, List.length_map] at hl1 hi; lia)
        rw [this]; lia] at e3
      have e3 : body' _ (bindLV _ _ []) (b ++ cellsV _ (bindCV _ _ [])) = _ := e3
      rw [e3]
      show some _ = some _
      rw [← retOf_mp]
      rfl
  · exact .stop
end
end Mine
namespace Mine
section
variable {G : Pg} {F : Fs} {N : Nat} {e : Nat → Nat}
theorem clsX_tr {C : Addr} {init : List V → XM V} {init' : List V → M V} (h : ∀ args, TrX G F N e (V.mp e) (init args) (init' (V.mps e args))) (args : List V) : TrX G F N e (V.mp e) (clsX C init args) (clsM C init' (V.mps e args)) := by
  refine ⟨fun x y x' h1 => ?_, fun x y x' b h1 g o hl S => ?_⟩
  · obtain ⟨k, x1, e1, h2⟩ := bindX_some h1
    obtain ⟨z, x2, e2, h3⟩ := bindX_some h2
    induction e1 using E2
    have a2 := (h _).g _ _ _ e2
    split at h3
    · induction h3 using E2
      exact ⟨fun z => a2.1 z, fun z => a2.2.1 z, Nat.le_trans (by simp) a2.2.2⟩
    · exact noS h3
  · obtain ⟨k, x1, e1, h2⟩ := bindX_some h1
    obtain ⟨z, x2, e2, h3⟩ := bindX_some h2
    induction e1 using E2
    have a2 := (h _).g _ _ _ e2
    split at h3
    · induction h3 using E2
      have hl1 : (x.st ++ [O.inst C []]).length ≤ N := Nat.le_trans a2.2.2 hl
      have N1 := S.push (.inst C []) hl1 (by intro q z; cases z)
      obtain ⟨b2, e3, N2⟩ := (h _).t _ _ _ _ e2 g o hl N1.S
      refine ⟨b2, ?_, N1.trans S N2⟩
      unfold clsM
      have hk : e x.st.length = b.length := S.at (by simp at hl1; lia)
      have e3 : init' (.hnd (e x.st.length) :: V.mps e args) (b ++ [.inst C []]) = some (.ok .none, b2) := e3
      rw [← hk, e3]
      rfl
    · exact noS h3
theorem lamCallX_tr {ev : List (Str × Nat) → Loc → XM V} {ev' : List (Str × Nat) → Loc → M V} (h : ∀ CL ρ, TrX G F N e (V.mp e) (ev CL ρ) (ev' (mpC e CL) (mpP e ρ))) {params : Arguments} {cl : List (Str × Nat)} (args : List V) :
    TrX G F N e (V.mp e) (lamCallX ev params cl args) (lamCallM ev' params (mpC e cl) (V.mps e args)) := by
  unfold lamCallX
  split
  · rename_i hn
    have hn := Nat.eq_of_beq_eq_true hn
    refine TrX.of_eq (.noErr (h cl _)) ?_
    funext st
    unfold lamCallM
    rw [mps_length, if_pos hn, zip_mp]
  · exact .stop
theorem callD_app {q : Bool} {args : List V} {st : Sto} : callD q (.bi "list.append") args st = appP args st := by simp only [callD, if_true]
set_option tactic.hygienic true in
theorem appX1_tr {q : Bool} {k : Nat} {y : V} : TrX G F N e (V.mp e) (appX1 k y) (callC q (.bi "list.append") [.hnd (e k), y.mp e]) := by
  refine ⟨fun x z x' h1 => ?_, fun x z x' b h1 g o hl S => ?_⟩
  · unfold appX1 at h1
    split at h1
    · obtain ⟨v, x1, e1, h2⟩ := bindX_some h1
      obtain ⟨hs, hd, hg⟩ := askB_ok e1
      cases v
      · exact noS h2
      · induction h2 using E2
        exact ⟨fun z => (hg z).1, fun o p hp => o p (by rw [← hd]; exact hp), by simp [hs]⟩
    · exact noS h1
  · unfold appX1 at h1
    split at h1
    · rename_i l hk
      obtain ⟨v, x1, e1, h2⟩ := bindX_some h1
      obtain ⟨hs, hd, hg⟩ := askB_ok e1
      cases v
      · exact noS h2
      · induction h2 using E2
        have hn := Nat.le_of_ble_eq_true (hg g).2
        have gk := S.get _ _ hk
        have N1 := S.put (.list (l ++ [y])) (lt_of_get hk) (by intro q z; cases z)
        refine ⟨b.set (e k) (O.mp e (.list (l ++ [y]))), ?_, ?_⟩
        · have : appP [.hnd (e k), y.mp e] b = some (.none, b.set (e k) (O.mp e (.list (l ++ [y])))) := by
            show (lstAt b (e k)).bind _ = _
            rw [show lstAt b (e k) = some (V.mps e l) by unfold lstAt; rw [gk]; rfl]
            show (if (V.mps e l).length ≤ sizeLine then _ else none) = _
            rw [mps_length, if_pos hn, O.mp, mps_append]; rfl
          show (callD q (.bi "list.append") [.hnd (e k), y.mp e] b).map _ = _
          rw [callD_app, this]; rfl
        · rw [← hs] at N1; rw [← hs]; exact N1
    · exact noS h1
theorem appX_tr {q : Bool} (args : List V) : TrX G F N e (V.mp e) (appX args) (callC q (.bi "list.append") (V.mps e args)) := by
  unfold appX
  split
  · exact appX1_tr
  · exact .stop
theorem biX_tr {q : Bool} {f : V} (args : List V) {m' : M V} (h : ∀ st, m' st = (callB q (f.mp e) (V.mps e args) st).map fun p => (.ok p.1, p.2)) : TrX G F N e (V.mp e) (biX q f args) m' := by
  refine ⟨fun x y x' h1 => ?_, fun x y x' b h1 g o hl S => ?_⟩
  · obtain ⟨hs, hd, hg⟩ := askV_ok h1
    exact gKeep hs hd fun z => (hg z).1
  · obtain ⟨hs, hd, hg⟩ := askV_ok h1
    rw [hs]
    obtain ⟨⟨z, s⟩, h2, h3⟩ := Option.map_eq_some_iff.mp (hg g).2
    induction h3 using E8
    obtain ⟨rfl, h4⟩ := callB_tr S h2
    exact ⟨b, by rw [h, h4]; rfl, .refl S⟩
theorem okJ_lt {n : Nat} : ∀ {l : List Nat}, okJ n l = true → ∀ k ∈ l, k < n
  | [], _, k, h => by cases h
  | x :: r, hj, k, h => by
    unfold okJ at hj
    rw [Bool.and_eq_true, Bool.and_eq_true] at hj
    rcases List.mem_cons.mp h with rfl | h
    · have := hj.1.1; rw [Nat.blt] at this; exact Nat.le_of_ble_eq_true this
    · exact okJ_lt hj.2 k h
theorem okJ_nd {n : Nat} : ∀ {l : List Nat}, okJ n l = true → l.Nodup
  | [], _ => List.nodup_nil
  | x :: r, hj => by
    unfold okJ at hj
    rw [Bool.and_eq_true, Bool.and_eq_true] at hj
    refine List.nodup_cons.mpr ⟨fun hx => ?_, okJ_nd hj.2⟩
    have := List.all_eq_true.mp hj.1.2 x hx
    simp at this
theorem putAll_length {j : Nat → Nat} : ∀ (l : List Nat) (os a : Sto), l.length ≤ os.length → (putAll j l os a).length = a.length + (os.length - l.length)
  | k :: r, o :: os, a, h => by
    unfold putAll
    rw [putAll_length r os _ (by simp at h; exact h)]
    simp
  | [], os, a, _ => by unfold putAll; simp
  | _ :: _, [], a, h => by simp at h
theorem putAll_new {j : Nat → Nat} : ∀ (l : List Nat) (os a : Sto) (i : Nat), l.length ≤ i → (putAll j l os a)[a.length + (i - l.length)]? = (os[i]?).map (O.mp j)
  | k :: r, o :: os, a, i, h => by
    unfold putAll
    have := putAll_new (j := j) r os (a.set k (o.mp j)) (i - 1) (by simp at h; lia)
    rw [List.length_set] at this
    simp only [List.length_cons] at h ⊢
    rw [show a.length + (i - (r.length + 1)) = a.length + (i - 1 - r.length) by lia, this]
    obtain ⟨i', rfl⟩ : ∃ i', i = i' + 1 := ⟨i - 1, by lia⟩
    simp
  | [], os, a, i, _ => by
    unfold putAll
    rw [List.getElem?_append_right (by simp), List.getElem?_map]
    congr 2
    simp
  | _ :: r, [], a, i, h => by
    unfold putAll
    simp
theorem putAll_off {j : Nat → Nat} : ∀ (l : List Nat) (os a : Sto) (k : Nat), k < a.length → k ∉ l → (putAll j l os a)[k]? = a[k]?
  | x :: r, o :: os, a, k, h, hn => by
    unfold putAll
    simp only [List.mem_cons, not_or] at hn
    rw [putAll_off r os _ k (by simpa using h) hn.2, List.getElem?_set_ne (Ne.symm hn.1)]
  | [], os, a, k, h, _ => by unfold putAll; exact List.getElem?_append_left h
  | _ :: _, [], a, k, h, _ => rfl
theorem putAll_at {j : Nat → Nat} : ∀ (l : List Nat) (os a : Sto) (i k : Nat), l.Nodup → (∀ k ∈ l, k < a.length) → i < os.length → l[i]? = some k → (putAll j l os a)[k]? = (os[i]?).map (O.mp j)
  | x :: r, o :: os, a, i, k, nd, hl, ho, h => by
    unfold putAll
    obtain ⟨n1, n2⟩ := List.nodup_cons.mp nd
    cases i with
    | zero =>
      simp at h
      subst h
      have hx := hl x List.mem_cons_self
      rw [putAll_off r os _ x (by simpa using hx) n1]
      simp [hx]
    | succ i =>
      simp at h ho
      have := putAll_at (j := j) r os (a.set x (o.mp j)) i k n2 (fun k hk => by simpa using hl k (List.mem_cons_of_mem _ hk)) ho h
      simpa using this
  | [], os, a, i, k, _, _, _, h => by simp at h
  | _ :: _, [], a, i, k, _, _, ho, _ => by simp at ho
theorem tabsFix_at : ∀ (k : Nat) (l : List Nat) (os : Sto) (i : Nat) (q : Str), tabsFix k l os = true → os[i]? = some (.tab q) → l[i]? = some (k + i)
  | k, x :: r, o :: os, i, q, h, ho => by
    unfold tabsFix at h
    rw [Bool.and_eq_true] at h
    cases i with
    | zero =>
      simp at ho
      subst ho
      have := h.1
      simp [isTab] at this
      simp [this]
    | succ i =>
      simp at ho
      have := tabsFix_at (k + 1) r os i q h.2 ho
      simp [this]; lia
  | k, [], os, i, q, h, ho => by
    have : os.all (fun o => !isTab o) = true := by cases os <;> simpa [tabsFix] using h
    have := List.all_eq_true.mp this _ (List.mem_of_getElem? ho)
    simp [isTab] at this
  | k, _ :: _, [], i, q, h, ho => by simp at ho
end
section
variable {G : Pg} {F : Fs} {N : Nat} {e : Nat → Nat}
theorem jof_in {jl : List Nat} {n i k : Nat} (h : jl[i]? = some k) : jof jl n i = k := by
  obtain ⟨hlt, hk⟩ := List.getElem?_eq_some_iff.mp h
  unfold jof
  have : Nat.blt i jl.length = true := by rw [Nat.blt]; exact Nat.ble_eq_true_of_le hlt
  rw [this]
  dsimp only
  simp [List.getD, h]
theorem jof_new {jl : List Nat} {n i : Nat} (h : jl.length ≤ i) (hf : i < far) : jof jl n i = n + (i - jl.length) := by
  unfold jof
  have : Nat.blt i jl.length = false := by
    rw [Nat.blt]; cases hb : Nat.ble (i + 1) jl.length
    · rfl
    · have := Nat.le_of_ble_eq_true hb; lia
  rw [this]
  have : Nat.blt i far = true := by rw [Nat.blt]; exact Nat.ble_eq_true_of_le hf
  dsimp only
  rw [this]
theorem jof_far {jl : List Nat} {n h : Nat} (hl : jl.length ≤ far) : jof jl n (far + h) = far + h := by
  unfold jof
  have : Nat.blt (far + h) jl.length = false := by
    rw [Nat.blt]; cases hb : Nat.ble (far + h + 1) jl.length
    · rfl
    · have := Nat.le_of_ble_eq_true hb; lia
  rw [this]
  have : Nat.blt (far + h) far = false := by
    rw [Nat.blt]; cases hb : Nat.ble (far + h + 1) far
    · rfl
    · have := Nat.le_of_ble_eq_true hb; lia
  dsimp only
  rw [this]
theorem nd_inj {l : List Nat} (h : l.Nodup) {i k : Nat} (hi : i < l.length) (hk : k < l.length) (e : l[i] = l[k]) : i = k := by
  have p := List.pairwise_iff_getElem.mp h
  rcases Nat.lt_trichotomy i k with q | q | q
  · exact (p i k hi hk q e).elim
  · exact q
  · exact (p k i hk hi q e.symm).elim
section
variable {jl : List Nat} {i i' n L k : Nat} {P : Prop} {a st b os b' : Sto} {o : O}
theorem jof_case (hi : i < far) (h1 : ∀ k, jl[i]? = some k → k ∈ jl → jof jl n i = k → P) (h2 : jl.length ≤ i → jof jl n i = n + (i - jl.length) → P) : P :=
  (Nat.lt_or_ge i jl.length).elim (fun h => h1 _ (List.getElem?_eq_getElem h) (List.getElem_mem h) (jof_in (List.getElem?_eq_getElem h))) fun h => h2 h (jof_new h hi)
theorem jof_lt {M : Nat} (hlt : ∀ k ∈ jl, k < n) (hi : i < L) (hL : L ≤ far) (hN : n + (L - jl.length) ≤ M) : jof jl n i < M :=
  jof_case (Nat.lt_of_lt_of_le hi hL) (fun k _ m e => e ▸ Nat.lt_of_lt_of_le (hlt k m) (Nat.le_trans (Nat.le_add_right ..) hN)) fun g e => by rw [e]; lia
theorem jof_inj (hlt : ∀ k ∈ jl, k < n) (hnd : jl.Nodup) (hi : i < far) (hi' : i' < far) (h : jof jl n i = jof jl n i') : i = i' :=
  jof_case (n := n) hi (fun k e m h1 => jof_case (n := n) hi' (fun k' e' m' h2 => (List.getElem?_inj (lt_of_get e) hnd).mp (e.trans (e'.trans (congrArg some (h2.symm.trans (h.symm.trans h1)))).symm)) fun g h2 => absurd (hlt k m) (by lia)) fun g h1 => jof_case (n := n) hi' (fun k' e' m' h2 => absurd (hlt k' m') (by lia)) fun g' h2 => by lia
theorem emb (S : Sim N e st b) (hn : jl.length = a.length) (hle : a.length ≤ os.length) (hj : okJ st.length jl = true) (hf : os.length ≤ far) (ht : tabsFix 0 jl a = true) (hN : (putAll (jof jl st.length) jl os st).length ≤ N)
    (hp : a.map (O.mp (jof jl st.length)) = jl.map fun k => (st[k]?).getD default) : Sim os.length (fun k => e (jof jl st.length k)) a b := by
  have hlt := okJ_lt hj
  rw [← hn] at hle
  rw [putAll_length _ _ _ hle] at hN
  have key : ∀ i, i < os.length → jof jl st.length i < N := fun i hi => jof_lt hlt hi hf hN
  have hget : ∀ {i : Nat} {o : O}, a[i]? = some o → jl[i]? = some (jof jl st.length i) ∧ st[jof jl st.length i]? = some (o.mp (jof jl st.length)) := fun {i o} h => by
    have hi : i < jl.length := hn ▸ lt_of_get h
    have h1 := List.getElem?_eq_getElem hi
    rw [jof_in h1]
    have h2 := congrArg (fun l => l[i]?) hp
    simp only [List.getElem?_map, h, h1, Option.map_some] at h2
    rw [List.getElem?_eq_getElem (hlt _ (List.getElem_mem hi))] at h2 ⊢
    exact ⟨h1, h2.symm⟩
  refine ⟨fun i o h => omp_mp .. ▸ S.get _ _ (hget h).2, fun i h1 h2 => ?_, fun i i' h1 h2 h => jof_inj hlt (okJ_nd hj) (Nat.lt_of_lt_of_le h1 hf) (Nat.lt_of_lt_of_le h2 hf) (S.inj _ _ (key i h1) (key i' h2) h), fun h => (congrArg e (jof_far (Nat.le_trans hle hf))).trans (S.out h), hn ▸ hle, hf, fun i q h => ?_⟩
  · have h3 := jof_new (n := st.length) (hn ▸ h1 : jl.length ≤ i) (Nat.lt_of_lt_of_le h2 hf)
    have h4 := key i h2
    rw [h3] at h4
    rw [h3, S.nxt _ (Nat.le_add_right ..) h4, Nat.add_sub_cancel_left, hn]
  · obtain ⟨h1, h2⟩ := hget h
    have h3 := (sInj (h1.symm.trans (tabsFix_at _ _ _ _ _ ht h))).trans (Nat.zero_add i)
    rw [h3] at h2 ⊢
    exact S.fix _ q h2
theorem putAll_case (hlt : ∀ k ∈ jl, k < st.length) (hnd : jl.Nodup) (hle : jl.length ≤ os.length) (hf : os.length ≤ far) (ht : tabsFix 0 jl os = true) (h : (putAll (jof jl st.length) jl os st)[k]? = some o)
    (h1 : ∀ i o', os[i]? = some o' → o'.mp (jof jl st.length) = o → jof jl st.length i = k → (∀ q, o' = .tab q → k = i) → P) (h2 : k < st.length → k ∉ jl → st[k]? = some o → P) : P := by
  by_cases hk : k < st.length
  · by_cases hm : k ∈ jl
    · obtain ⟨i, hi⟩ := List.getElem?_of_mem hm
      rw [putAll_at jl os st i k hnd hlt (Nat.lt_of_lt_of_le (lt_of_get hi) hle) hi] at h
      exact mapE h fun o' g1 g2 => h1 i o' g1 g2 (jof_in hi) fun q hq => (sInj (hi.symm.trans (tabsFix_at _ _ _ _ _ ht (hq ▸ g1)))).trans (Nat.zero_add i)
    · rw [putAll_off _ _ _ _ hk hm] at h
      exact h2 hk hm h
  · obtain ⟨j, rfl⟩ := Nat.exists_eq_add_of_le (Nat.not_lt.mp hk)
    have := putAll_new (j := jof jl st.length) jl os st (jl.length + j) (Nat.le_add_right ..)
    rw [Nat.add_sub_cancel_left] at this
    rw [this] at h
    exact mapE h fun o' g1 g2 => h1 _ o' g1 g2 ((jof_new (Nat.le_add_right ..) (Nat.lt_of_lt_of_le (lt_of_get g1) hf)).trans (by rw [Nat.add_sub_cancel_left])) fun q hq => absurd (lt_of_get (tabsFix_at _ _ _ _ _ ht (hq ▸ g1))) (by lia)
theorem emb_back (S : Sim N e st b) (hn : jl.length = a.length) (hle : a.length ≤ os.length) (hj : okJ st.length jl = true) (hf : os.length ≤ far) (ht : tabsFix 0 jl os = true)
    (hN : (putAll (jof jl st.length) jl os st).length ≤ N) (X : Nx os.length (fun k => e (jof jl st.length k)) a b os b') : Nx N e st b (putAll (jof jl st.length) jl os st) b' := by
  have hlt := okJ_lt hj
  rw [← hn] at hle
  have hgr := X.gr
  rw [← hn] at hgr
  have hlen := putAll_length (j := jof jl st.length) jl os st hle
  have off : ∀ {i : Nat} {k : Nat}, i < a.length → k < N → e (jof jl st.length i) = e k → k ∈ jl := fun hi hk he => by
    have h1 := List.getElem?_eq_getElem (hn ▸ hi : _ < jl.length)
    rw [jof_in h1] at he
    have hm := List.getElem_mem (hn ▸ hi : _ < jl.length)
    exact S.inj _ _ (Nat.lt_of_lt_of_le (hlt _ hm) S.len) hk he ▸ hm
  refine ⟨⟨fun k o h => putAll_case hlt (okJ_nd hj) hle hf ht h (fun i o' h1 h2 h3 _ => ?_) fun h1 h2 h3 => X.O _ _ (S.get _ _ h3) fun i hi he => h2 (off hi (Nat.lt_of_lt_of_le h1 S.len) he), fun k h1 h2 => ?_, S.inj, S.out, hN, S.cap, fun k q h => putAll_case hlt (okJ_nd hj) hle hf ht h (fun i o' h1 h2 h3 h4 => ?_) fun _ _ h3 => S.fix _ _ h3⟩, fun i o h hno => X.O _ _ h fun i hi he => ?_, ?_, ?_⟩
  · have := X.S.get _ _ h1
    rw [h3] at this
    rw [← h2, omp_mp]; exact this
  · rw [hlen] at h1 ⊢
    rw [S.nxt k (by lia) h2]; lia
  · have h2 := omp_tab.mp h2
    have := X.S.fix _ q (h2 ▸ h1)
    rw [h3, ← h4 q h2] at this; exact this
  · have h1 := List.getElem?_eq_getElem (hn ▸ hi : i < jl.length)
    rw [jof_in h1] at he
    exact hno _ (hlt _ (List.getElem_mem _)) he
  · rw [hlen]; exact Nat.le_add_right ..
  · rw [hlen]; lia
end
set_option tactic.hygienic true in
theorem orcX_tr {n : Nat} {q : Bool} {a : Addr} {args : List V} {m : XM V} (h : TrX G F N e (V.mp e) m (callF G F (n + 1) q (.glob a) (V.mps e args))) : TrX G F N e (V.mp e) (orcX (n + 1) q a args m) (callF G F (n + 1) q (.glob a) (V.mps e args)) := by
  have key : ∀ x y x', orcX (n + 1) q a args m x = some (y, x') → ∀ {P : Prop}, (m x = some (y, x') → P) → (∀ o jl dc', x.dc = (o, jl) :: dc' → x'.dc = dc' → y = o.y.mp (jof jl x.st.length) → x'.st = putAll (jof jl x.st.length) jl o.a' x.st → a = o.f → q = o.q → o.need ≤ n + 1 → jl.length = o.a.length → o.a.length ≤ o.a'.length → okJ x.st.length jl = true → o.a'.length ≤ far → tabsFix 0 jl o.a = true → tabsFix 0 jl o.a' = true → (x'.cs → x.cs ∧ V.mps (jof jl x.st.length) o.vs = args ∧ o.a.map (O.mp (jof jl x.st.length)) = jl.map fun k => (x.st[k]?).getD default) → P) → P := by
    intro x y x' h1 P ka kb
    obtain ⟨st, ds, dc, cs⟩ := x
    unfold orcX at h1
    dsimp only at h1
    split at h1
    · exact ka h1
    · rename_i o jl dc'
      split at h1
      · rename_i ha
        split at h1
        · rename_i y' st' p p' ho
          unfold callOrc at ho
          dsimp only at ho
          split at ho
          · rename_i hb
            simp only [Bool.and_eq_true] at hb
            obtain ⟨⟨⟨⟨⟨⟨⟨⟨b1, b2⟩, b3⟩, b4⟩, b5⟩, b6⟩, b7⟩, b8⟩, b9⟩ := hb
            cases ho
            induction h1 using E2
            exact kb o jl _ rfl rfl rfl rfl (Nat.eq_of_beq_eq_true b1) (beq_iff_eq.mp b2) (Nat.le_of_ble_eq_true b3) (Nat.eq_of_beq_eq_true b4) (Nat.le_of_ble_eq_true b5) b6 (Nat.le_of_ble_eq_true b7) b8 b9 fun g => ⟨g.2, congrArg Prod.fst g.1, congrArg Prod.snd g.1⟩
          · exact noS ho
        · exact noS h1
      · exact ka h1
  refine ⟨fun x y x' h1 => ?_, fun x y x' b h1 g ok hl S => ?_⟩
  · refine key x y x' h1 (fun h1 => ?_) fun o jl dc' k1 k2 k3 k4 k5 k6 k7 k8 k9 k10 k11 k12 k13 k14 => ?_
    · exact h.g _ _ _ h1
    · refine ⟨fun z => (k14 z).1, fun z p hp => z p ?_, ?_⟩
      · rw [k1]; rw [k2] at hp; exact List.mem_cons_of_mem _ hp
      · rw [k4, putAll_length _ _ _ (by lia)]; lia
  · refine key x y x' h1 (fun h1 => ?_) fun o jl dc' k1 k2 k3 k4 k5 k6 k7 k8 k9 k10 k11 k12 k13 k14 => ?_
    · exact h.t _ _ _ _ h1 g ok hl S
    · obtain ⟨_, hv, hp⟩ := k14 g
      rw [k4] at hl ⊢
      have hok := ok (o, jl) (by rw [k1]; exact List.mem_cons_self) (n + 1 - o.need)
      dsimp only at hok
      rw [show n + 1 - o.need + o.need = n + 1 by lia] at hok
      obtain ⟨b', e1, X⟩ := hok _ b (emb S k8 k9 k10 k11 k12 hl hp)
      refine ⟨b', ?_, emb_back S k8 k9 k10 k11 k13 hl X⟩
      rw [k3, mp_mp, ← e1, k5, k6, ← hv, mps_mps]
      rfl
def Plain (G : Pg) (F : Fs) : Prop := GFlat G ∧ FFlat F
set_option tactic.hygienic true in
theorem callX_tr (hP : Plain G F) : ∀ n, CfTr G F N e (callX G F n) (callF G F n)
  | 0 => fun q f vs => .stop
  | n + 1 => fun q f vs => by
    have ih : CfTr G F N e (callX G F n) (callF G F n) := callX_tr hP n
    have hbody : ∀ (fn : Fn) CL ρ, TrX G F N e (mpF e) (bodyX G (callX G F n) fn q CL ρ) (bodyM G (callF G F n) fn q (mpC e CL) (mpP e ρ)) := fun fn CL ρ => .seq (fun s ρ => stX_tr (evX_tr hP.1 ih deep) deep s ρ) _ ρ
    cases f with
    | glob a =>
      refine orcX_tr (m := globX G F (callX G F n) q a vs) ?_
      unfold globX callF
      dsimp only
      cases hfn : F.fns a with
      | some fn => exact fnX_tr (hP.2 _ _ hfn) (hbody fn) vs
      | none =>
        dsimp only
        cases hi : F.inits a with
        | none => exact .stop
        | some i =>
          dsimp only
          cases hfi : F.fns i with
          | none => exact .stop
          | some fn => exact clsX_tr (fun args => fnX_tr (hP.2 _ _ hfi) (hbody fn) args) vs
    | hnd k =>
      unfold callX
      dsimp only [V.mp]
      refine ⟨fun x y x' h1 => ?_, fun x y x' b h1 g ok hl S => ?_⟩
      · split at h1
        · split at h1
          · exact (lamCallX_tr (N := N) (e := e) (ev' := lamBody G (callF G F n) _ _ q _) (fun CL ρ => (evX_tr hP.1 ih deep).val false _ CL ρ _) _).g _ _ _ h1
          · cases h1
        · cases h1
      · split at h1
        · rename_i params body sc qual cl hst
          split at h1
          · rename_i hok
            obtain ⟨b', e1, X⟩ := (lamCallX_tr (N := N) (e := e) (ev' := lamBody G (callF G F n) _ _ q _) (fun CL ρ => (evX_tr hP.1 ih deep).val false _ CL ρ _) _).t _ _ _ _ h1 g ok hl S
            refine ⟨b', ?_, X⟩
            unfold callF
            dsimp only
            rw [S.get _ _ hst]
            dsimp only [O.mp]
            rw [hok]
            exact e1
          · cases h1
        · cases h1
    | bi id =>
      unfold callX callF
      dsimp only [V.mp]
      split
      · rename_i hid
        rw [beq_iff_eq.mp hid]
        exact appX_tr vs
      · rename_i hid
        split
        · exact .lift callC_tr
        · rename_i hid2
          refine biX_tr vs fun st => ?_
          have h1 : id ≠ "list.append" := fun z => by rw [z] at hid; simp at hid
          have h2 : id ≠ "list.pop" := fun z => by rw [z] at hid2; simp at hid2
          have h3 : id ≠ "dict.get" := fun z => by rw [z] at hid2; simp at hid2
          exact congrArg (Option.map fun p : V × Sto => ((Except.ok p.1 : Except Addr V), p.2)) (show callD q (.bi id) (V.mps e vs) st = callB q (.bi id) (V.mps e vs) st from (if_neg h1).trans ((if_neg h2).trans (if_neg h3)))
    | ty id =>
      unfold callX callF
      dsimp only [V.mp]
      split
      · exact .lift callC_tr
      · rename_i hid
        refine biX_tr vs fun st => ?_
        have h1 : id ≠ "dict" := fun z => by rw [z] at hid; simp at hid
        exact congrArg (Option.map fun p : V × Sto => ((Except.ok p.1 : Except Addr V), p.2)) (show callD q (.ty id) (V.mps e vs) st = callB q (.ty id) (V.mps e vs) st from if_neg h1)
    | _ => exact .stop
end
noncomputable abbrev S (x : String) : Str := Str.ofString x
noncomputable abbrev P0 : Program := PySem.Challenge.pw_pc0149_02
def clsBody : Stmt → List Stmt
  | .ClassDef _ _ _ b .. => b
  | _ => []
noncomputable def sAt (i : Nat) : Stmt := P0.main.body.getD i (.Pass ⟨0,0,0,0⟩)
noncomputable def mAt (i j : Nat) : Stmt := (clsBody (sAt i)).getD j (.Pass ⟨0,0,0,0⟩)
noncomputable def fdOf (st : Stmt) (qual : Str) (gl : Addr) (dV kV doc pm : Value) (an : Option Addr) (cd ct : Value) (bi : Addr) : FuncData := match st with
  | .FunctionDef n a b _ _ _ sc .. => { name := n, qualname := qual, params := a, body := .stmts b, scope := sc, globals := gl, closure := [], defaults := dV, kwdefaults := kV, doc := doc, pyModule := pm, annotations := an, code := cd, closureTuple := ct, builtins := bi }
  | _ => default
noncomputable def sv (x : String) (t : Tok) : Value := .str (S x) t
noncomputable def de (P : Params) (x : String) (t : Tok) (v : Value) : DictEntry := ⟨PyData.keyHash P (S x), .str (S x) t, v⟩
noncomputable def dO (l : List DictEntry) (n : Nat) : Obj := ⟨.type "dict", none, .dict ⟨l⟩ n, ⟨[]⟩⟩
noncomputable def tO (l : List Value) : Obj := ⟨.type "tuple", none, .seq ⟨l⟩ 0, ⟨[]⟩⟩
noncomputable def fO (l : List Value) : Obj := ⟨.none, none, .fields ⟨l⟩, ⟨[]⟩⟩
noncomputable def tF (x : String) (l : List Value) : Obj := ⟨.type x, none, .fields ⟨l⟩, ⟨[]⟩⟩
noncomputable def gO (s : Stmt) (q : String) : Obj := ⟨.none, none, .func (fdOf s (S q) 0 .none .none .none .none none .none .none 0), ⟨[]⟩⟩
noncomputable def hO (s : Stmt) (q : String) (d m : Value) (c : Addr) : Obj := ⟨.type "function", none, .func (fdOf s (S q) 3 d .none .none m none (.ref c) .none 0), ⟨[]⟩⟩
noncomputable def cut (t : Tok) : Value := sv "/claim/cut.py" t
noncomputable def cO (n q : String) (t : Tok) (l : List Int) (x : Addr) (b : Bool) (y : Addr) (u v w : Value) (m k : Int) (z : Tok) : Obj := ⟨.type "code", none, .fields ⟨sv n t :: sv q (t + 1) :: cut (t + 2) :: (l.map fun i => Value.int i 0) ++ [.ref x, .bool b, .int 181 0, .ref y, .none, u, v, w, .int m 0, .int k 0, cut z]⟩, ⟨[]⟩⟩
noncomputable def insAll : BT → Nat → List Obj → BT
  | T, _, [] => T
  | T, n, o :: l => insAll (T.ins n o) (n + 1) l
noncomputable def setAll : BT → List (Nat × Obj) → BT
  | T, [] => T
  | T, (a, o) :: l => setAll (T.set a fun _ => o) l
noncomputable def envT : Env := { scope := P0.main.scope, locals := mainNs, globals := mainNs, cells := [], code := .ref 13, frame := some 14 }
noncomputable def cdT : Code := .body (behindTheImports P0) envT
noncomputable def pz : Pos := ⟨0,0,0,0⟩
noncomputable def B0 : List Frame := [topFrame pz]
noncomputable abbrev segY := PySem.W.Fast.tw10110043849684766642
noncomputable abbrev tabY := PySem.W.Fast.tw14364793385576792824
theorem execs_y : execs = PySem.W.Fast.tw12563942051412417395 := PySem.W.Fast.te12563942051412417395
noncomputable abbrev execsY := PySem.W.Fast.tw12563942051412417395
theorem seg_y : @segRunT = segY := PySem.W.Fast.te10110043849684766642
theorem tab_y : treeTable = tabY := PySem.W.Fast.te14364793385576792824
theorem piece_y {w : World} {n : Nat} {s s' : SharedT} {l : List Stmt} {pos p' : Pos}
    (h : segY tabY P0 w 11 (some (.ref 6)) 1 n s ⟨(execsY l envT).wrap doneF deadEnd id id, cdT, pos, B0⟩ = some (.next, s', cdT, p')) :
    segRun treeTable P0 w 11 (some (.ref 6)) 1 n s.abs (piecesOf l envT cdT pos B0) = some (.next, s'.abs, cdT, p') := by
  refine segRun_of ?_
  rw [seg_y, tab_y]
  show segY tabY P0 w 11 (some (.ref 6)) 1 n s ⟨(execs l envT).wrap doneF deadEnd id id, cdT, pos, B0⟩ = _
  rw [execs_y]
  exact h
def o11 : Obj := tO []
def fo12 : List Value := []
def o12 : Obj := fO fo12
def o13 : Obj := cO "<module>" "<module>" 182 [1, 0, 0, 0, 0] 11 false 12 .none .none .none 185 1 186
def o14 : Obj := ⟨.type "frame", none, .plain, ⟨[some (.ref 13), some (.ref 3), some (.ref 3), none, some (sv "__main__" 164), none, some (.ref 0)]⟩⟩
def hpA (P : Params) : Heap := ⟨⟨[boot_o_0 P, boot_o_1 P, boot_o_2 P, boot_o_3 P, boot_o_4 P, boot_o_5 P, boot_o_6 P, boot_o_7 P, boot_o_8 P, boot_o_9 P, boot_o_10 P, o11, o12, o13, o14]⟩, {}⟩
def SA (w : World) (os : OsState) : Shared := ⟨hpA w.params, ⟨[]⟩, {}, 187, os⟩
def Tb (P : Params) : BT := insAll .nil 0 [boot_o_0 P, boot_o_1 P, boot_o_2 P, boot_o_3 P, boot_o_4 P, boot_o_5 P, boot_o_6 P, boot_o_7 P, boot_o_8 P, boot_o_9 P, boot_o_10 P, o11, o12, o13, o14]
def Sb (w : World) (os : OsState) : SharedT := ⟨Tb w.params, 15, {}, ⟨[]⟩, {}, 187, os⟩
theorem pre_ : ∀ (w : World) (os : OsState), topGo treeTable P0 w 11 (some (.ref 6)) 12 ⟨boot_heap w.params, ⟨[]⟩, boot_drawn, boot_toks, os⟩ (topStub P0) = some (SA w os, ⟨denote treeTable cdT, cdT, pz, B0⟩) := by
  intro w os; kernel_rfl
theorem block_ : ∀ (w : World) (os : OsState), segRun treeTable P0 w 11 (some (.ref 6)) 1 1 (SA w os) (blockOf (behindTheImports P0) envT cdT pz B0) = some (.next, (Sb w os).abs, cdT, pz) := by
  intro w os; kernel_rfl
def eo3_0 (P : Params) : List DictEntry := [de P "__doc__" 166 .none, de P "__package__" 167 .none, de P "__loader__" 168 (.builtin "__main__.__loader__#opaque"), de P "__spec__" 169 .none, de P "__annotations__" 170 (.ref 6), de P "__builtins__" 171 (.ref 4), de P "__file__" 173 (sv "/claim/cut.py" 172), de P "__cached__" 174 .none, de P "Deeds" 223 (.ref 31), de P "always" 230 (.ref 42), de P "negated_if" 238 (.ref 49), de P "truth_of" 245 (.ref 56), de P "alike_truths" 253 (.ref 63), de P "object_cond" 263 (.ref 70)]
def o3_0 (P : Params) : Obj := dO (de P "__name__" 165 (sv "ledgerspeak.runner" 187) :: eo3_0 P) 15
def fo12_0 : List Value := fo12 ++ [.int 2 0, .int 0 0, .ref 20, .int 9 0, .int 0 0, .ref 41, .int 12 0, .int 0 0, .ref 48, .int 14 0, .int 0 0, .ref 55, .int 18 0, .int 0 0, .ref 62, .int 20 0, .int 0 0, .ref 69]
def o12_0 : Obj := fO fo12_0
def o15_0 : Obj := tO []
def o16_0 : Obj := tF "builtin_function_or_method" [.builtin "type.__prepare__", .type "type"]
def o17_0 (P : Params) : Obj := dO [de P "__module__" 196 (sv "ledgerspeak.runner" 187), de P "__qualname__" 198 (sv "Deeds" 197), de P "__firstlineno__" 200 (.int 2 199), de P "__init__" 211 (.ref 28), de P "__static_attributes__" 216 (.ref 29)] 5
def o18_0 : Obj := tO []
def o19_0 : Obj := fO [.int 4 0, .int 4 0, .ref 27]
def o20_0 : Obj := cO "Deeds" "Deeds" 191 [2, 0, 0, 0, 0] 18 false 19 .none .none .none 194 2 195
def o21_0 : Obj := ⟨.type "frame", none, .plain, ⟨[some (.ref 20), some (.ref 3), some (.ref 17), none, some (sv "ledgerspeak.runner" 187), none, some (.ref 0)]⟩⟩
def o22_0 : Obj := tO []
def o23_0 : Obj := fO []
def o24_0 : Obj := tO [sv "self" 204, sv "do" 205, sv "test" 206, sv "number" 207, sv "put" 208]
def o25_0 : Obj := tO []
def o26_0 : Obj := gO (mAt 1 0) "Deeds.__init__"
def o27_0 : Obj := cO "__init__" "Deeds.__init__" 201 [4, 5, 0, 0, 3] 22 true 23 (.ref 24) (.ref 25) (.ref 26) 209 4 210
def o28_0 : Obj := hO (mAt 1 0) "Deeds.__init__" .none (sv "ledgerspeak.runner" 187) 27
def o29_0 : Obj := tO [sv "do" 212, sv "number" 213, sv "put" 214, sv "test" 215]
def o30_0 (P : Params) : Obj := dO [de P "__module__" 196 (sv "ledgerspeak.runner" 187), de P "__firstlineno__" 200 (.int 2 199), de P "__init__" 211 (.ref 28), de P "__static_attributes__" 216 (.ref 29), de P "__dict__" 218 (.ref 32), de P "__weakref__" 220 (.ref 33), de P "__doc__" 221 .none] 4
def o31_0 : Obj := ⟨.type "type", none, (.cls { name := (S "Deeds"), bases := [.type "object"], mro := [.ref 31, .type "object"], ns := 30, qualname := (S "Deeds"), hasDict := true, slotNames := [], subclasses := [], abstract := false, collection := none, hasDel := false }), ⟨[none, none, some (sv "Deeds" 189), some (sv "Deeds" 197), some (.builtin "object.__new__"), some (.bool true)]⟩⟩
def o32_0 : Obj := tF "getset_descriptor" [sv "__dict__" 217, .ref 31, .builtin "function.__dict__", .builtin "function.__dict__#set"]
def o33_0 : Obj := tF "getset_descriptor" [sv "__weakref__" 219, .ref 31, .builtin "ExceptionGroup.__weakref__", .none]
def o34_0 : Obj := tF "super" [.ref 31, .ref 31, .ref 31]
def o35_0 : Obj := tF "builtin_function_or_method" [.builtin "object.__init_subclass__", .ref 31]
def o36_0 : Obj := tO []
def o37_0 : Obj := fO []
def o38_0 : Obj := tO [sv "nought" 227]
def o39_0 : Obj := tO []
def o40_0 : Obj := gO (sAt 2) "always"
def o41_0 : Obj := cO "always" "always" 224 [9, 0, 0, 0, 3] 36 true 37 (.ref 38) (.ref 39) (.ref 40) 228 9 229
def o42_0 : Obj := hO (sAt 2) "always" .none (sv "ledgerspeak.runner" 187) 41
def o43_0 : Obj := tO []
def o44_0 : Obj := fO []
def o45_0 : Obj := tO [sv "cond" 234, sv "is_not" 235]
def o46_0 : Obj := tO []
def o47_0 : Obj := gO (sAt 3) "negated_if"
def o48_0 : Obj := cO "negated_if" "negated_if" 231 [12, 2, 0, 0, 3] 43 true 44 (.ref 45) (.ref 46) (.ref 47) 236 12 237
def o49_0 : Obj := hO (sAt 3) "negated_if" .none (sv "ledgerspeak.runner" 187) 48
def o50_0 : Obj := tO []
def o51_0 : Obj := fO []
def o52_0 : Obj := tO [sv "part" 242]
def o53_0 : Obj := tO []
def o54_0 : Obj := gO (sAt 4) "truth_of"
def o55_0 : Obj := cO "truth_of" "truth_of" 239 [14, 1, 0, 0, 3] 50 true 51 (.ref 52) (.ref 53) (.ref 54) 243 14 244
def o56_0 : Obj := hO (sAt 4) "truth_of" .none (sv "ledgerspeak.runner" 187) 55
def o57_0 : Obj := tO []
def o58_0 : Obj := fO []
def o59_0 : Obj := tO [sv "one" 249, sv "other" 250]
def o60_0 : Obj := tO []
def o61_0 : Obj := gO (sAt 5) "alike_truths"
def o62_0 : Obj := cO "alike_truths" "alike_truths" 246 [18, 2, 0, 0, 3] 57 true 58 (.ref 59) (.ref 60) (.ref 61) 251 18 252
def o63_0 : Obj := hO (sAt 5) "alike_truths" .none (sv "ledgerspeak.runner" 187) 62
def o64_0 : Obj := tO []
def o65_0 : Obj := fO []
def o66_0 : Obj := tO [sv "subject" 257, sv "thing" 258, sv "low" 259, sv "high" 260]
def o67_0 : Obj := tO []
def o68_0 : Obj := gO (sAt 6) "object_cond"
def o69_0 : Obj := cO "object_cond" "object_cond" 254 [20, 2, 0, 0, 3] 64 true 65 (.ref 66) (.ref 67) (.ref 68) 261 20 262
def o70_0 : Obj := hO (sAt 6) "object_cond" .none (sv "ledgerspeak.runner" 187) 69
def T0 (P : Params) : BT := setAll (insAll (Tb P) 15 [o15_0, o16_0, (o17_0 P), o18_0, o19_0, o20_0, o21_0, o22_0, o23_0, o24_0, o25_0, o26_0, o27_0, o28_0, o29_0, (o30_0 P), o31_0, o32_0, o33_0, o34_0, o35_0, o36_0, o37_0, o38_0, o39_0, o40_0, o41_0, o42_0, o43_0, o44_0, o45_0, o46_0, o47_0, o48_0, o49_0, o50_0, o51_0, o52_0, o53_0, o54_0, o55_0, o56_0, o57_0, o58_0, o59_0, o60_0, o61_0, o62_0, o63_0, o64_0, o65_0, o66_0, o67_0, o68_0, o69_0, o70_0]) [(3, (o3_0 P)), (12, o12_0)]
def S0 (w : World) (os : OsState) : SharedT := ⟨T0 w.params, 71, {}, ⟨[]⟩, {}, 264, os⟩
def sts0 : List Stmt := ((behindTheImports P0).drop 0).take 7
def pos0 : Pos := ⟨20, 0, 32, 45⟩
theorem p0 (w : World) (os : OsState) : segRun treeTable P0 w 11 (some (.ref 6)) 1 388 (Sb w os).abs (piecesOf sts0 envT cdT pz B0) = some (.next, (S0 w os).abs, cdT, pos0) := by
  refine piece_y ?_; kernel_rfl
def eo3_1 (P : Params) : List DictEntry := eo3_0 P ++ [de P "row_cond" 275 (.ref 77), de P "rows_cond" 286 (.ref 84), de P "as_ifs" 299 (.ref 91), de P "goal_parts" 309 (.ref 98), de P "sort_parts" 320 (.ref 105), de P "BRANCHED" 337 (.ref 106), de P "branches_of" 343 (.ref 111), de P "JOINERS" 349 (.ref 112), de P "OPERANDS" 355 (.ref 113), de P "QUIET" 358 (.ref 114), de P "LET" 361 (.int (-1) 360)]
def o3_1 (P : Params) : Obj := dO (de P "__name__" 165 (sv "ledgerspeak.codes" 344) :: eo3_1 P) 26
def fo12_1 : List Value := fo12_0 ++ [.int 33 0, .int 0 0, .ref 76, .int 40 0, .int 0 0, .ref 83, .int 46 0, .int 0 0, .ref 90, .int 53 0, .int 0 0, .ref 97, .int 57 0, .int 0 0, .ref 104, .int 72 0, .int 0 0, .ref 110]
def o12_1 : Obj := fO fo12_1
def o71_1 : Obj := tO []
def o72_1 : Obj := fO []
def o73_1 : Obj := tO [sv "subjects" 267, sv "things" 268, sv "found" 269, sv "subject" 270, sv "thing" 271, sv "cond" 272]
def o74_1 : Obj := tO []
def o75_1 : Obj := gO (sAt 7) "row_cond"
def o76_1 : Obj := cO "row_cond" "row_cond" 264 [33, 2, 0, 0, 3] 71 true 72 (.ref 73) (.ref 74) (.ref 75) 273 33 274
def o77_1 : Obj := hO (sAt 7) "row_cond" .none (sv "ledgerspeak.runner" 187) 76
def o78_1 : Obj := tO []
def o79_1 : Obj := fO []
def o80_1 : Obj := tO [sv "subjects" 279, sv "rows" 280, sv "found" 281, sv "things" 282, sv "cond" 283]
def o81_1 : Obj := tO []
def o82_1 : Obj := gO (sAt 8) "rows_cond"
def o83_1 : Obj := cO "rows_cond" "rows_cond" 276 [40, 2, 0, 0, 3] 78 true 79 (.ref 80) (.ref 81) (.ref 82) 284 40 285
def o84_1 : Obj := hO (sAt 8) "rows_cond" .none (sv "ledgerspeak.runner" 187) 83
def o85_1 : Obj := tO []
def o86_1 : Obj := fO []
def o87_1 : Obj := tO [sv "evaluate" 290, sv "subjects" 291, sv "whens" 292, sv "others" 293, sv "found" 294, sv "rows" 295, sv "statements" 296]
def o88_1 : Obj := tO []
def o89_1 : Obj := gO (sAt 9) "as_ifs"
def o90_1 : Obj := cO "as_ifs" "as_ifs" 287 [46, 1, 0, 0, 3] 85 true 86 (.ref 87) (.ref 88) (.ref 89) 297 46 298
def o91_1 : Obj := hO (sAt 9) "as_ifs" .none (sv "ledgerspeak.runner" 187) 90
def o92_1 : Obj := tO []
def o93_1 : Obj := fO []
def o94_1 : Obj := tO [sv "file" 305, sv "goal" 306]
def o95_1 : Obj := tO []
def o96_1 : Obj := gO (sAt 11) "goal_parts"
def o97_1 : Obj := cO "goal_parts" "goal_parts" 302 [53, 2, 0, 0, 3] 92 true 93 (.ref 94) (.ref 95) (.ref 96) 307 53 308
def o98_1 : Obj := hO (sAt 11) "goal_parts" .none (sv "ledgerspeak.sorting" 300) 97
def o99_1 : Obj := tO []
def o100_1 : Obj := fO []
def o101_1 : Obj := tO [sv "statement" 313, sv "file" 314, sv "keys" 315, sv "found" 316, sv "source" 317]
def o102_1 : Obj := tO []
def o103_1 : Obj := gO (sAt 12) "sort_parts"
def o104_1 : Obj := cO "sort_parts" "sort_parts" 310 [57, 1, 0, 0, 3] 99 true 100 (.ref 101) (.ref 102) (.ref 103) 318 57 319
def o105_1 : Obj := hO (sAt 12) "sort_parts" .none (sv "ledgerspeak.sorting" 300) 104
def o106_1 : Obj := tO [sv "arith" 323, sv "divide" 324, sv "corr" 325, sv "search" 326, sv "search-all" 327, sv "string" 328, sv "unstring" 329, sv "read" 330, sv "write" 331, sv "rewrite" 332, sv "delete" 333, sv "start" 334, sv "return" 335, sv "call" 336]
def o107_1 : Obj := tO []
def o108_1 : Obj := fO []
def o109_1 : Obj := gO (sAt 15) "branches_of"
def o110_1 : Obj := cO "branches_of" "branches_of" 338 [72, 1, 0, 0, 3] 107 true 108 .none .none (.ref 109) 341 72 342
def o111_1 : Obj := hO (sAt 15) "branches_of" .none (sv "ledgerspeak.tree" 321) 110
def o112_1 : Obj := tO [sv "not" 346, sv "and" 347, sv "or" 348]
def o113_1 : Obj := tO [sv "ref" 350, sv "number" 351, sv "text" 352, sv "figure" 353, sv "all" 354]
def o114_1 : Obj := tO [sv "exit" 356, sv "continue" 357]
def T1 (P : Params) : BT := setAll (insAll (T0 P) 71 [o71_1, o72_1, o73_1, o74_1, o75_1, o76_1, o77_1, o78_1, o79_1, o80_1, o81_1, o82_1, o83_1, o84_1, o85_1, o86_1, o87_1, o88_1, o89_1, o90_1, o91_1, o92_1, o93_1, o94_1, o95_1, o96_1, o97_1, o98_1, o99_1, o100_1, o101_1, o102_1, o103_1, o104_1, o105_1, o106_1, o107_1, o108_1, o109_1, o110_1, o111_1, o112_1, o113_1, o114_1]) [(3, (o3_1 P)), (12, o12_1)]
def S1 (w : World) (os : OsState) : SharedT := ⟨T1 w.params, 115, {}, ⟨[]⟩, {}, 362, os⟩
def sts1 : List Stmt := ((behindTheImports P0).drop 7).take 14
def pos1 : Pos := ⟨80, 0, 80, 3⟩
theorem p1 (w : World) (os : OsState) : segRun treeTable P0 w 11 (some (.ref 6)) 1 297 (S0 w os).abs (piecesOf sts1 envT cdT pos0 B0) = some (.next, (S1 w os).abs, cdT, pos1) := by
  refine piece_y ?_; kernel_rfl
def eo3_2 (P : Params) : List DictEntry := eo3_1 P ++ [de P "Code" 399 (.ref 138), de P "labels_of" 406 (.ref 149), de P "relabelled" 412 (.ref 154)]
def o3_2 (P : Params) : Obj := dO (de P "__name__" 165 (sv "ledgerspeak.codes" 344) :: eo3_2 P) 29
def fo12_2 : List Value := fo12_1 ++ [.int 81 0, .int 0 0, .ref 120, .int 89 0, .int 0 0, .ref 148, .int 97 0, .int 0 0, .ref 153]
def o12_2 : Obj := fO fo12_2
def o115_2 : Obj := tO []
def o116_2 : Obj := tF "builtin_function_or_method" [.builtin "type.__prepare__", .type "type"]
def o117_2 (P : Params) : Obj := dO [de P "__module__" 369 (sv "ledgerspeak.codes" 344), de P "__qualname__" 371 (sv "Code" 370), de P "__firstlineno__" 373 (.int 81 372), de P "__init__" 382 (.ref 128), de P "told" 389 (.ref 135), de P "__static_attributes__" 392 (.ref 136)] 6
def o118_2 : Obj := tO []
def o119_2 : Obj := fO [.int 83 0, .int 4 0, .ref 127, .int 87 0, .int 4 0, .ref 134]
def o120_2 : Obj := cO "Code" "Code" 364 [81, 0, 0, 0, 0] 118 false 119 .none .none .none 367 81 368
def o121_2 : Obj := ⟨.type "frame", none, .plain, ⟨[some (.ref 120), some (.ref 3), some (.ref 117), none, some (sv "ledgerspeak.codes" 344), none, some (.ref 0)]⟩⟩
def o122_2 : Obj := tO []
def o123_2 : Obj := fO []
def o124_2 : Obj := tO [sv "self" 377, sv "ops" 378, sv "begins" 379]
def o125_2 : Obj := tO []
def o126_2 : Obj := gO (mAt 21 0) "Code.__init__"
def o127_2 : Obj := cO "__init__" "Code.__init__" 374 [83, 3, 0, 0, 3] 122 true 123 (.ref 124) (.ref 125) (.ref 126) 380 83 381
def o128_2 : Obj := hO (mAt 21 0) "Code.__init__" .none (sv "ledgerspeak.codes" 344) 127
def o129_2 : Obj := tO []
def o130_2 : Obj := fO []
def o131_2 : Obj := tO [sv "self" 386]
def o132_2 : Obj := tO []
def o133_2 : Obj := gO (mAt 21 1) "Code.told"
def o134_2 : Obj := cO "told" "Code.told" 383 [87, 1, 0, 0, 3] 129 true 130 (.ref 131) (.ref 132) (.ref 133) 387 87 388
def o135_2 : Obj := hO (mAt 21 1) "Code.told" .none (sv "ledgerspeak.codes" 344) 134
def o136_2 : Obj := tO [sv "begins" 390, sv "ops" 391]
def o137_2 (P : Params) : Obj := dO [de P "__module__" 369 (sv "ledgerspeak.codes" 344), de P "__firstlineno__" 373 (.int 81 372), de P "__init__" 382 (.ref 128), de P "told" 389 (.ref 135), de P "__static_attributes__" 392 (.ref 136), de P "__dict__" 394 (.ref 139), de P "__weakref__" 396 (.ref 140), de P "__doc__" 397 .none] 4
def o138_2 : Obj := ⟨.type "type", none, (.cls { name := (S "Code"), bases := [.type "object"], mro := [.ref 138, .type "object"], ns := 137, qualname := (S "Code"), hasDict := true, slotNames := [], subclasses := [], abstract := false, collection := none, hasDel := false }), ⟨[none, none, some (sv "Code" 362), some (sv "Code" 370), some (.builtin "object.__new__"), some (.bool true)]⟩⟩
def o139_2 : Obj := tF "getset_descriptor" [sv "__dict__" 393, .ref 138, .builtin "function.__dict__", .builtin "function.__dict__#set"]
def o140_2 : Obj := tF "getset_descriptor" [sv "__weakref__" 395, .ref 138, .builtin "ExceptionGroup.__weakref__", .none]
def o141_2 : Obj := tF "super" [.ref 138, .ref 138, .ref 138]
def o142_2 : Obj := tF "builtin_function_or_method" [.builtin "object.__init_subclass__", .ref 138]
def o143_2 : Obj := tO []
def o144_2 : Obj := fO []
def o145_2 : Obj := tO [sv "op" 403]
def o146_2 : Obj := tO []
def o147_2 : Obj := gO (sAt 22) "labels_of"
def o148_2 : Obj := cO "labels_of" "labels_of" 400 [89, 1, 0, 0, 3] 143 true 144 (.ref 145) (.ref 146) (.ref 147) 404 89 405
def o149_2 : Obj := hO (sAt 22) "labels_of" .none (sv "ledgerspeak.codes" 344) 148
def o150_2 : Obj := tO []
def o151_2 : Obj := fO []
def o152_2 : Obj := gO (sAt 23) "relabelled"
def o153_2 : Obj := cO "relabelled" "relabelled" 407 [97, 2, 0, 0, 3] 150 true 151 .none .none (.ref 152) 410 97 411
def o154_2 : Obj := hO (sAt 23) "relabelled" .none (sv "ledgerspeak.codes" 344) 153
def T2 (P : Params) : BT := setAll (insAll (T1 P) 115 [o115_2, o116_2, (o117_2 P), o118_2, o119_2, o120_2, o121_2, o122_2, o123_2, o124_2, o125_2, o126_2, o127_2, o128_2, o129_2, o130_2, o131_2, o132_2, o133_2, o134_2, o135_2, o136_2, (o137_2 P), o138_2, o139_2, o140_2, o141_2, o142_2, o143_2, o144_2, o145_2, o146_2, o147_2, o148_2, o149_2, o150_2, o151_2, o152_2, o153_2, o154_2]) [(3, (o3_2 P)), (12, o12_2)]
def S2 (w : World) (os : OsState) : SharedT := ⟨T2 w.params, 155, {}, ⟨[]⟩, {}, 413, os⟩
def sts2 : List Stmt := ((behindTheImports P0).drop 21).take 3
def pos2 : Pos := ⟨97, 0, 104, 40⟩
theorem p2 (w : World) (os : OsState) : segRun treeTable P0 w 11 (some (.ref 6)) 1 311 (S1 w os).abs (piecesOf sts2 envT cdT pos1 B0) = some (.next, (S2 w os).abs, cdT, pos2) := by
  refine piece_y ?_; kernel_rfl
def eo3_3 (P : Params) : List DictEntry := eo3_2 P ++ [de P "Draft" 487 (.ref 209)]
def o3_3 (P : Params) : Obj := dO (de P "__name__" 165 (sv "ledgerspeak.codes" 344) :: eo3_3 P) 30
def fo12_3 : List Value := fo12_2 ++ [.int 105 0, .int 0 0, .ref 160]
def o12_3 : Obj := fO fo12_3
def o155_3 : Obj := tO []
def o156_3 : Obj := tF "builtin_function_or_method" [.builtin "type.__prepare__", .type "type"]
def o157_3 (P : Params) : Obj := dO [de P "__module__" 420 (sv "ledgerspeak.codes" 344), de P "__qualname__" 422 (sv "Draft" 421), de P "__firstlineno__" 424 (.int 105 423), de P "__init__" 430 (.ref 166), de P "fresh" 437 (.ref 173), de P "here" 445 (.ref 180), de P "put" 453 (.ref 187), de P "slot" 460 (.ref 194), de P "head_of" 468 (.ref 201), de P "finished" 474 (.ref 206), de P "__static_attributes__" 480 (.ref 207)] 11
def o158_3 : Obj := tO []
def o159_3 : Obj := fO [.int 107 0, .int 4 0, .ref 165, .int 114 0, .int 4 0, .ref 172, .int 118 0, .int 4 0, .ref 179, .int 121 0, .int 4 0, .ref 186, .int 124 0, .int 4 0, .ref 193, .int 128 0, .int 4 0, .ref 200, .int 131 0, .int 4 0, .ref 205]
def o160_3 : Obj := cO "Draft" "Draft" 415 [105, 0, 0, 0, 0] 158 false 159 .none .none .none 418 105 419
def o161_3 : Obj := ⟨.type "frame", none, .plain, ⟨[some (.ref 160), some (.ref 3), some (.ref 157), none, some (sv "ledgerspeak.codes" 344), none, some (.ref 0)]⟩⟩
def o162_3 : Obj := tO []
def o163_3 : Obj := fO []
def o164_3 : Obj := gO (mAt 24 0) "Draft.__init__"
def o165_3 : Obj := cO "__init__" "Draft.__init__" 425 [107, 2, 0, 0, 3] 162 true 163 .none .none (.ref 164) 428 107 429
def o166_3 : Obj := hO (mAt 24 0) "Draft.__init__" .none (sv "ledgerspeak.codes" 344) 165
def o167_3 : Obj := tO []
def o168_3 : Obj := fO []
def o169_3 : Obj := tO [sv "self" 434]
def o170_3 : Obj := tO []
def o171_3 : Obj := gO (mAt 24 1) "Draft.fresh"
def o172_3 : Obj := cO "fresh" "Draft.fresh" 431 [114, 1, 0, 0, 3] 167 true 168 (.ref 169) (.ref 170) (.ref 171) 435 114 436
def o173_3 : Obj := hO (mAt 24 1) "Draft.fresh" .none (sv "ledgerspeak.codes" 344) 172
def o174_3 : Obj := tO []
def o175_3 : Obj := fO []
def o176_3 : Obj := tO [sv "self" 441, sv "label" 442]
def o177_3 : Obj := tO []
def o178_3 : Obj := gO (mAt 24 2) "Draft.here"
def o179_3 : Obj := cO "here" "Draft.here" 438 [118, 2, 0, 0, 3] 174 true 175 (.ref 176) (.ref 177) (.ref 178) 443 118 444
def o180_3 : Obj := hO (mAt 24 2) "Draft.here" .none (sv "ledgerspeak.codes" 344) 179
def o181_3 : Obj := tO []
def o182_3 : Obj := fO []
def o183_3 : Obj := tO [sv "self" 449, sv "op" 450]
def o184_3 : Obj := tO []
def o185_3 : Obj := gO (mAt 24 3) "Draft.put"
def o186_3 : Obj := cO "put" "Draft.put" 446 [121, 2, 0, 0, 3] 181 true 182 (.ref 183) (.ref 184) (.ref 185) 451 121 452
def o187_3 : Obj := hO (mAt 24 3) "Draft.put" .none (sv "ledgerspeak.codes" 344) 186
def o188_3 : Obj := tO []
def o189_3 : Obj := fO []
def o190_3 : Obj := tO [sv "self" 457]
def o191_3 : Obj := tO []
def o192_3 : Obj := gO (mAt 24 4) "Draft.slot"
def o193_3 : Obj := cO "slot" "Draft.slot" 454 [124, 1, 0, 0, 3] 188 true 189 (.ref 190) (.ref 191) (.ref 192) 458 124 459
def o194_3 : Obj := hO (mAt 24 4) "Draft.slot" .none (sv "ledgerspeak.codes" 344) 193
def o195_3 : Obj := tO []
def o196_3 : Obj := fO []
def o197_3 : Obj := tO [sv "self" 464, sv "pair" 465]
def o198_3 : Obj := tO []
def o199_3 : Obj := gO (mAt 24 5) "Draft.head_of"
def o200_3 : Obj := cO "head_of" "Draft.head_of" 461 [128, 2, 0, 0, 3] 195 true 196 (.ref 197) (.ref 198) (.ref 199) 466 128 467
def o201_3 : Obj := hO (mAt 24 5) "Draft.head_of" .none (sv "ledgerspeak.codes" 344) 200
def o202_3 : Obj := tO []
def o203_3 : Obj := fO []
def o204_3 : Obj := gO (mAt 24 6) "Draft.finished"
def o205_3 : Obj := cO "finished" "Draft.finished" 469 [131, 1, 0, 0, 3] 202 true 203 .none .none (.ref 204) 472 131 473
def o206_3 : Obj := hO (mAt 24 6) "Draft.finished" .none (sv "ledgerspeak.codes" 344) 205
def o207_3 : Obj := tO [sv "heads" 475, sv "ops" 476, sv "places" 477, sv "procedures" 478, sv "slots" 479]
def o208_3 (P : Params) : Obj := dO [de P "__module__" 420 (sv "ledgerspeak.codes" 344), de P "__firstlineno__" 424 (.int 105 423), de P "__init__" 430 (.ref 166), de P "fresh" 437 (.ref 173), de P "here" 445 (.ref 180), de P "put" 453 (.ref 187), de P "slot" 460 (.ref 194), de P "head_of" 468 (.ref 201), de P "finished" 474 (.ref 206), de P "__static_attributes__" 480 (.ref 207), de P "__dict__" 482 (.ref 210), de P "__weakref__" 484 (.ref 211), de P "__doc__" 485 .none] 4
def o209_3 : Obj := ⟨.type "type", none, (.cls { name := (S "Draft"), bases := [.type "object"], mro := [.ref 209, .type "object"], ns := 208, qualname := (S "Draft"), hasDict := true, slotNames := [], subclasses := [], abstract := false, collection := none, hasDel := false }), ⟨[none, none, some (sv "Draft" 413), some (sv "Draft" 421), some (.builtin "object.__new__"), some (.bool true)]⟩⟩
def o210_3 : Obj := tF "getset_descriptor" [sv "__dict__" 481, .ref 209, .builtin "function.__dict__", .builtin "function.__dict__#set"]
def o211_3 : Obj := tF "getset_descriptor" [sv "__weakref__" 483, .ref 209, .builtin "ExceptionGroup.__weakref__", .none]
def o212_3 : Obj := tF "super" [.ref 209, .ref 209, .ref 209]
def o213_3 : Obj := tF "builtin_function_or_method" [.builtin "object.__init_subclass__", .ref 209]
def T3 (P : Params) : BT := setAll (insAll (T2 P) 155 [o155_3, o156_3, (o157_3 P), o158_3, o159_3, o160_3, o161_3, o162_3, o163_3, o164_3, o165_3, o166_3, o167_3, o168_3, o169_3, o170_3, o171_3, o172_3, o173_3, o174_3, o175_3, o176_3, o177_3, o178_3, o179_3, o180_3, o181_3, o182_3, o183_3, o184_3, o185_3, o186_3, o187_3, o188_3, o189_3, o190_3, o191_3, o192_3, o193_3, o194_3, o195_3, o196_3, o197_3, o198_3, o199_3, o200_3, o201_3, o202_3, o203_3, o204_3, o205_3, o206_3, o207_3, (o208_3 P), o209_3, o210_3, o211_3, o212_3, o213_3]) [(3, (o3_3 P)), (12, o12_3)]
def S3 (w : World) (os : OsState) : SharedT := ⟨T3 w.params, 214, {}, ⟨[]⟩, {}, 488, os⟩
def sts3 : List Stmt := ((behindTheImports P0).drop 24).take 1
def pos3 : Pos := ⟨105, 0, 133, 77⟩
theorem p3 (w : World) (os : OsState) : segRun treeTable P0 w 11 (some (.ref 6)) 1 409 (S2 w os).abs (piecesOf sts3 envT cdT pos2 B0) = some (.next, (S3 w os).abs, cdT, pos3) := by
  refine piece_y ?_; kernel_rfl
def eo3_4 (P : Params) : List DictEntry := eo3_3 P ++ [de P "put_expression" 496 (.ref 220), de P "put_condition" 507 (.ref 227), de P "put_statements" 516 (.ref 234), de P "put_statement" 522 (.ref 239), de P "put_if" 532 (.ref 246), de P "put_arith" 544 (.ref 253), de P "put_deed" 550 (.ref 258), de P "put_sort" 559 (.ref 265), de P "put_range" 569 (.ref 272), de P "put_goal" 577 (.ref 279), de P "put_perform" 587 (.ref 286), de P "put_times" 599 (.ref 293)]
def o3_4 (P : Params) : Obj := dO (de P "__name__" 165 (sv "ledgerspeak.codes" 344) :: eo3_4 P) 42
def fo12_4 : List Value := fo12_3 ++ [.int 134 0, .int 0 0, .ref 219, .int 144 0, .int 0 0, .ref 226, .int 162 0, .int 0 0, .ref 233, .int 165 0, .int 0 0, .ref 238, .int 188 0, .int 0 0, .ref 245, .int 200 0, .int 0 0, .ref 252, .int 215 0, .int 0 0, .ref 257, .int 227 0, .int 0 0, .ref 264, .int 233 0, .int 0 0, .ref 271, .int 236 0, .int 0 0, .ref 278, .int 241 0, .int 0 0, .ref 285, .int 253 0, .int 0 0, .ref 292]
def o12_4 : Obj := fO fo12_4
def o214_4 : Obj := tO []
def o215_4 : Obj := fO []
def o216_4 : Obj := tO [sv "draft" 491, sv "expr" 492, sv "label" 493]
def o217_4 : Obj := tO []
def o218_4 : Obj := gO (sAt 25) "put_expression"
def o219_4 : Obj := cO "put_expression" "put_expression" 488 [134, 3, 0, 0, 3] 214 true 215 (.ref 216) (.ref 217) (.ref 218) 494 134 495
def o220_4 : Obj := hO (sAt 25) "put_expression" .none (sv "ledgerspeak.codes" 344) 219
def o221_4 : Obj := tO []
def o222_4 : Obj := fO []
def o223_4 : Obj := tO [sv "draft" 500, sv "cond" 501, sv "is_wanted" 502, sv "label" 503, sv "behind" 504]
def o224_4 : Obj := tO []
def o225_4 : Obj := gO (sAt 26) "put_condition"
def o226_4 : Obj := cO "put_condition" "put_condition" 497 [144, 4, 0, 0, 3] 221 true 222 (.ref 223) (.ref 224) (.ref 225) 505 144 506
def o227_4 : Obj := hO (sAt 26) "put_condition" .none (sv "ledgerspeak.codes" 344) 226
def o228_4 : Obj := tO []
def o229_4 : Obj := fO []
def o230_4 : Obj := tO [sv "draft" 511, sv "statements" 512, sv "statement" 513]
def o231_4 : Obj := tO []
def o232_4 : Obj := gO (sAt 27) "put_statements"
def o233_4 : Obj := cO "put_statements" "put_statements" 508 [162, 2, 0, 0, 3] 228 true 229 (.ref 230) (.ref 231) (.ref 232) 514 162 515
def o234_4 : Obj := hO (sAt 27) "put_statements" .none (sv "ledgerspeak.codes" 344) 233
def o235_4 : Obj := tO []
def o236_4 : Obj := fO []
def o237_4 : Obj := gO (sAt 28) "put_statement"
def o238_4 : Obj := cO "put_statement" "put_statement" 517 [165, 2, 0, 0, 3] 235 true 236 .none .none (.ref 237) 520 165 521
def o239_4 : Obj := hO (sAt 28) "put_statement" .none (sv "ledgerspeak.codes" 344) 238
def o240_4 : Obj := tO []
def o241_4 : Obj := fO []
def o242_4 : Obj := tO [sv "draft" 526, sv "statement" 527, sv "otherwise" 528, sv "behind" 529]
def o243_4 : Obj := tO []
def o244_4 : Obj := gO (sAt 29) "put_if"
def o245_4 : Obj := cO "put_if" "put_if" 523 [188, 2, 0, 0, 3] 240 true 241 (.ref 242) (.ref 243) (.ref 244) 530 188 531
def o246_4 : Obj := hO (sAt 29) "put_if" .none (sv "ledgerspeak.codes" 344) 245
def o247_4 : Obj := tO []
def o248_4 : Obj := fO []
def o249_4 : Obj := tO [sv "draft" 536, sv "statement" 537, sv "wrong" 538, sv "branches" 539, sv "failing" 540, sv "behind" 541]
def o250_4 : Obj := tO []
def o251_4 : Obj := gO (sAt 30) "put_arith"
def o252_4 : Obj := cO "put_arith" "put_arith" 533 [200, 2, 0, 0, 3] 247 true 248 (.ref 249) (.ref 250) (.ref 251) 542 200 543
def o253_4 : Obj := hO (sAt 30) "put_arith" .none (sv "ledgerspeak.codes" 344) 252
def o254_4 : Obj := tO []
def o255_4 : Obj := fO []
def o256_4 : Obj := gO (sAt 31) "put_deed"
def o257_4 : Obj := cO "put_deed" "put_deed" 545 [215, 2, 0, 0, 3] 254 true 255 .none .none (.ref 256) 548 215 549
def o258_4 : Obj := hO (sAt 31) "put_deed" .none (sv "ledgerspeak.codes" 344) 257
def o259_4 : Obj := tO []
def o260_4 : Obj := fO []
def o261_4 : Obj := tO [sv "draft" 554, sv "statement" 555, sv "part" 556]
def o262_4 : Obj := tO []
def o263_4 : Obj := gO (sAt 32) "put_sort"
def o264_4 : Obj := cO "put_sort" "put_sort" 551 [227, 2, 0, 0, 3] 259 true 260 (.ref 261) (.ref 262) (.ref 263) 557 227 558
def o265_4 : Obj := hO (sAt 32) "put_sort" .none (sv "ledgerspeak.codes" 344) 264
def o266_4 : Obj := tO []
def o267_4 : Obj := fO []
def o268_4 : Obj := tO [sv "draft" 563, sv "first" 564, sv "last" 565, sv "begin" 566]
def o269_4 : Obj := tO []
def o270_4 : Obj := gO (sAt 33) "put_range"
def o271_4 : Obj := cO "put_range" "put_range" 560 [233, 3, 0, 0, 3] 266 true 267 (.ref 268) (.ref 269) (.ref 270) 567 233 568
def o272_4 : Obj := hO (sAt 33) "put_range" .none (sv "ledgerspeak.codes" 344) 271
def o273_4 : Obj := tO []
def o274_4 : Obj := fO []
def o275_4 : Obj := tO [sv "draft" 573, sv "goal" 574]
def o276_4 : Obj := tO []
def o277_4 : Obj := gO (sAt 34) "put_goal"
def o278_4 : Obj := cO "put_goal" "put_goal" 570 [236, 2, 0, 0, 3] 273 true 274 (.ref 275) (.ref 276) (.ref 277) 575 236 576
def o279_4 : Obj := hO (sAt 34) "put_goal" .none (sv "ledgerspeak.codes" 344) 278
def o280_4 : Obj := tO []
def o281_4 : Obj := fO []
def o282_4 : Obj := tO [sv "draft" 581, sv "statement" 582, sv "goal" 583, sv "loop" 584]
def o283_4 : Obj := tO []
def o284_4 : Obj := gO (sAt 35) "put_perform"
def o285_4 : Obj := cO "put_perform" "put_perform" 578 [241, 2, 0, 0, 3] 280 true 281 (.ref 282) (.ref 283) (.ref 284) 585 241 586
def o286_4 : Obj := hO (sAt 35) "put_perform" .none (sv "ledgerspeak.codes" 344) 285
def o287_4 : Obj := tO []
def o288_4 : Obj := fO []
def o289_4 : Obj := tO [sv "draft" 591, sv "goal" 592, sv "operand" 593, sv "slot" 594, sv "again" 595, sv "behind" 596]
def o290_4 : Obj := tO []
def o291_4 : Obj := gO (sAt 36) "put_times"
def o292_4 : Obj := cO "put_times" "put_times" 588 [253, 3, 0, 0, 3] 287 true 288 (.ref 289) (.ref 290) (.ref 291) 597 253 598
def o293_4 : Obj := hO (sAt 36) "put_times" .none (sv "ledgerspeak.codes" 344) 292
def T4 (P : Params) : BT := setAll (insAll (T3 P) 214 [o214_4, o215_4, o216_4, o217_4, o218_4, o219_4, o220_4, o221_4, o222_4, o223_4, o224_4, o225_4, o226_4, o227_4, o228_4, o229_4, o230_4, o231_4, o232_4, o233_4, o234_4, o235_4, o236_4, o237_4, o238_4, o239_4, o240_4, o241_4, o242_4, o243_4, o244_4, o245_4, o246_4, o247_4, o248_4, o249_4, o250_4, o251_4, o252_4, o253_4, o254_4, o255_4, o256_4, o257_4, o258_4, o259_4, o260_4, o261_4, o262_4, o263_4, o264_4, o265_4, o266_4, o267_4, o268_4, o269_4, o270_4, o271_4, o272_4, o273_4, o274_4, o275_4, o276_4, o277_4, o278_4, o279_4, o280_4, o281_4, o282_4, o283_4, o284_4, o285_4, o286_4, o287_4, o288_4, o289_4, o290_4, o291_4, o292_4, o293_4]) [(3, (o3_4 P)), (12, o12_4)]
def S4 (w : World) (os : OsState) : SharedT := ⟨T4 w.params, 294, {}, ⟨[]⟩, {}, 600, os⟩
def sts4 : List Stmt := ((behindTheImports P0).drop 25).take 12
def pos4 : Pos := ⟨253, 0, 262, 22⟩
theorem p4 (w : World) (os : OsState) : segRun treeTable P0 w 11 (some (.ref 6)) 1 373 (S3 w os).abs (piecesOf sts4 envT cdT pos3 B0) = some (.next, (S4 w os).abs, cdT, pos4) := by
  refine piece_y ?_; kernel_rfl
def eo3_5 (P : Params) : List DictEntry := eo3_4 P ++ [de P "put_until" 611 (.ref 300), de P "put_step" 622 (.ref 307), de P "put_varying" 628 (.ref 312), de P "put_varying_after" 645 (.ref 319), de P "compiled" 654 (.ref 326)]
def o3_5 (P : Params) : Obj := dO (de P "__name__" 165 (sv "ledgerspeak.errors" 655) :: eo3_5 P) 47
def fo12_5 : List Value := fo12_4 ++ [.int 263 0, .int 0 0, .ref 299, .int 274 0, .int 0 0, .ref 306, .int 279 0, .int 0 0, .ref 311, .int 296 0, .int 0 0, .ref 318, .int 310 0, .int 0 0, .ref 325]
def o12_5 : Obj := fO fo12_5
def o294_5 : Obj := tO []
def o295_5 : Obj := fO []
def o296_5 : Obj := tO [sv "draft" 603, sv "goal" 604, sv "is_after" 605, sv "cond" 606, sv "again" 607, sv "behind" 608]
def o297_5 : Obj := tO []
def o298_5 : Obj := gO (sAt 37) "put_until"
def o299_5 : Obj := cO "put_until" "put_until" 600 [263, 4, 0, 0, 3] 294 true 295 (.ref 296) (.ref 297) (.ref 298) 609 263 610
def o300_5 : Obj := hO (sAt 37) "put_until" .none (sv "ledgerspeak.codes" 344) 299
def o301_5 : Obj := tO []
def o302_5 : Obj := fO []
def o303_5 : Obj := tO [sv "draft" 615, sv "ref" 616, sv "expr" 617, sv "way" 618, sv "behind" 619]
def o304_5 : Obj := tO []
def o305_5 : Obj := gO (sAt 38) "put_step"
def o306_5 : Obj := cO "put_step" "put_step" 612 [274, 4, 0, 0, 3] 301 true 302 (.ref 303) (.ref 304) (.ref 305) 620 274 621
def o307_5 : Obj := hO (sAt 38) "put_step" .none (sv "ledgerspeak.codes" 344) 306
def o308_5 : Obj := tO []
def o309_5 : Obj := fO []
def o310_5 : Obj := gO (sAt 39) "put_varying"
def o311_5 : Obj := cO "put_varying" "put_varying" 623 [279, 3, 0, 0, 3] 308 true 309 .none .none (.ref 310) 626 279 627
def o312_5 : Obj := hO (sAt 39) "put_varying" .none (sv "ledgerspeak.codes" 344) 311
def o313_5 : Obj := tO []
def o314_5 : Obj := fO []
def o315_5 : Obj := tO [sv "draft" 632, sv "goal" 633, sv "rows" 634, sv "ref" 635, sv "begin" 636, sv "added" 637, sv "cond" 638, sv "again" 639, sv "at" 640, sv "over" 641, sv "inner" 642]
def o316_5 : Obj := tO []
def o317_5 : Obj := gO (sAt 40) "put_varying_after"
def o318_5 : Obj := cO "put_varying_after" "put_varying_after" 629 [296, 3, 0, 0, 3] 313 true 314 (.ref 315) (.ref 316) (.ref 317) 643 296 644
def o319_5 : Obj := hO (sAt 40) "put_varying_after" .none (sv "ledgerspeak.codes" 344) 318
def o320_5 : Obj := tO []
def o321_5 : Obj := fO []
def o322_5 : Obj := tO [sv "procedures" 649, sv "draft" 650, sv "at" 651]
def o323_5 : Obj := tO []
def o324_5 : Obj := gO (sAt 41) "compiled"
def o325_5 : Obj := cO "compiled" "compiled" 646 [310, 1, 0, 0, 3] 320 true 321 (.ref 322) (.ref 323) (.ref 324) 652 310 653
def o326_5 : Obj := hO (sAt 41) "compiled" .none (sv "ledgerspeak.codes" 344) 325
def T5 (P : Params) : BT := setAll (insAll (T4 P) 294 [o294_5, o295_5, o296_5, o297_5, o298_5, o299_5, o300_5, o301_5, o302_5, o303_5, o304_5, o305_5, o306_5, o307_5, o308_5, o309_5, o310_5, o311_5, o312_5, o313_5, o314_5, o315_5, o316_5, o317_5, o318_5, o319_5, o320_5, o321_5, o322_5, o323_5, o324_5, o325_5, o326_5]) [(3, (o3_5 P)), (12, o12_5)]
def S5 (w : World) (os : OsState) : SharedT := ⟨T5 w.params, 327, {}, ⟨[]⟩, {}, 657, os⟩
def sts5 : List Stmt := ((behindTheImports P0).drop 37).take 6
def pos5 : Pos := ⟨318, 0, 318, 8⟩
theorem p5 (w : World) (os : OsState) : segRun treeTable P0 w 11 (some (.ref 6)) 1 173 (S4 w os).abs (piecesOf sts5 envT cdT pos4 B0) = some (.next, (S5 w os).abs, cdT, pos5) := by
  refine piece_y ?_; kernel_rfl
def o2_6 (P : Params) : Obj := ⟨.none, none, (.dict ⟨[de P "type.__subclasses__.Exception.0" 693 (.int 352 0), de P "type.__subclasses__.Exception.n" 694 (.int 1 0)]⟩ 2), ⟨[]⟩⟩
def eo3_6 (P : Params) : List DictEntry := eo3_5 P ++ [de P "LedgerError" 696 (.ref 352)]
def o3_6 (P : Params) : Obj := dO (de P "__name__" 165 (sv "ledgerspeak.errors" 655) :: eo3_6 P) 48
def fo12_6 : List Value := fo12_5 ++ [.int 319 0, .int 0 0, .ref 332]
def o12_6 : Obj := fO fo12_6
def o327_6 : Obj := tO [.type "Exception"]
def o328_6 : Obj := tF "builtin_function_or_method" [.builtin "type.__prepare__", .type "type"]
def o329_6 (P : Params) : Obj := dO [de P "__module__" 664 (sv "ledgerspeak.errors" 655), de P "__qualname__" 666 (sv "LedgerError" 665), de P "__firstlineno__" 668 (.int 319 667), de P "__init__" 679 (.ref 342), de P "told" 686 (.ref 349), de P "__static_attributes__" 689 (.ref 350)] 6
def o330_6 : Obj := tO []
def o331_6 : Obj := fO [.int 321 0, .int 4 0, .ref 341, .int 326 0, .int 4 0, .ref 348]
def o332_6 : Obj := cO "LedgerError" "LedgerError" 659 [319, 0, 0, 0, 0] 330 false 331 .none .none .none 662 319 663
def o333_6 : Obj := ⟨.type "frame", none, .plain, ⟨[some (.ref 332), some (.ref 3), some (.ref 329), none, some (sv "ledgerspeak.errors" 655), none, some (.ref 0)]⟩⟩
def o334_6 : Obj := tO [.int 0 669, .int 0 670]
def o335_6 : Obj := tO [.ref 334]
def o336_6 : Obj := tO []
def o337_6 : Obj := fO []
def o338_6 : Obj := tO [sv "self" 674, sv "what" 675, sv "at" 676]
def o339_6 : Obj := tO []
def o340_6 : Obj := gO (mAt 43 0) "LedgerError.__init__"
def o341_6 : Obj := cO "__init__" "LedgerError.__init__" 671 [321, 3, 0, 0, 3] 336 true 337 (.ref 338) (.ref 339) (.ref 340) 677 321 678
def o342_6 : Obj := hO (mAt 43 0) "LedgerError.__init__" (.ref 335) (sv "ledgerspeak.errors" 655) 341
def o343_6 : Obj := tO []
def o344_6 : Obj := fO []
def o345_6 : Obj := tO [sv "self" 683]
def o346_6 : Obj := tO []
def o347_6 : Obj := gO (mAt 43 1) "LedgerError.told"
def o348_6 : Obj := cO "told" "LedgerError.told" 680 [326, 1, 0, 0, 3] 343 true 344 (.ref 345) (.ref 346) (.ref 347) 684 326 685
def o349_6 : Obj := hO (mAt 43 1) "LedgerError.told" .none (sv "ledgerspeak.errors" 655) 348
def o350_6 : Obj := tO [sv "at" 687, sv "what" 688]
def o351_6 (P : Params) : Obj := dO [de P "__module__" 664 (sv "ledgerspeak.errors" 655), de P "__firstlineno__" 668 (.int 319 667), de P "__init__" 679 (.ref 342), de P "told" 686 (.ref 349), de P "__static_attributes__" 689 (.ref 350), de P "__weakref__" 691 (.ref 353), de P "__doc__" 692 .none] 3
def o352_6 : Obj := ⟨.type "type", none, (.cls { name := (S "LedgerError"), bases := [.type "Exception"], mro := [.ref 352, .type "Exception", .type "BaseException", .type "object"], ns := 351, qualname := (S "LedgerError"), hasDict := true, slotNames := [], subclasses := [], abstract := false, collection := none, hasDel := false }), ⟨[some (.ref 327), none, some (sv "LedgerError" 657), some (sv "LedgerError" 665), some (.builtin "Exception.__new__"), some (.bool true)]⟩⟩
def o353_6 : Obj := tF "getset_descriptor" [sv "__weakref__" 690, .ref 352, .builtin "ExceptionGroup.__weakref__", .none]
def o354_6 : Obj := tF "super" [.ref 352, .ref 352, .ref 352]
def o355_6 : Obj := tF "builtin_function_or_method" [.builtin "object.__init_subclass__", .ref 352]
def T6 (P : Params) : BT := setAll (insAll (T5 P) 327 [o327_6, o328_6, (o329_6 P), o330_6, o331_6, o332_6, o333_6, o334_6, o335_6, o336_6, o337_6, o338_6, o339_6, o340_6, o341_6, o342_6, o343_6, o344_6, o345_6, o346_6, o347_6, o348_6, o349_6, o350_6, (o351_6 P), o352_6, o353_6, o354_6, o355_6]) [(2, (o2_6 P)), (3, (o3_6 P)), (12, o12_6)]
def S6 (w : World) (os : OsState) : SharedT := ⟨T6 w.params, 356, {}, ⟨[]⟩, {}, 697, os⟩
def sts6 : List Stmt := ((behindTheImports P0).drop 43).take 1
def pos6 : Pos := ⟨319, 0, 327, 35⟩
theorem p6 (w : World) (os : OsState) : segRun treeTable P0 w 11 (some (.ref 6)) 1 267 (S5 w os).abs (piecesOf sts6 envT cdT pos5 B0) = some (.next, (S6 w os).abs, cdT, pos6) := by
  refine piece_y ?_; kernel_rfl
def eo3_7 (P : Params) : List DictEntry := eo3_6 P ++ [de P "CheckFault" 712 (.ref 365)]
def o3_7 (P : Params) : Obj := dO (de P "__name__" 165 (sv "ledgerspeak.errors" 655) :: eo3_7 P) 49
def fo12_7 : List Value := fo12_6 ++ [.int 328 0, .int 0 0, .ref 361]
def o12_7 : Obj := fO fo12_7
def o352_7 : Obj := ⟨.type "type", none, (.cls { name := (S "LedgerError"), bases := [.type "Exception"], mro := [.ref 352, .type "Exception", .type "BaseException", .type "object"], ns := 351, qualname := (S "LedgerError"), hasDict := true, slotNames := [], subclasses := [.ref 365], abstract := false, collection := none, hasDel := false }), ⟨[some (.ref 327), none, some (sv "LedgerError" 657), some (sv "LedgerError" 665), some (.builtin "Exception.__new__"), some (.bool true)]⟩⟩
def o356_7 : Obj := tO [.ref 352]
def o357_7 : Obj := tF "builtin_function_or_method" [.builtin "type.__prepare__", .type "type"]
def o358_7 (P : Params) : Obj := dO [de P "__module__" 704 (sv "ledgerspeak.errors" 655), de P "__qualname__" 706 (sv "CheckFault" 705), de P "__firstlineno__" 708 (.int 328 707), de P "__static_attributes__" 709 (.ref 363)] 4
def o359_7 : Obj := tO []
def o360_7 : Obj := fO []
def o361_7 : Obj := cO "CheckFault" "CheckFault" 699 [328, 0, 0, 0, 0] 359 false 360 .none .none .none 702 328 703
def o362_7 : Obj := ⟨.type "frame", none, .plain, ⟨[some (.ref 361), some (.ref 3), some (.ref 358), none, some (sv "ledgerspeak.errors" 655), none, some (.ref 0)]⟩⟩
def o363_7 : Obj := tO []
def o364_7 (P : Params) : Obj := dO [de P "__module__" 704 (sv "ledgerspeak.errors" 655), de P "__firstlineno__" 708 (.int 328 707), de P "__static_attributes__" 709 (.ref 363), de P "__doc__" 710 .none] 2
def o365_7 : Obj := ⟨.type "type", none, (.cls { name := (S "CheckFault"), bases := [.ref 352], mro := [.ref 365, .ref 352, .type "Exception", .type "BaseException", .type "object"], ns := 364, qualname := (S "CheckFault"), hasDict := true, slotNames := [], subclasses := [], abstract := false, collection := none, hasDel := false }), ⟨[some (.ref 356), none, some (sv "CheckFault" 697), some (sv "CheckFault" 705), some (.builtin "Exception.__new__"), some (.bool true)]⟩⟩
def o366_7 : Obj := tF "super" [.ref 365, .ref 365, .ref 365]
def o367_7 : Obj := tF "builtin_function_or_method" [.builtin "object.__init_subclass__", .ref 365]
def T7 (P : Params) : BT := setAll (insAll (T6 P) 356 [o356_7, o357_7, (o358_7 P), o359_7, o360_7, o361_7, o362_7, o363_7, (o364_7 P), o365_7, o366_7, o367_7]) [(3, (o3_7 P)), (12, o12_7), (352, o352_7)]
def S7 (w : World) (os : OsState) : SharedT := ⟨T7 w.params, 368, {}, ⟨[]⟩, {}, 713, os⟩
def sts7 : List Stmt := ((behindTheImports P0).drop 44).take 1
def pos7 : Pos := ⟨328, 0, 329, 8⟩
theorem p7 (w : World) (os : OsState) : segRun treeTable P0 w 11 (some (.ref 6)) 1 214 (S6 w os).abs (piecesOf sts7 envT cdT pos6 B0) = some (.next, (S7 w os).abs, cdT, pos7) := by
  refine piece_y ?_; kernel_rfl
def eo3_8 (P : Params) : List DictEntry := eo3_7 P ++ [de P "RunFault" 728 (.ref 377)]
def o3_8 (P : Params) : Obj := dO (de P "__name__" 165 (sv "ledgerspeak.errors" 655) :: eo3_8 P) 50
def fo12_8 : List Value := fo12_7 ++ [.int 330 0, .int 0 0, .ref 373]
def o12_8 : Obj := fO fo12_8
def o352_8 : Obj := ⟨.type "type", none, (.cls { name := (S "LedgerError"), bases := [.type "Exception"], mro := [.ref 352, .type "Exception", .type "BaseException", .type "object"], ns := 351, qualname := (S "LedgerError"), hasDict := true, slotNames := [], subclasses := [.ref 365, .ref 377], abstract := false, collection := none, hasDel := false }), ⟨[some (.ref 327), none, some (sv "LedgerError" 657), some (sv "LedgerError" 665), some (.builtin "Exception.__new__"), some (.bool true)]⟩⟩
def o368_8 : Obj := tO [.ref 352]
def o369_8 : Obj := tF "builtin_function_or_method" [.builtin "type.__prepare__", .type "type"]
def o370_8 (P : Params) : Obj := dO [de P "__module__" 720 (sv "ledgerspeak.errors" 655), de P "__qualname__" 722 (sv "RunFault" 721), de P "__firstlineno__" 724 (.int 330 723), de P "__static_attributes__" 725 (.ref 375)] 4
def o371_8 : Obj := tO []
def o372_8 : Obj := fO []
def o373_8 : Obj := cO "RunFault" "RunFault" 715 [330, 0, 0, 0, 0] 371 false 372 .none .none .none 718 330 719
def o374_8 : Obj := ⟨.type "frame", none, .plain, ⟨[some (.ref 373), some (.ref 3), some (.ref 370), none, some (sv "ledgerspeak.errors" 655), none, some (.ref 0)]⟩⟩
def o375_8 : Obj := tO []
def o376_8 (P : Params) : Obj := dO [de P "__module__" 720 (sv "ledgerspeak.errors" 655), de P "__firstlineno__" 724 (.int 330 723), de P "__static_attributes__" 725 (.ref 375), de P "__doc__" 726 .none] 2
def o377_8 : Obj := ⟨.type "type", none, (.cls { name := (S "RunFault"), bases := [.ref 352], mro := [.ref 377, .ref 352, .type "Exception", .type "BaseException", .type "object"], ns := 376, qualname := (S "RunFault"), hasDict := true, slotNames := [], subclasses := [], abstract := false, collection := none, hasDel := false }), ⟨[some (.ref 368), none, some (sv "RunFault" 713), some (sv "RunFault" 721), some (.builtin "Exception.__new__"), some (.bool true)]⟩⟩
def o378_8 : Obj := tF "super" [.ref 377, .ref 377, .ref 377]
def o379_8 : Obj := tF "builtin_function_or_method" [.builtin "object.__init_subclass__", .ref 377]
def T8 (P : Params) : BT := setAll (insAll (T7 P) 368 [o368_8, o369_8, (o370_8 P), o371_8, o372_8, o373_8, o374_8, o375_8, (o376_8 P), o377_8, o378_8, o379_8]) [(3, (o3_8 P)), (12, o12_8), (352, o352_8)]
def S8 (w : World) (os : OsState) : SharedT := ⟨T8 w.params, 380, {}, ⟨[]⟩, {}, 729, os⟩
def sts8 : List Stmt := ((behindTheImports P0).drop 45).take 1
def pos8 : Pos := ⟨330, 0, 331, 8⟩
theorem p8 (w : World) (os : OsState) : segRun treeTable P0 w 11 (some (.ref 6)) 1 214 (S7 w os).abs (piecesOf sts8 envT cdT pos7 B0) = some (.next, (S8 w os).abs, cdT, pos8) := by
  refine piece_y ?_; kernel_rfl
def eo3_9 (P : Params) : List DictEntry := eo3_8 P ++ [de P "SizeFault" 744 (.ref 389)]
def o3_9 (P : Params) : Obj := dO (de P "__name__" 165 (sv "ledgerspeak.errors" 655) :: eo3_9 P) 51
def fo12_9 : List Value := fo12_8 ++ [.int 332 0, .int 0 0, .ref 385]
def o12_9 : Obj := fO fo12_9
def o352_9 : Obj := ⟨.type "type", none, (.cls { name := (S "LedgerError"), bases := [.type "Exception"], mro := [.ref 352, .type "Exception", .type "BaseException", .type "object"], ns := 351, qualname := (S "LedgerError"), hasDict := true, slotNames := [], subclasses := [.ref 365, .ref 377, .ref 389], abstract := false, collection := none, hasDel := false }), ⟨[some (.ref 327), none, some (sv "LedgerError" 657), some (sv "LedgerError" 665), some (.builtin "Exception.__new__"), some (.bool true)]⟩⟩
def o380_9 : Obj := tO [.ref 352]
def o381_9 : Obj := tF "builtin_function_or_method" [.builtin "type.__prepare__", .type "type"]
def o382_9 (P : Params) : Obj := dO [de P "__module__" 736 (sv "ledgerspeak.errors" 655), de P "__qualname__" 738 (sv "SizeFault" 737), de P "__firstlineno__" 740 (.int 332 739), de P "__static_attributes__" 741 (.ref 387)] 4
def o383_9 : Obj := tO []
def o384_9 : Obj := fO []
def o385_9 : Obj := cO "SizeFault" "SizeFault" 731 [332, 0, 0, 0, 0] 383 false 384 .none .none .none 734 332 735
def o386_9 : Obj := ⟨.type "frame", none, .plain, ⟨[some (.ref 385), some (.ref 3), some (.ref 382), none, some (sv "ledgerspeak.errors" 655), none, some (.ref 0)]⟩⟩
def o387_9 : Obj := tO []
def o388_9 (P : Params) : Obj := dO [de P "__module__" 736 (sv "ledgerspeak.errors" 655), de P "__firstlineno__" 740 (.int 332 739), de P "__static_attributes__" 741 (.ref 387), de P "__doc__" 742 .none] 2
def o389_9 : Obj := ⟨.type "type", none, (.cls { name := (S "SizeFault"), bases := [.ref 352], mro := [.ref 389, .ref 352, .type "Exception", .type "BaseException", .type "object"], ns := 388, qualname := (S "SizeFault"), hasDict := true, slotNames := [], subclasses := [], abstract := false, collection := none, hasDel := false }), ⟨[some (.ref 380), none, some (sv "SizeFault" 729), some (sv "SizeFault" 737), some (.builtin "Exception.__new__"), some (.bool true)]⟩⟩
def o390_9 : Obj := tF "super" [.ref 389, .ref 389, .ref 389]
def o391_9 : Obj := tF "builtin_function_or_method" [.builtin "object.__init_subclass__", .ref 389]
def T9 (P : Params) : BT := setAll (insAll (T8 P) 380 [o380_9, o381_9, (o382_9 P), o383_9, o384_9, o385_9, o386_9, o387_9, (o388_9 P), o389_9, o390_9, o391_9]) [(3, (o3_9 P)), (12, o12_9), (352, o352_9)]
def S9 (w : World) (os : OsState) : SharedT := ⟨T9 w.params, 392, {}, ⟨[]⟩, {}, 745, os⟩
def sts9 : List Stmt := ((behindTheImports P0).drop 46).take 1
def pos9 : Pos := ⟨332, 0, 333, 8⟩
theorem p9 (w : World) (os : OsState) : segRun treeTable P0 w 11 (some (.ref 6)) 1 214 (S8 w os).abs (piecesOf sts9 envT cdT pos8 B0) = some (.next, (S9 w os).abs, cdT, pos9) := by
  refine piece_y ?_; kernel_rfl
def eo3_10 (P : Params) : List DictEntry := eo3_9 P ++ [de P "StepFault" 760 (.ref 401), de P "MOST_PLACES" 764 (.int 30 763), de P "MOST_POWER" 766 (.int 99 765), de P "MOST_FIGURES" 768 (.int 120 767), de P "cut_quotient" 776 (.ref 410), de P "decimal" 785 (.ref 418), de P "kept" 793 (.ref 425), de P "units_beside" 802 (.ref 432)]
def o3_10 (P : Params) : Obj := dO (de P "__name__" 165 (sv "ledgerspeak.decimals" 761) :: eo3_10 P) 59
def fo12_10 : List Value := fo12_9 ++ [.int 334 0, .int 0 0, .ref 397, .int 340 0, .int 0 0, .ref 409, .int 344 0, .int 0 0, .ref 417, .int 351 0, .int 0 0, .ref 424, .int 358 0, .int 0 0, .ref 431]
def o12_10 : Obj := fO fo12_10
def o352_10 : Obj := ⟨.type "type", none, (.cls { name := (S "LedgerError"), bases := [.type "Exception"], mro := [.ref 352, .type "Exception", .type "BaseException", .type "object"], ns := 351, qualname := (S "LedgerError"), hasDict := true, slotNames := [], subclasses := [.ref 365, .ref 377, .ref 389, .ref 401], abstract := false, collection := none, hasDel := false }), ⟨[some (.ref 327), none, some (sv "LedgerError" 657), some (sv "LedgerError" 665), some (.builtin "Exception.__new__"), some (.bool true)]⟩⟩
def o392_10 : Obj := tO [.ref 352]
def o393_10 : Obj := tF "builtin_function_or_method" [.builtin "type.__prepare__", .type "type"]
def o394_10 (P : Params) : Obj := dO [de P "__module__" 752 (sv "ledgerspeak.errors" 655), de P "__qualname__" 754 (sv "StepFault" 753), de P "__firstlineno__" 756 (.int 334 755), de P "__static_attributes__" 757 (.ref 399)] 4
def o395_10 : Obj := tO []
def o396_10 : Obj := fO []
def o397_10 : Obj := cO "StepFault" "StepFault" 747 [334, 0, 0, 0, 0] 395 false 396 .none .none .none 750 334 751
def o398_10 : Obj := ⟨.type "frame", none, .plain, ⟨[some (.ref 397), some (.ref 3), some (.ref 394), none, some (sv "ledgerspeak.errors" 655), none, some (.ref 0)]⟩⟩
def o399_10 : Obj := tO []
def o400_10 (P : Params) : Obj := dO [de P "__module__" 752 (sv "ledgerspeak.errors" 655), de P "__firstlineno__" 756 (.int 334 755), de P "__static_attributes__" 757 (.ref 399), de P "__doc__" 758 .none] 2
def o401_10 : Obj := ⟨.type "type", none, (.cls { name := (S "StepFault"), bases := [.ref 352], mro := [.ref 401, .ref 352, .type "Exception", .type "BaseException", .type "object"], ns := 400, qualname := (S "StepFault"), hasDict := true, slotNames := [], subclasses := [], abstract := false, collection := none, hasDel := false }), ⟨[some (.ref 392), none, some (sv "StepFault" 745), some (sv "StepFault" 753), some (.builtin "Exception.__new__"), some (.bool true)]⟩⟩
def o402_10 : Obj := tF "super" [.ref 401, .ref 401, .ref 401]
def o403_10 : Obj := tF "builtin_function_or_method" [.builtin "object.__init_subclass__", .ref 401]
def o404_10 : Obj := tO []
def o405_10 : Obj := fO []
def o406_10 : Obj := tO [sv "top" 772, sv "bottom" 773]
def o407_10 : Obj := tO []
def o408_10 : Obj := gO (sAt 52) "cut_quotient"
def o409_10 : Obj := cO "cut_quotient" "cut_quotient" 769 [340, 2, 0, 0, 3] 404 true 405 (.ref 406) (.ref 407) (.ref 408) 774 340 775
def o410_10 : Obj := hO (sAt 52) "cut_quotient" .none (sv "ledgerspeak.decimals" 761) 409
def o411_10 : Obj := tO [.int 0 777]
def o412_10 : Obj := tO []
def o413_10 : Obj := fO []
def o414_10 : Obj := tO [sv "units" 781, sv "scale" 782]
def o415_10 : Obj := tO []
def o416_10 : Obj := gO (sAt 53) "decimal"
def o417_10 : Obj := cO "decimal" "decimal" 778 [344, 2, 0, 0, 3] 412 true 413 (.ref 414) (.ref 415) (.ref 416) 783 344 784
def o418_10 : Obj := hO (sAt 53) "decimal" (.ref 411) (sv "ledgerspeak.decimals" 761) 417
def o419_10 : Obj := tO []
def o420_10 : Obj := fO []
def o421_10 : Obj := tO [sv "units" 789, sv "scale" 790]
def o422_10 : Obj := tO []
def o423_10 : Obj := gO (sAt 54) "kept"
def o424_10 : Obj := cO "kept" "kept" 786 [351, 2, 0, 0, 3] 419 true 420 (.ref 421) (.ref 422) (.ref 423) 791 351 792
def o425_10 : Obj := hO (sAt 54) "kept" .none (sv "ledgerspeak.decimals" 761) 424
def o426_10 : Obj := tO []
def o427_10 : Obj := fO []
def o428_10 : Obj := tO [sv "a" 797, sv "b" 798, sv "scale" 799]
def o429_10 : Obj := tO []
def o430_10 : Obj := gO (sAt 55) "units_beside"
def o431_10 : Obj := cO "units_beside" "units_beside" 794 [358, 2, 0, 0, 3] 426 true 427 (.ref 428) (.ref 429) (.ref 430) 800 358 801
def o432_10 : Obj := hO (sAt 55) "units_beside" .none (sv "ledgerspeak.decimals" 761) 431
def T10 (P : Params) : BT := setAll (insAll (T9 P) 392 [o392_10, o393_10, (o394_10 P), o395_10, o396_10, o397_10, o398_10, o399_10, (o400_10 P), o401_10, o402_10, o403_10, o404_10, o405_10, o406_10, o407_10, o408_10, o409_10, o410_10, o411_10, o412_10, o413_10, o414_10, o415_10, o416_10, o417_10, o418_10, o419_10, o420_10, o421_10, o422_10, o423_10, o424_10, o425_10, o426_10, o427_10, o428_10, o429_10, o430_10, o431_10, o432_10]) [(3, (o3_10 P)), (12, o12_10), (352, o352_10)]
def S10 (w : World) (os : OsState) : SharedT := ⟨T10 w.params, 433, {}, ⟨[]⟩, {}, 803, os⟩
def sts10 : List Stmt := ((behindTheImports P0).drop 47).take 9
def pos10 : Pos := ⟨358, 0, 360, 76⟩
theorem p10 (w : World) (os : OsState) : segRun treeTable P0 w 11 (some (.ref 6)) 1 373 (S9 w os).abs (piecesOf sts10 envT cdT pos9 B0) = some (.next, (S10 w os).abs, cdT, pos10) := by
  refine piece_y ?_; kernel_rfl
def eo3_11 (P : Params) : List DictEntry := eo3_10 P ++ [de P "plus" 813 (.ref 439), de P "minus" 824 (.ref 446), de P "times" 832 (.ref 453), de P "negated" 839 (.ref 460), de P "quotient" 848 (.ref 468), de P "power" 858 (.ref 475), de P "units_at" 869 (.ref 482), de P "is_whole" 876 (.ref 489), de P "whole_of" 883 (.ref 496), de P "fits" 891 (.ref 503), de P "MOST_FRAMES" 895 (.int 20 894), de P "NO_LABEL" 898 (.int (-1) 897)]
def o3_11 (P : Params) : Obj := dO (de P "__name__" 165 (sv "ledgerspeak.machine" 892) :: eo3_11 P) 71
def fo12_11 : List Value := fo12_10 ++ [.int 361 0, .int 0 0, .ref 438, .int 364 0, .int 0 0, .ref 445, .int 367 0, .int 0 0, .ref 452, .int 369 0, .int 0 0, .ref 459, .int 371 0, .int 0 0, .ref 467, .int 375 0, .int 0 0, .ref 474, .int 384 0, .int 0 0, .ref 481, .int 392 0, .int 0 0, .ref 488, .int 394 0, .int 0 0, .ref 495, .int 396 0, .int 0 0, .ref 502]
def o12_11 : Obj := fO fo12_11
def o433_11 : Obj := tO []
def o434_11 : Obj := fO []
def o435_11 : Obj := tO [sv "a" 806, sv "b" 807, sv "first" 808, sv "second" 809, sv "scale" 810]
def o436_11 : Obj := tO []
def o437_11 : Obj := gO (sAt 56) "plus"
def o438_11 : Obj := cO "plus" "plus" 803 [361, 2, 0, 0, 3] 433 true 434 (.ref 435) (.ref 436) (.ref 437) 811 361 812
def o439_11 : Obj := hO (sAt 56) "plus" .none (sv "ledgerspeak.decimals" 761) 438
def o440_11 : Obj := tO []
def o441_11 : Obj := fO []
def o442_11 : Obj := tO [sv "a" 817, sv "b" 818, sv "first" 819, sv "second" 820, sv "scale" 821]
def o443_11 : Obj := tO []
def o444_11 : Obj := gO (sAt 57) "minus"
def o445_11 : Obj := cO "minus" "minus" 814 [364, 2, 0, 0, 3] 440 true 441 (.ref 442) (.ref 443) (.ref 444) 822 364 823
def o446_11 : Obj := hO (sAt 57) "minus" .none (sv "ledgerspeak.decimals" 761) 445
def o447_11 : Obj := tO []
def o448_11 : Obj := fO []
def o449_11 : Obj := tO [sv "a" 828, sv "b" 829]
def o450_11 : Obj := tO []
def o451_11 : Obj := gO (sAt 58) "times"
def o452_11 : Obj := cO "times" "times" 825 [367, 2, 0, 0, 3] 447 true 448 (.ref 449) (.ref 450) (.ref 451) 830 367 831
def o453_11 : Obj := hO (sAt 58) "times" .none (sv "ledgerspeak.decimals" 761) 452
def o454_11 : Obj := tO []
def o455_11 : Obj := fO []
def o456_11 : Obj := tO [sv "a" 836]
def o457_11 : Obj := tO []
def o458_11 : Obj := gO (sAt 59) "negated"
def o459_11 : Obj := cO "negated" "negated" 833 [369, 1, 0, 0, 3] 454 true 455 (.ref 456) (.ref 457) (.ref 458) 837 369 838
def o460_11 : Obj := hO (sAt 59) "negated" .none (sv "ledgerspeak.decimals" 761) 459
def o461_11 : Obj := tO [.int 30 763]
def o462_11 : Obj := tO []
def o463_11 : Obj := fO []
def o464_11 : Obj := tO [sv "a" 843, sv "b" 844, sv "many" 845]
def o465_11 : Obj := tO []
def o466_11 : Obj := gO (sAt 60) "quotient"
def o467_11 : Obj := cO "quotient" "quotient" 840 [371, 3, 0, 0, 3] 462 true 463 (.ref 464) (.ref 465) (.ref 466) 846 371 847
def o468_11 : Obj := hO (sAt 60) "quotient" (.ref 461) (sv "ledgerspeak.decimals" 761) 467
def o469_11 : Obj := tO []
def o470_11 : Obj := fO []
def o471_11 : Obj := tO [sv "a" 852, sv "b" 853, sv "found" 854, sv "turn" 855]
def o472_11 : Obj := tO []
def o473_11 : Obj := gO (sAt 61) "power"
def o474_11 : Obj := cO "power" "power" 849 [375, 2, 0, 0, 3] 469 true 470 (.ref 471) (.ref 472) (.ref 473) 856 375 857
def o475_11 : Obj := hO (sAt 61) "power" .none (sv "ledgerspeak.decimals" 761) 474
def o476_11 : Obj := tO []
def o477_11 : Obj := fO []
def o478_11 : Obj := tO [sv "a" 862, sv "scale" 863, sv "is_rounded" 864, sv "size" 865, sv "half" 866]
def o479_11 : Obj := tO []
def o480_11 : Obj := gO (sAt 62) "units_at"
def o481_11 : Obj := cO "units_at" "units_at" 859 [384, 3, 0, 0, 3] 476 true 477 (.ref 478) (.ref 479) (.ref 480) 867 384 868
def o482_11 : Obj := hO (sAt 62) "units_at" .none (sv "ledgerspeak.decimals" 761) 481
def o483_11 : Obj := tO []
def o484_11 : Obj := fO []
def o485_11 : Obj := tO [sv "a" 873]
def o486_11 : Obj := tO []
def o487_11 : Obj := gO (sAt 63) "is_whole"
def o488_11 : Obj := cO "is_whole" "is_whole" 870 [392, 1, 0, 0, 3] 483 true 484 (.ref 485) (.ref 486) (.ref 487) 874 392 875
def o489_11 : Obj := hO (sAt 63) "is_whole" .none (sv "ledgerspeak.decimals" 761) 488
def o490_11 : Obj := tO []
def o491_11 : Obj := fO []
def o492_11 : Obj := tO [sv "a" 880]
def o493_11 : Obj := tO []
def o494_11 : Obj := gO (sAt 64) "whole_of"
def o495_11 : Obj := cO "whole_of" "whole_of" 877 [394, 1, 0, 0, 3] 490 true 491 (.ref 492) (.ref 493) (.ref 494) 881 394 882
def o496_11 : Obj := hO (sAt 64) "whole_of" .none (sv "ledgerspeak.decimals" 761) 495
def o497_11 : Obj := tO []
def o498_11 : Obj := fO []
def o499_11 : Obj := tO [sv "units" 887, sv "digits" 888]
def o500_11 : Obj := tO []
def o501_11 : Obj := gO (sAt 65) "fits"
def o502_11 : Obj := cO "fits" "fits" 884 [396, 2, 0, 0, 3] 497 true 498 (.ref 499) (.ref 500) (.ref 501) 889 396 890
def o503_11 : Obj := hO (sAt 65) "fits" .none (sv "ledgerspeak.decimals" 761) 502
def T11 (P : Params) : BT := setAll (insAll (T10 P) 433 [o433_11, o434_11, o435_11, o436_11, o437_11, o438_11, o439_11, o440_11, o441_11, o442_11, o443_11, o444_11, o445_11, o446_11, o447_11, o448_11, o449_11, o450_11, o451_11, o452_11, o453_11, o454_11, o455_11, o456_11, o457_11, o458_11, o459_11, o460_11, o461_11, o462_11, o463_11, o464_11, o465_11, o466_11, o467_11, o468_11, o469_11, o470_11, o471_11, o472_11, o473_11, o474_11, o475_11, o476_11, o477_11, o478_11, o479_11, o480_11, o481_11, o482_11, o483_11, o484_11, o485_11, o486_11, o487_11, o488_11, o489_11, o490_11, o491_11, o492_11, o493_11, o494_11, o495_11, o496_11, o497_11, o498_11, o499_11, o500_11, o501_11, o502_11, o503_11]) [(3, (o3_11 P)), (12, o12_11)]
def S11 (w : World) (os : OsState) : SharedT := ⟨T11 w.params, 504, {}, ⟨[]⟩, {}, 899, os⟩
def sts11 : List Stmt := ((behindTheImports P0).drop 56).take 13
def pos11 : Pos := ⟨400, 0, 400, 8⟩
theorem p11 (w : World) (os : OsState) : segRun treeTable P0 w 11 (some (.ref 6)) 1 345 (S10 w os).abs (piecesOf sts11 envT cdT pos10 B0) = some (.next, (S11 w os).abs, cdT, pos11) := by
  refine piece_y ?_; kernel_rfl
def eo3_12 (P : Params) : List DictEntry := eo3_11 P ++ [de P "Frame" 930 (.ref 520)]
def o3_12 (P : Params) : Obj := dO (de P "__name__" 165 (sv "ledgerspeak.machine" 892) :: eo3_12 P) 72
def fo12_12 : List Value := fo12_11 ++ [.int 401 0, .int 0 0, .ref 509]
def o12_12 : Obj := fO fo12_12
def o504_12 : Obj := tO []
def o505_12 : Obj := tF "builtin_function_or_method" [.builtin "type.__prepare__", .type "type"]
def o506_12 (P : Params) : Obj := dO [de P "__module__" 906 (sv "ledgerspeak.machine" 892), de P "__qualname__" 908 (sv "Frame" 907), de P "__firstlineno__" 910 (.int 401 909), de P "__init__" 919 (.ref 517), de P "__static_attributes__" 923 (.ref 518)] 5
def o507_12 : Obj := tO []
def o508_12 : Obj := fO [.int 403 0, .int 4 0, .ref 516]
def o509_12 : Obj := cO "Frame" "Frame" 901 [401, 0, 0, 0, 0] 507 false 508 .none .none .none 904 401 905
def o510_12 : Obj := ⟨.type "frame", none, .plain, ⟨[some (.ref 509), some (.ref 3), some (.ref 506), none, some (sv "ledgerspeak.machine" 892), none, some (.ref 0)]⟩⟩
def o511_12 : Obj := tO []
def o512_12 : Obj := fO []
def o513_12 : Obj := tO [sv "self" 914, sv "last" 915, sv "behind" 916]
def o514_12 : Obj := tO []
def o515_12 : Obj := gO (mAt 69 0) "Frame.__init__"
def o516_12 : Obj := cO "__init__" "Frame.__init__" 911 [403, 3, 0, 0, 3] 511 true 512 (.ref 513) (.ref 514) (.ref 515) 917 403 918
def o517_12 : Obj := hO (mAt 69 0) "Frame.__init__" .none (sv "ledgerspeak.machine" 892) 516
def o518_12 : Obj := tO [sv "behind" 920, sv "last" 921, sv "slots" 922]
def o519_12 (P : Params) : Obj := dO [de P "__module__" 906 (sv "ledgerspeak.machine" 892), de P "__firstlineno__" 910 (.int 401 909), de P "__init__" 919 (.ref 517), de P "__static_attributes__" 923 (.ref 518), de P "__dict__" 925 (.ref 521), de P "__weakref__" 927 (.ref 522), de P "__doc__" 928 .none] 4
def o520_12 : Obj := ⟨.type "type", none, (.cls { name := (S "Frame"), bases := [.type "object"], mro := [.ref 520, .type "object"], ns := 519, qualname := (S "Frame"), hasDict := true, slotNames := [], subclasses := [], abstract := false, collection := none, hasDel := false }), ⟨[none, none, some (sv "Frame" 899), some (sv "Frame" 907), some (.builtin "object.__new__"), some (.bool true)]⟩⟩
def o521_12 : Obj := tF "getset_descriptor" [sv "__dict__" 924, .ref 520, .builtin "function.__dict__", .builtin "function.__dict__#set"]
def o522_12 : Obj := tF "getset_descriptor" [sv "__weakref__" 926, .ref 520, .builtin "ExceptionGroup.__weakref__", .none]
def o523_12 : Obj := tF "super" [.ref 520, .ref 520, .ref 520]
def o524_12 : Obj := tF "builtin_function_or_method" [.builtin "object.__init_subclass__", .ref 520]
def T12 (P : Params) : BT := setAll (insAll (T11 P) 504 [o504_12, o505_12, (o506_12 P), o507_12, o508_12, o509_12, o510_12, o511_12, o512_12, o513_12, o514_12, o515_12, o516_12, o517_12, o518_12, (o519_12 P), o520_12, o521_12, o522_12, o523_12, o524_12]) [(3, (o3_12 P)), (12, o12_12)]
def S12 (w : World) (os : OsState) : SharedT := ⟨T12 w.params, 525, {}, ⟨[]⟩, {}, 931, os⟩
def sts12 : List Stmt := ((behindTheImports P0).drop 69).take 1
def pos12 : Pos := ⟨401, 0, 406, 23⟩
theorem p12 (w : World) (os : OsState) : segRun treeTable P0 w 11 (some (.ref 6)) 1 226 (S11 w os).abs (piecesOf sts12 envT cdT pos11 B0) = some (.next, (S12 w os).abs, cdT, pos12) := by
  refine piece_y ?_; kernel_rfl
def eo3_13 (P : Params) : List DictEntry := eo3_12 P ++ [de P "Machine" 974 (.ref 548), de P "calculated" 983 (.ref 559), de P "worth_by" 992 (.ref 566), de P "do_reckon" 1000 (.ref 573), de P "do_put" 1008 (.ref 580)]
def o3_13 (P : Params) : Obj := dO (de P "__name__" 165 (sv "ledgerspeak.machine" 892) :: eo3_13 P) 77
def fo12_13 : List Value := fo12_12 ++ [.int 407 0, .int 0 0, .ref 530, .int 421 0, .int 0 0, .ref 558, .int 429 0, .int 0 0, .ref 565, .int 434 0, .int 0 0, .ref 572, .int 441 0, .int 0 0, .ref 579]
def o12_13 : Obj := fO fo12_13
def o525_13 : Obj := tO []
def o526_13 : Obj := tF "builtin_function_or_method" [.builtin "type.__prepare__", .type "type"]
def o527_13 (P : Params) : Obj := dO [de P "__module__" 938 (sv "ledgerspeak.machine" 892), de P "__qualname__" 940 (sv "Machine" 939), de P "__firstlineno__" 942 (.int 407 941), de P "__init__" 951 (.ref 538), de P "give_up" 959 (.ref 545), de P "__static_attributes__" 967 (.ref 546)] 6
def o528_13 : Obj := tO []
def o529_13 : Obj := fO [.int 409 0, .int 4 0, .ref 537, .int 418 0, .int 4 0, .ref 544]
def o530_13 : Obj := cO "Machine" "Machine" 933 [407, 0, 0, 0, 0] 528 false 529 .none .none .none 936 407 937
def o531_13 : Obj := ⟨.type "frame", none, .plain, ⟨[some (.ref 530), some (.ref 3), some (.ref 527), none, some (sv "ledgerspeak.machine" 892), none, some (.ref 0)]⟩⟩
def o532_13 : Obj := tO []
def o533_13 : Obj := fO []
def o534_13 : Obj := tO [sv "self" 946, sv "code" 947, sv "deeds" 948]
def o535_13 : Obj := tO []
def o536_13 : Obj := gO (mAt 70 0) "Machine.__init__"
def o537_13 : Obj := cO "__init__" "Machine.__init__" 943 [409, 3, 0, 0, 3] 532 true 533 (.ref 534) (.ref 535) (.ref 536) 949 409 950
def o538_13 : Obj := hO (mAt 70 0) "Machine.__init__" .none (sv "ledgerspeak.machine" 892) 537
def o539_13 : Obj := tO []
def o540_13 : Obj := fO []
def o541_13 : Obj := tO [sv "self" 955, sv "label" 956]
def o542_13 : Obj := tO []
def o543_13 : Obj := gO (mAt 70 1) "Machine.give_up"
def o544_13 : Obj := cO "give_up" "Machine.give_up" 952 [418, 2, 0, 0, 3] 539 true 540 (.ref 541) (.ref 542) (.ref 543) 957 418 958
def o545_13 : Obj := hO (mAt 70 1) "Machine.give_up" .none (sv "ledgerspeak.machine" 892) 544
def o546_13 : Obj := tO [sv "code" 960, sv "deeds" 961, sv "frames" 962, sv "key" 963, sv "place" 964, sv "stack" 965, sv "word" 966]
def o547_13 (P : Params) : Obj := dO [de P "__module__" 938 (sv "ledgerspeak.machine" 892), de P "__firstlineno__" 942 (.int 407 941), de P "__init__" 951 (.ref 538), de P "give_up" 959 (.ref 545), de P "__static_attributes__" 967 (.ref 546), de P "__dict__" 969 (.ref 549), de P "__weakref__" 971 (.ref 550), de P "__doc__" 972 .none] 4
def o548_13 : Obj := ⟨.type "type", none, (.cls { name := (S "Machine"), bases := [.type "object"], mro := [.ref 548, .type "object"], ns := 547, qualname := (S "Machine"), hasDict := true, slotNames := [], subclasses := [], abstract := false, collection := none, hasDel := false }), ⟨[none, none, some (sv "Machine" 931), some (sv "Machine" 939), some (.builtin "object.__new__"), some (.bool true)]⟩⟩
def o549_13 : Obj := tF "getset_descriptor" [sv "__dict__" 968, .ref 548, .builtin "function.__dict__", .builtin "function.__dict__#set"]
def o550_13 : Obj := tF "getset_descriptor" [sv "__weakref__" 970, .ref 548, .builtin "ExceptionGroup.__weakref__", .none]
def o551_13 : Obj := tF "super" [.ref 548, .ref 548, .ref 548]
def o552_13 : Obj := tF "builtin_function_or_method" [.builtin "object.__init_subclass__", .ref 548]
def o553_13 : Obj := tO []
def o554_13 : Obj := fO []
def o555_13 : Obj := tO [sv "sign" 978, sv "a" 979, sv "b" 980]
def o556_13 : Obj := tO []
def o557_13 : Obj := gO (sAt 71) "calculated"
def o558_13 : Obj := cO "calculated" "calculated" 975 [421, 3, 0, 0, 3] 553 true 554 (.ref 555) (.ref 556) (.ref 557) 981 421 982
def o559_13 : Obj := hO (sAt 71) "calculated" .none (sv "ledgerspeak.machine" 892) 558
def o560_13 : Obj := tO []
def o561_13 : Obj := fO []
def o562_13 : Obj := tO [sv "machine" 987, sv "op" 988, sv "last" 989]
def o563_13 : Obj := tO []
def o564_13 : Obj := gO (sAt 72) "worth_by"
def o565_13 : Obj := cO "worth_by" "worth_by" 984 [429, 2, 0, 0, 3] 560 true 561 (.ref 562) (.ref 563) (.ref 564) 990 429 991
def o566_13 : Obj := hO (sAt 72) "worth_by" .none (sv "ledgerspeak.machine" 892) 565
def o567_13 : Obj := tO []
def o568_13 : Obj := fO []
def o569_13 : Obj := tO [sv "machine" 996, sv "op" 997]
def o570_13 : Obj := tO []
def o571_13 : Obj := gO (sAt 73) "do_reckon"
def o572_13 : Obj := cO "do_reckon" "do_reckon" 993 [434, 2, 0, 0, 3] 567 true 568 (.ref 569) (.ref 570) (.ref 571) 998 434 999
def o573_13 : Obj := hO (sAt 73) "do_reckon" .none (sv "ledgerspeak.machine" 892) 572
def o574_13 : Obj := tO []
def o575_13 : Obj := fO []
def o576_13 : Obj := tO [sv "machine" 1004, sv "op" 1005]
def o577_13 : Obj := tO []
def o578_13 : Obj := gO (sAt 74) "do_put"
def o579_13 : Obj := cO "do_put" "do_put" 1001 [441, 2, 0, 0, 3] 574 true 575 (.ref 576) (.ref 577) (.ref 578) 1006 441 1007
def o580_13 : Obj := hO (sAt 74) "do_put" .none (sv "ledgerspeak.machine" 892) 579
def T13 (P : Params) : BT := setAll (insAll (T12 P) 525 [o525_13, o526_13, (o527_13 P), o528_13, o529_13, o530_13, o531_13, o532_13, o533_13, o534_13, o535_13, o536_13, o537_13, o538_13, o539_13, o540_13, o541_13, o542_13, o543_13, o544_13, o545_13, o546_13, (o547_13 P), o548_13, o549_13, o550_13, o551_13, o552_13, o553_13, o554_13, o555_13, o556_13, o557_13, o558_13, o559_13, o560_13, o561_13, o562_13, o563_13, o564_13, o565_13, o566_13, o567_13, o568_13, o569_13, o570_13, o571_13, o572_13, o573_13, o574_13, o575_13, o576_13, o577_13, o578_13, o579_13, o580_13]) [(3, (o3_13 P)), (12, o12_13)]
def S13 (w : World) (os : OsState) : SharedT := ⟨T13 w.params, 581, {}, ⟨[]⟩, {}, 1009, os⟩
def sts13 : List Stmt := ((behindTheImports P0).drop 70).take 5
def pos13 : Pos := ⟨441, 0, 443, 29⟩
theorem p13 (w : World) (os : OsState) : segRun treeTable P0 w 11 (some (.ref 6)) 1 384 (S12 w os).abs (piecesOf sts13 envT cdT pos12 B0) = some (.next, (S13 w os).abs, cdT, pos13) := by
  refine piece_y ?_; kernel_rfl
def eo3_14 (P : Params) : List DictEntry := eo3_13 P ++ [de P "do_deed" 1016 (.ref 587), de P "do_key" 1024 (.ref 594), de P "do_test" 1032 (.ref 601), de P "do_jump" 1040 (.ref 608), de P "do_choose" 1049 (.ref 615), de P "begin_frame" 1057 (.ref 622), de P "leave_frame" 1065 (.ref 629), de P "do_count" 1073 (.ref 636), de P "do_less" 1082 (.ref 643), de P "do_stop" 1090 (.ref 650), de P "op_table" 1096 (.ref 657), de P "run_code" 1109 (.ref 664)]
def o3_14 (P : Params) : Obj := dO (de P "__name__" 165 (sv "ledgerspeak.procread" 1110) :: eo3_14 P) 89
def fo12_14 : List Value := fo12_13 ++ [.int 444 0, .int 0 0, .ref 586, .int 446 0, .int 0 0, .ref 593, .int 449 0, .int 0 0, .ref 600, .int 452 0, .int 0 0, .ref 607, .int 454 0, .int 0 0, .ref 614, .int 458 0, .int 0 0, .ref 621, .int 463 0, .int 0 0, .ref 628, .int 466 0, .int 0 0, .ref 635, .int 468 0, .int 0 0, .ref 642, .int 474 0, .int 0 0, .ref 649, .int 476 0, .int 0 0, .ref 656, .int 478 0, .int 0 0, .ref 663]
def o12_14 : Obj := fO fo12_14
def o581_14 : Obj := tO []
def o582_14 : Obj := fO []
def o583_14 : Obj := tO [sv "machine" 1012, sv "op" 1013]
def o584_14 : Obj := tO []
def o585_14 : Obj := gO (sAt 75) "do_deed"
def o586_14 : Obj := cO "do_deed" "do_deed" 1009 [444, 2, 0, 0, 3] 581 true 582 (.ref 583) (.ref 584) (.ref 585) 1014 444 1015
def o587_14 : Obj := hO (sAt 75) "do_deed" .none (sv "ledgerspeak.machine" 892) 586
def o588_14 : Obj := tO []
def o589_14 : Obj := fO []
def o590_14 : Obj := tO [sv "machine" 1020, sv "op" 1021]
def o591_14 : Obj := tO []
def o592_14 : Obj := gO (sAt 76) "do_key"
def o593_14 : Obj := cO "do_key" "do_key" 1017 [446, 2, 0, 0, 3] 588 true 589 (.ref 590) (.ref 591) (.ref 592) 1022 446 1023
def o594_14 : Obj := hO (sAt 76) "do_key" .none (sv "ledgerspeak.machine" 892) 593
def o595_14 : Obj := tO []
def o596_14 : Obj := fO []
def o597_14 : Obj := tO [sv "machine" 1028, sv "op" 1029]
def o598_14 : Obj := tO []
def o599_14 : Obj := gO (sAt 77) "do_test"
def o600_14 : Obj := cO "do_test" "do_test" 1025 [449, 2, 0, 0, 3] 595 true 596 (.ref 597) (.ref 598) (.ref 599) 1030 449 1031
def o601_14 : Obj := hO (sAt 77) "do_test" .none (sv "ledgerspeak.machine" 892) 600
def o602_14 : Obj := tO []
def o603_14 : Obj := fO []
def o604_14 : Obj := tO [sv "machine" 1036, sv "op" 1037]
def o605_14 : Obj := tO []
def o606_14 : Obj := gO (sAt 78) "do_jump"
def o607_14 : Obj := cO "do_jump" "do_jump" 1033 [452, 2, 0, 0, 3] 602 true 603 (.ref 604) (.ref 605) (.ref 606) 1038 452 1039
def o608_14 : Obj := hO (sAt 78) "do_jump" .none (sv "ledgerspeak.machine" 892) 607
def o609_14 : Obj := tO []
def o610_14 : Obj := fO []
def o611_14 : Obj := tO [sv "machine" 1044, sv "op" 1045, sv "worth" 1046]
def o612_14 : Obj := tO []
def o613_14 : Obj := gO (sAt 79) "do_choose"
def o614_14 : Obj := cO "do_choose" "do_choose" 1041 [454, 2, 0, 0, 3] 609 true 610 (.ref 611) (.ref 612) (.ref 613) 1047 454 1048
def o615_14 : Obj := hO (sAt 79) "do_choose" .none (sv "ledgerspeak.machine" 892) 614
def o616_14 : Obj := tO []
def o617_14 : Obj := fO []
def o618_14 : Obj := tO [sv "machine" 1053, sv "op" 1054]
def o619_14 : Obj := tO []
def o620_14 : Obj := gO (sAt 80) "begin_frame"
def o621_14 : Obj := cO "begin_frame" "begin_frame" 1050 [458, 2, 0, 0, 3] 616 true 617 (.ref 618) (.ref 619) (.ref 620) 1055 458 1056
def o622_14 : Obj := hO (sAt 80) "begin_frame" .none (sv "ledgerspeak.machine" 892) 621
def o623_14 : Obj := tO []
def o624_14 : Obj := fO []
def o625_14 : Obj := tO [sv "machine" 1061, sv "op" 1062]
def o626_14 : Obj := tO []
def o627_14 : Obj := gO (sAt 81) "leave_frame"
def o628_14 : Obj := cO "leave_frame" "leave_frame" 1058 [463, 2, 0, 0, 3] 623 true 624 (.ref 625) (.ref 626) (.ref 627) 1063 463 1064
def o629_14 : Obj := hO (sAt 81) "leave_frame" .none (sv "ledgerspeak.machine" 892) 628
def o630_14 : Obj := tO []
def o631_14 : Obj := fO []
def o632_14 : Obj := tO [sv "machine" 1069, sv "op" 1070]
def o633_14 : Obj := tO []
def o634_14 : Obj := gO (sAt 82) "do_count"
def o635_14 : Obj := cO "do_count" "do_count" 1066 [466, 2, 0, 0, 3] 630 true 631 (.ref 632) (.ref 633) (.ref 634) 1071 466 1072
def o636_14 : Obj := hO (sAt 82) "do_count" .none (sv "ledgerspeak.machine" 892) 635
def o637_14 : Obj := tO []
def o638_14 : Obj := fO []
def o639_14 : Obj := tO [sv "machine" 1077, sv "op" 1078, sv "slots" 1079]
def o640_14 : Obj := tO []
def o641_14 : Obj := gO (sAt 83) "do_less"
def o642_14 : Obj := cO "do_less" "do_less" 1074 [468, 2, 0, 0, 3] 637 true 638 (.ref 639) (.ref 640) (.ref 641) 1080 468 1081
def o643_14 : Obj := hO (sAt 83) "do_less" .none (sv "ledgerspeak.machine" 892) 642
def o644_14 : Obj := tO []
def o645_14 : Obj := fO []
def o646_14 : Obj := tO [sv "machine" 1086, sv "op" 1087]
def o647_14 : Obj := tO []
def o648_14 : Obj := gO (sAt 84) "do_stop"
def o649_14 : Obj := cO "do_stop" "do_stop" 1083 [474, 2, 0, 0, 3] 644 true 645 (.ref 646) (.ref 647) (.ref 648) 1088 474 1089
def o650_14 : Obj := hO (sAt 84) "do_stop" .none (sv "ledgerspeak.machine" 892) 649
def o651_14 : Obj := tO []
def o652_14 : Obj := fO []
def o653_14 : Obj := tO []
def o654_14 : Obj := tO []
def o655_14 : Obj := gO (sAt 85) "op_table"
def o656_14 : Obj := cO "op_table" "op_table" 1091 [476, 0, 0, 0, 3] 651 true 652 (.ref 653) (.ref 654) (.ref 655) 1094 476 1095
def o657_14 : Obj := hO (sAt 85) "op_table" .none (sv "ledgerspeak.machine" 892) 656
def o658_14 : Obj := tO []
def o659_14 : Obj := fO []
def o660_14 : Obj := tO [sv "code" 1100, sv "deeds" 1101, sv "limit" 1102, sv "machine" 1103, sv "table" 1104, sv "steps" 1105, sv "op" 1106]
def o661_14 : Obj := tO []
def o662_14 : Obj := gO (sAt 86) "run_code"
def o663_14 : Obj := cO "run_code" "run_code" 1097 [478, 3, 0, 0, 3] 658 true 659 (.ref 660) (.ref 661) (.ref 662) 1107 478 1108
def o664_14 : Obj := hO (sAt 86) "run_code" .none (sv "ledgerspeak.machine" 892) 663
def T14 (P : Params) : BT := setAll (insAll (T13 P) 581 [o581_14, o582_14, o583_14, o584_14, o585_14, o586_14, o587_14, o588_14, o589_14, o590_14, o591_14, o592_14, o593_14, o594_14, o595_14, o596_14, o597_14, o598_14, o599_14, o600_14, o601_14, o602_14, o603_14, o604_14, o605_14, o606_14, o607_14, o608_14, o609_14, o610_14, o611_14, o612_14, o613_14, o614_14, o615_14, o616_14, o617_14, o618_14, o619_14, o620_14, o621_14, o622_14, o623_14, o624_14, o625_14, o626_14, o627_14, o628_14, o629_14, o630_14, o631_14, o632_14, o633_14, o634_14, o635_14, o636_14, o637_14, o638_14, o639_14, o640_14, o641_14, o642_14, o643_14, o644_14, o645_14, o646_14, o647_14, o648_14, o649_14, o650_14, o651_14, o652_14, o653_14, o654_14, o655_14, o656_14, o657_14, o658_14, o659_14, o660_14, o661_14, o662_14, o663_14, o664_14]) [(3, (o3_14 P)), (12, o12_14)]
def S14 (w : World) (os : OsState) : SharedT := ⟨T14 w.params, 665, {}, ⟨[]⟩, {}, 1112, os⟩
def sts14 : List Stmt := ((behindTheImports P0).drop 75).take 13
def pos14 : Pos := ⟨492, 0, 492, 8⟩
theorem p14 (w : World) (os : OsState) : segRun treeTable P0 w 11 (some (.ref 6)) 1 375 (S13 w os).abs (piecesOf sts14 envT cdT pos13 B0) = some (.next, (S14 w os).abs, cdT, pos14) := by
  refine piece_y ?_; kernel_rfl
def eo3_15 (P : Params) : List DictEntry := eo3_14 P ++ [de P "Paragraph" 1151 (.ref 688)]
def o3_15 (P : Params) : Obj := dO (de P "__name__" 165 (sv "ledgerspeak.procread" 1110) :: eo3_15 P) 90
def fo12_15 : List Value := fo12_14 ++ [.int 493 0, .int 0 0, .ref 670]
def o12_15 : Obj := fO fo12_15
def o665_15 : Obj := tO []
def o666_15 : Obj := tF "builtin_function_or_method" [.builtin "type.__prepare__", .type "type"]
def o667_15 (P : Params) : Obj := dO [de P "__module__" 1119 (sv "ledgerspeak.procread" 1110), de P "__qualname__" 1121 (sv "Paragraph" 1120), de P "__firstlineno__" 1123 (.int 493 1122), de P "__init__" 1133 (.ref 678), de P "told" 1140 (.ref 685), de P "__static_attributes__" 1144 (.ref 686)] 6
def o668_15 : Obj := tO []
def o669_15 : Obj := fO [.int 495 0, .int 4 0, .ref 677, .int 500 0, .int 4 0, .ref 684]
def o670_15 : Obj := cO "Paragraph" "Paragraph" 1114 [493, 0, 0, 0, 0] 668 false 669 .none .none .none 1117 493 1118
def o671_15 : Obj := ⟨.type "frame", none, .plain, ⟨[some (.ref 670), some (.ref 3), some (.ref 667), none, some (sv "ledgerspeak.procread" 1110), none, some (.ref 0)]⟩⟩
def o672_15 : Obj := tO []
def o673_15 : Obj := fO []
def o674_15 : Obj := tO [sv "self" 1127, sv "name" 1128, sv "section" 1129, sv "statements" 1130]
def o675_15 : Obj := tO []
def o676_15 : Obj := gO (mAt 88 0) "Paragraph.__init__"
def o677_15 : Obj := cO "__init__" "Paragraph.__init__" 1124 [495, 4, 0, 0, 3] 672 true 673 (.ref 674) (.ref 675) (.ref 676) 1131 495 1132
def o678_15 : Obj := hO (mAt 88 0) "Paragraph.__init__" .none (sv "ledgerspeak.procread" 1110) 677
def o679_15 : Obj := tO []
def o680_15 : Obj := fO []
def o681_15 : Obj := tO [sv "self" 1137]
def o682_15 : Obj := tO []
def o683_15 : Obj := gO (mAt 88 1) "Paragraph.told"
def o684_15 : Obj := cO "told" "Paragraph.told" 1134 [500, 1, 0, 0, 3] 679 true 680 (.ref 681) (.ref 682) (.ref 683) 1138 500 1139
def o685_15 : Obj := hO (mAt 88 1) "Paragraph.told" .none (sv "ledgerspeak.procread" 1110) 684
def o686_15 : Obj := tO [sv "name" 1141, sv "section" 1142, sv "statements" 1143]
def o687_15 (P : Params) : Obj := dO [de P "__module__" 1119 (sv "ledgerspeak.procread" 1110), de P "__firstlineno__" 1123 (.int 493 1122), de P "__init__" 1133 (.ref 678), de P "told" 1140 (.ref 685), de P "__static_attributes__" 1144 (.ref 686), de P "__dict__" 1146 (.ref 689), de P "__weakref__" 1148 (.ref 690), de P "__doc__" 1149 .none] 4
def o688_15 : Obj := ⟨.type "type", none, (.cls { name := (S "Paragraph"), bases := [.type "object"], mro := [.ref 688, .type "object"], ns := 687, qualname := (S "Paragraph"), hasDict := true, slotNames := [], subclasses := [], abstract := false, collection := none, hasDel := false }), ⟨[none, none, some (sv "Paragraph" 1112), some (sv "Paragraph" 1120), some (.builtin "object.__new__"), some (.bool true)]⟩⟩
def o689_15 : Obj := tF "getset_descriptor" [sv "__dict__" 1145, .ref 688, .builtin "function.__dict__", .builtin "function.__dict__#set"]
def o690_15 : Obj := tF "getset_descriptor" [sv "__weakref__" 1147, .ref 688, .builtin "ExceptionGroup.__weakref__", .none]
def o691_15 : Obj := tF "super" [.ref 688, .ref 688, .ref 688]
def o692_15 : Obj := tF "builtin_function_or_method" [.builtin "object.__init_subclass__", .ref 688]
def T15 (P : Params) : BT := setAll (insAll (T14 P) 665 [o665_15, o666_15, (o667_15 P), o668_15, o669_15, o670_15, o671_15, o672_15, o673_15, o674_15, o675_15, o676_15, o677_15, o678_15, o679_15, o680_15, o681_15, o682_15, o683_15, o684_15, o685_15, o686_15, (o687_15 P), o688_15, o689_15, o690_15, o691_15, o692_15]) [(3, (o3_15 P)), (12, o12_15)]
def S15 (w : World) (os : OsState) : SharedT := ⟨T15 w.params, 693, {}, ⟨[]⟩, {}, 1152, os⟩
def sts15 : List Stmt := ((behindTheImports P0).drop 88).take 1
def pos15 : Pos := ⟨493, 0, 501, 57⟩
theorem p15 (w : World) (os : OsState) : segRun treeTable P0 w 11 (some (.ref 6)) 1 258 (S14 w os).abs (piecesOf sts15 envT cdT pos14 B0) = some (.next, (S15 w os).abs, cdT, pos15) := by
  refine piece_y ?_; kernel_rfl
def eo3_16 (P : Params) : List DictEntry := eo3_15 P ++ [de P "Procedures" 1210 (.ref 728), de P "_law_pen" 1218 (.ref 737), de P "_law_draw" 1231 (.ref 744)]
def o3_16 (P : Params) : Obj := dO (de P "__name__" 165 (sv "law_pc0149_02" 1211) :: eo3_16 P) 93
def fo12_16 : List Value := fo12_15 ++ [.int 502 0, .int 0 0, .ref 698, .int 532 0, .int 0 0, .ref 736, .int 534 0, .int 0 0, .ref 743]
def o12_16 : Obj := fO fo12_16
def o693_16 : Obj := tO []
def o694_16 : Obj := tF "builtin_function_or_method" [.builtin "type.__prepare__", .type "type"]
def o695_16 (P : Params) : Obj := dO [de P "__module__" 1159 (sv "ledgerspeak.procread" 1110), de P "__qualname__" 1161 (sv "Procedures" 1160), de P "__firstlineno__" 1163 (.int 502 1162), de P "__init__" 1172 (.ref 706), de P "told" 1178 (.ref 711), de P "section_end" 1187 (.ref 718), de P "range_of" 1200 (.ref 725), de P "__static_attributes__" 1203 (.ref 726)] 8
def o696_16 : Obj := tO []
def o697_16 : Obj := fO [.int 504 0, .int 4 0, .ref 705, .int 508 0, .int 4 0, .ref 710, .int 511 0, .int 4 0, .ref 717, .int 517 0, .int 4 0, .ref 724]
def o698_16 : Obj := cO "Procedures" "Procedures" 1154 [502, 0, 0, 0, 0] 696 false 697 .none .none .none 1157 502 1158
def o699_16 : Obj := ⟨.type "frame", none, .plain, ⟨[some (.ref 698), some (.ref 3), some (.ref 695), none, some (sv "ledgerspeak.procread" 1110), none, some (.ref 0)]⟩⟩
def o700_16 : Obj := tO []
def o701_16 : Obj := fO []
def o702_16 : Obj := tO [sv "self" 1167, sv "rows" 1168, sv "using" 1169]
def o703_16 : Obj := tO []
def o704_16 : Obj := gO (mAt 89 0) "Procedures.__init__"
def o705_16 : Obj := cO "__init__" "Procedures.__init__" 1164 [504, 3, 0, 0, 3] 700 true 701 (.ref 702) (.ref 703) (.ref 704) 1170 504 1171
def o706_16 : Obj := hO (mAt 89 0) "Procedures.__init__" .none (sv "ledgerspeak.procread" 1110) 705
def o707_16 : Obj := tO []
def o708_16 : Obj := fO []
def o709_16 : Obj := gO (mAt 89 1) "Procedures.told"
def o710_16 : Obj := cO "told" "Procedures.told" 1173 [508, 1, 0, 0, 3] 707 true 708 .none .none (.ref 709) 1176 508 1177
def o711_16 : Obj := hO (mAt 89 1) "Procedures.told" .none (sv "ledgerspeak.procread" 1110) 710
def o712_16 : Obj := tO []
def o713_16 : Obj := fO []
def o714_16 : Obj := tO [sv "self" 1182, sv "at" 1183, sv "end" 1184]
def o715_16 : Obj := tO []
def o716_16 : Obj := gO (mAt 89 2) "Procedures.section_end"
def o717_16 : Obj := cO "section_end" "Procedures.section_end" 1179 [511, 2, 0, 0, 3] 712 true 713 (.ref 714) (.ref 715) (.ref 716) 1185 511 1186
def o718_16 : Obj := hO (mAt 89 2) "Procedures.section_end" .none (sv "ledgerspeak.procread" 1110) 717
def o719_16 : Obj := tO []
def o720_16 : Obj := fO []
def o721_16 : Obj := tO [sv "self" 1191, sv "pair" 1192, sv "name" 1193, sv "section" 1194, sv "found" 1195, sv "at" 1196, sv "row" 1197]
def o722_16 : Obj := tO []
def o723_16 : Obj := gO (mAt 89 3) "Procedures.range_of"
def o724_16 : Obj := cO "range_of" "Procedures.range_of" 1188 [517, 2, 0, 0, 3] 719 true 720 (.ref 721) (.ref 722) (.ref 723) 1198 517 1199
def o725_16 : Obj := hO (mAt 89 3) "Procedures.range_of" .none (sv "ledgerspeak.procread" 1110) 724
def o726_16 : Obj := tO [sv "rows" 1201, sv "using" 1202]
def o727_16 (P : Params) : Obj := dO [de P "__module__" 1159 (sv "ledgerspeak.procread" 1110), de P "__firstlineno__" 1163 (.int 502 1162), de P "__init__" 1172 (.ref 706), de P "told" 1178 (.ref 711), de P "section_end" 1187 (.ref 718), de P "range_of" 1200 (.ref 725), de P "__static_attributes__" 1203 (.ref 726), de P "__dict__" 1205 (.ref 729), de P "__weakref__" 1207 (.ref 730), de P "__doc__" 1208 .none] 4
def o728_16 : Obj := ⟨.type "type", none, (.cls { name := (S "Procedures"), bases := [.type "object"], mro := [.ref 728, .type "object"], ns := 727, qualname := (S "Procedures"), hasDict := true, slotNames := [], subclasses := [], abstract := false, collection := none, hasDel := false }), ⟨[none, none, some (sv "Procedures" 1152), some (sv "Procedures" 1160), some (.builtin "object.__new__"), some (.bool true)]⟩⟩
def o729_16 : Obj := tF "getset_descriptor" [sv "__dict__" 1204, .ref 728, .builtin "function.__dict__", .builtin "function.__dict__#set"]
def o730_16 : Obj := tF "getset_descriptor" [sv "__weakref__" 1206, .ref 728, .builtin "ExceptionGroup.__weakref__", .none]
def o731_16 : Obj := tF "super" [.ref 728, .ref 728, .ref 728]
def o732_16 : Obj := tF "builtin_function_or_method" [.builtin "object.__init_subclass__", .ref 728]
def o733_16 : Obj := tO []
def o734_16 : Obj := fO []
def o735_16 : Obj := gO (sAt 91) "_law_pen"
def o736_16 : Obj := cO "_law_pen" "_law_pen" 1213 [532, 1, 0, 0, 3] 733 true 734 .none .none (.ref 735) 1216 532 1217
def o737_16 : Obj := hO (sAt 91) "_law_pen" .none (sv "law_pc0149_02" 1211) 736
def o738_16 : Obj := tO []
def o739_16 : Obj := fO []
def o740_16 : Obj := tO [sv "pen" 1222, sv "many" 1223, sv "digit" 1224, sv "spot" 1225, sv "cell" 1226, sv "great" 1227, sv "churned" 1228]
def o741_16 : Obj := tO []
def o742_16 : Obj := gO (sAt 92) "_law_draw"
def o743_16 : Obj := cO "_law_draw" "_law_draw" 1219 [534, 2, 0, 0, 3] 738 true 739 (.ref 740) (.ref 741) (.ref 742) 1229 534 1230
def o744_16 : Obj := hO (sAt 92) "_law_draw" .none (sv "law_pc0149_02" 1211) 743
def T16 (P : Params) : BT := setAll (insAll (T15 P) 693 [o693_16, o694_16, (o695_16 P), o696_16, o697_16, o698_16, o699_16, o700_16, o701_16, o702_16, o703_16, o704_16, o705_16, o706_16, o707_16, o708_16, o709_16, o710_16, o711_16, o712_16, o713_16, o714_16, o715_16, o716_16, o717_16, o718_16, o719_16, o720_16, o721_16, o722_16, o723_16, o724_16, o725_16, o726_16, (o727_16 P), o728_16, o729_16, o730_16, o731_16, o732_16, o733_16, o734_16, o735_16, o736_16, o737_16, o738_16, o739_16, o740_16, o741_16, o742_16, o743_16, o744_16]) [(3, (o3_16 P)), (12, o12_16)]
def S16 (w : World) (os : OsState) : SharedT := ⟨T16 w.params, 745, {}, ⟨[]⟩, {}, 1232, os⟩
def sts16 : List Stmt := ((behindTheImports P0).drop 89).take 4
def pos16 : Pos := ⟨534, 0, 550, 36⟩
theorem p16 (w : World) (os : OsState) : segRun treeTable P0 w 11 (some (.ref 6)) 1 393 (S15 w os).abs (piecesOf sts16 envT cdT pos15 B0) = some (.next, (S16 w os).abs, cdT, pos16) := by
  refine piece_y ?_; kernel_rfl
def eo3_17 (P : Params) : List DictEntry := eo3_16 P ++ [de P "_law_ref" 1238 (.ref 751), de P "_law_number" 1245 (.ref 758), de P "_law_put" 1259 (.ref 765), de P "_law_is_over" 1267 (.ref 772), de P "_law_worth" 1276 (.ref 779), de P "_law_set" 1286 (.ref 786), de P "_law_ahead" 1296 (.ref 793), de P "_law_behind" 1307 (.ref 800), de P "_law_noted" 1315 (.ref 807), de P "_law_loop" 1321 (.ref 812), de P "law" 1327 (.ref 817)]
def o3_17 (P : Params) : Obj := dO (de P "__name__" 165 (sv "law_pc0149_02" 1211) :: eo3_17 P) 104
def fo12_17 : List Value := fo12_16 ++ [.int 551 0, .int 0 0, .ref 750, .int 553 0, .int 0 0, .ref 757, .int 555 0, .int 0 0, .ref 764, .int 563 0, .int 0 0, .ref 771, .int 565 0, .int 0 0, .ref 778, .int 570 0, .int 0 0, .ref 785, .int 574 0, .int 0 0, .ref 792, .int 583 0, .int 0 0, .ref 799, .int 595 0, .int 0 0, .ref 806, .int 598 0, .int 0 0, .ref 811, .int 626 0, .int 0 0, .ref 816]
def o12_17 : Obj := fO fo12_17
def o745_17 : Obj := tO []
def o746_17 : Obj := fO []
def o747_17 : Obj := tO [sv "name" 1235]
def o748_17 : Obj := tO []
def o749_17 : Obj := gO (sAt 93) "_law_ref"
def o750_17 : Obj := cO "_law_ref" "_law_ref" 1232 [551, 1, 0, 0, 3] 745 true 746 (.ref 747) (.ref 748) (.ref 749) 1236 551 1237
def o751_17 : Obj := hO (sAt 93) "_law_ref" .none (sv "law_pc0149_02" 1211) 750
def o752_17 : Obj := tO []
def o753_17 : Obj := fO []
def o754_17 : Obj := tO [sv "number" 1242]
def o755_17 : Obj := tO []
def o756_17 : Obj := gO (sAt 94) "_law_number"
def o757_17 : Obj := cO "_law_number" "_law_number" 1239 [553, 1, 0, 0, 3] 752 true 753 (.ref 754) (.ref 755) (.ref 756) 1243 553 1244
def o758_17 : Obj := hO (sAt 94) "_law_number" .none (sv "law_pc0149_02" 1211) 757
def o759_17 : Obj := tO []
def o760_17 : Obj := fO []
def o761_17 : Obj := tO [sv "amounts" 1249, sv "rows" 1250, sv "worth" 1251, sv "log" 1252, sv "ref" 1253, sv "is_rounded" 1254, sv "way" 1255, sv "number" 1256]
def o762_17 : Obj := tO []
def o763_17 : Obj := gO (sAt 95) "_law_put"
def o764_17 : Obj := cO "_law_put" "_law_put" 1246 [555, 4, 0, 0, 3] 759 true 760 (.ref 761) (.ref 762) (.ref 763) 1257 555 1258
def o765_17 : Obj := hO (sAt 95) "_law_put" .none (sv "law_pc0149_02" 1211) 764
def o766_17 : Obj := tO []
def o767_17 : Obj := fO []
def o768_17 : Obj := tO [sv "amounts" 1263, sv "cond" 1264]
def o769_17 : Obj := tO []
def o770_17 : Obj := gO (sAt 96) "_law_is_over"
def o771_17 : Obj := cO "_law_is_over" "_law_is_over" 1260 [563, 2, 0, 0, 3] 766 true 767 (.ref 768) (.ref 769) (.ref 770) 1265 563 1266
def o772_17 : Obj := hO (sAt 96) "_law_is_over" .none (sv "law_pc0149_02" 1211) 771
def o773_17 : Obj := tO []
def o774_17 : Obj := fO []
def o775_17 : Obj := tO [sv "amounts" 1271, sv "operand" 1272, sv "log" 1273]
def o776_17 : Obj := tO []
def o777_17 : Obj := gO (sAt 97) "_law_worth"
def o778_17 : Obj := cO "_law_worth" "_law_worth" 1268 [565, 3, 0, 0, 3] 773 true 774 (.ref 775) (.ref 776) (.ref 777) 1274 565 1275
def o779_17 : Obj := hO (sAt 97) "_law_worth" .none (sv "law_pc0149_02" 1211) 778
def o780_17 : Obj := tO []
def o781_17 : Obj := fO []
def o782_17 : Obj := tO [sv "amounts" 1280, sv "row" 1281, sv "way" 1282, sv "number" 1283]
def o783_17 : Obj := tO []
def o784_17 : Obj := gO (sAt 98) "_law_set"
def o785_17 : Obj := cO "_law_set" "_law_set" 1277 [570, 3, 0, 0, 3] 780 true 781 (.ref 782) (.ref 783) (.ref 784) 1284 570 1285
def o786_17 : Obj := hO (sAt 98) "_law_set" .none (sv "law_pc0149_02" 1211) 785
def o787_17 : Obj := tO []
def o788_17 : Obj := fO []
def o789_17 : Obj := tO [sv "amounts" 1290, sv "rows" 1291, sv "level" 1292, sv "seen_rounds" 1293]
def o790_17 : Obj := tO []
def o791_17 : Obj := gO (sAt 99) "_law_ahead"
def o792_17 : Obj := cO "_law_ahead" "_law_ahead" 1287 [574, 4, 0, 0, 3] 787 true 788 (.ref 789) (.ref 790) (.ref 791) 1294 574 1295
def o793_17 : Obj := hO (sAt 99) "_law_ahead" .none (sv "law_pc0149_02" 1211) 792
def o794_17 : Obj := tO []
def o795_17 : Obj := fO []
def o796_17 : Obj := tO [sv "amounts" 1300, sv "rows" 1301, sv "level" 1302, sv "seen_rounds" 1303, sv "row" 1304]
def o797_17 : Obj := tO []
def o798_17 : Obj := gO (sAt 100) "_law_behind"
def o799_17 : Obj := cO "_law_behind" "_law_behind" 1297 [583, 4, 0, 0, 3] 794 true 795 (.ref 796) (.ref 797) (.ref 798) 1305 583 1306
def o800_17 : Obj := hO (sAt 100) "_law_behind" .none (sv "law_pc0149_02" 1211) 799
def o801_17 : Obj := tO []
def o802_17 : Obj := fO []
def o803_17 : Obj := tO [sv "amounts" 1311, sv "seen_rounds" 1312]
def o804_17 : Obj := tO []
def o805_17 : Obj := gO (sAt 101) "_law_noted"
def o806_17 : Obj := cO "_law_noted" "_law_noted" 1308 [595, 2, 0, 0, 3] 801 true 802 (.ref 803) (.ref 804) (.ref 805) 1313 595 1314
def o807_17 : Obj := hO (sAt 101) "_law_noted" .none (sv "law_pc0149_02" 1211) 806
def o808_17 : Obj := tO []
def o809_17 : Obj := fO []
def o810_17 : Obj := gO (sAt 102) "_law_loop"
def o811_17 : Obj := cO "_law_loop" "_law_loop" 1316 [598, 4, 0, 0, 3] 808 true 809 .none .none (.ref 810) 1319 598 1320
def o812_17 : Obj := hO (sAt 102) "_law_loop" .none (sv "law_pc0149_02" 1211) 811
def o813_17 : Obj := tO []
def o814_17 : Obj := fO []
def o815_17 : Obj := gO (sAt 103) "law"
def o816_17 : Obj := cO "law" "law" 1322 [626, 1, 0, 0, 3] 813 true 814 .none .none (.ref 815) 1325 626 1326
def o817_17 : Obj := hO (sAt 103) "law" .none (sv "law_pc0149_02" 1211) 816
def T17 (P : Params) : BT := setAll (insAll (T16 P) 745 [o745_17, o746_17, o747_17, o748_17, o749_17, o750_17, o751_17, o752_17, o753_17, o754_17, o755_17, o756_17, o757_17, o758_17, o759_17, o760_17, o761_17, o762_17, o763_17, o764_17, o765_17, o766_17, o767_17, o768_17, o769_17, o770_17, o771_17, o772_17, o773_17, o774_17, o775_17, o776_17, o777_17, o778_17, o779_17, o780_17, o781_17, o782_17, o783_17, o784_17, o785_17, o786_17, o787_17, o788_17, o789_17, o790_17, o791_17, o792_17, o793_17, o794_17, o795_17, o796_17, o797_17, o798_17, o799_17, o800_17, o801_17, o802_17, o803_17, o804_17, o805_17, o806_17, o807_17, o808_17, o809_17, o810_17, o811_17, o812_17, o813_17, o814_17, o815_17, o816_17, o817_17]) [(3, (o3_17 P)), (12, o12_17)]
def S17 (w : World) (os : OsState) : SharedT := ⟨T17 w.params, 818, {}, ⟨[]⟩, {}, 1328, os⟩
def sts17 : List Stmt := ((behindTheImports P0).drop 93).take 11
def pos17 : Pos := ⟨626, 0, 655, 15⟩
theorem p17 (w : World) (os : OsState) : segRun treeTable P0 w 11 (some (.ref 6)) 1 335 (S16 w os).abs (piecesOf sts17 envT cdT pos16 B0) = some (.next, (S17 w os).abs, cdT, pos17) := by
  refine piece_y ?_; kernel_rfl
def hpF (P : Params) : Heap := ⟨⟨[boot_o_0 P, boot_o_1 P, (o2_6 P), (o3_17 P), boot_o_4 P, boot_o_5 P, boot_o_6 P, boot_o_7 P, boot_o_8 P, boot_o_9 P, boot_o_10 P, o11, o12_17, o13, o14, o15_0, o16_0, (o17_0 P), o18_0, o19_0, o20_0, o21_0, o22_0, o23_0, o24_0, o25_0, o26_0, o27_0, o28_0, o29_0, (o30_0 P), o31_0, o32_0, o33_0, o34_0, o35_0, o36_0, o37_0, o38_0, o39_0, o40_0, o41_0, o42_0, o43_0, o44_0, o45_0, o46_0, o47_0, o48_0, o49_0, o50_0, o51_0, o52_0, o53_0, o54_0, o55_0, o56_0, o57_0, o58_0, o59_0, o60_0, o61_0, o62_0, o63_0, o64_0, o65_0, o66_0, o67_0, o68_0, o69_0, o70_0, o71_1, o72_1, o73_1, o74_1, o75_1, o76_1, o77_1, o78_1, o79_1, o80_1, o81_1, o82_1, o83_1, o84_1, o85_1, o86_1, o87_1, o88_1, o89_1, o90_1, o91_1, o92_1, o93_1, o94_1, o95_1, o96_1, o97_1, o98_1, o99_1, o100_1, o101_1, o102_1, o103_1, o104_1, o105_1, o106_1, o107_1, o108_1, o109_1, o110_1, o111_1, o112_1, o113_1, o114_1, o115_2, o116_2, (o117_2 P), o118_2, o119_2, o120_2, o121_2, o122_2, o123_2, o124_2, o125_2, o126_2, o127_2, o128_2, o129_2, o130_2, o131_2, o132_2, o133_2, o134_2, o135_2, o136_2, (o137_2 P), o138_2, o139_2, o140_2, o141_2, o142_2, o143_2, o144_2, o145_2, o146_2, o147_2, o148_2, o149_2, o150_2, o151_2, o152_2, o153_2, o154_2, o155_3, o156_3, (o157_3 P), o158_3, o159_3, o160_3, o161_3, o162_3, o163_3, o164_3, o165_3, o166_3, o167_3, o168_3, o169_3, o170_3, o171_3, o172_3, o173_3, o174_3, o175_3, o176_3, o177_3, o178_3, o179_3, o180_3, o181_3, o182_3, o183_3, o184_3, o185_3, o186_3, o187_3, o188_3, o189_3, o190_3, o191_3, o192_3, o193_3, o194_3, o195_3, o196_3, o197_3, o198_3, o199_3, o200_3, o201_3, o202_3, o203_3, o204_3, o205_3, o206_3, o207_3, (o208_3 P), o209_3, o210_3, o211_3, o212_3, o213_3, o214_4, o215_4, o216_4, o217_4, o218_4, o219_4, o220_4, o221_4, o222_4, o223_4, o224_4, o225_4, o226_4, o227_4, o228_4, o229_4, o230_4, o231_4, o232_4, o233_4, o234_4, o235_4, o236_4, o237_4, o238_4, o239_4, o240_4, o241_4, o242_4, o243_4, o244_4, o245_4, o246_4, o247_4, o248_4, o249_4, o250_4, o251_4, o252_4, o253_4, o254_4, o255_4, o256_4, o257_4, o258_4, o259_4, o260_4, o261_4, o262_4, o263_4, o264_4, o265_4, o266_4, o267_4, o268_4, o269_4, o270_4, o271_4, o272_4, o273_4, o274_4, o275_4, o276_4, o277_4, o278_4, o279_4, o280_4, o281_4, o282_4, o283_4, o284_4, o285_4, o286_4, o287_4, o288_4, o289_4, o290_4, o291_4, o292_4, o293_4, o294_5, o295_5, o296_5, o297_5, o298_5, o299_5, o300_5, o301_5, o302_5, o303_5, o304_5, o305_5, o306_5, o307_5, o308_5, o309_5, o310_5, o311_5, o312_5, o313_5, o314_5, o315_5, o316_5, o317_5, o318_5, o319_5, o320_5, o321_5, o322_5, o323_5, o324_5, o325_5, o326_5, o327_6, o328_6, (o329_6 P), o330_6, o331_6, o332_6, o333_6, o334_6, o335_6, o336_6, o337_6, o338_6, o339_6, o340_6, o341_6, o342_6, o343_6, o344_6, o345_6, o346_6, o347_6, o348_6, o349_6, o350_6, (o351_6 P), o352_10, o353_6, o354_6, o355_6, o356_7, o357_7, (o358_7 P), o359_7, o360_7, o361_7, o362_7, o363_7, (o364_7 P), o365_7, o366_7, o367_7, o368_8, o369_8, (o370_8 P), o371_8, o372_8, o373_8, o374_8, o375_8, (o376_8 P), o377_8, o378_8, o379_8, o380_9, o381_9, (o382_9 P), o383_9, o384_9, o385_9, o386_9, o387_9, (o388_9 P), o389_9, o390_9, o391_9, o392_10, o393_10, (o394_10 P), o395_10, o396_10, o397_10, o398_10, o399_10, (o400_10 P), o401_10, o402_10, o403_10, o404_10, o405_10, o406_10, o407_10, o408_10, o409_10, o410_10, o411_10, o412_10, o413_10, o414_10, o415_10, o416_10, o417_10, o418_10, o419_10, o420_10, o421_10, o422_10, o423_10, o424_10, o425_10, o426_10, o427_10, o428_10, o429_10, o430_10, o431_10, o432_10, o433_11, o434_11, o435_11, o436_11, o437_11, o438_11, o439_11, o440_11, o441_11, o442_11, o443_11, o444_11, o445_11, o446_11, o447_11, o448_11, o449_11, o450_11, o451_11, o452_11, o453_11, o454_11, o455_11, o456_11, o457_11, o458_11, o459_11, o460_11, o461_11, o462_11, o463_11, o464_11, o465_11, o466_11, o467_11, o468_11, o469_11, o470_11, o471_11, o472_11, o473_11, o474_11, o475_11, o476_11, o477_11, o478_11, o479_11, o480_11, o481_11, o482_11, o483_11, o484_11, o485_11, o486_11, o487_11, o488_11, o489_11, o490_11, o491_11, o492_11, o493_11, o494_11, o495_11, o496_11, o497_11, o498_11, o499_11, o500_11, o501_11, o502_11, o503_11, o504_12, o505_12, (o506_12 P), o507_12, o508_12, o509_12, o510_12, o511_12, o512_12, o513_12, o514_12, o515_12, o516_12, o517_12, o518_12, (o519_12 P), o520_12, o521_12, o522_12, o523_12, o524_12, o525_13, o526_13, (o527_13 P), o528_13, o529_13, o530_13, o531_13, o532_13, o533_13, o534_13, o535_13, o536_13, o537_13, o538_13, o539_13, o540_13, o541_13, o542_13, o543_13, o544_13, o545_13, o546_13, (o547_13 P), o548_13, o549_13, o550_13, o551_13, o552_13, o553_13, o554_13, o555_13, o556_13, o557_13, o558_13, o559_13, o560_13, o561_13, o562_13, o563_13, o564_13, o565_13, o566_13, o567_13, o568_13, o569_13, o570_13, o571_13, o572_13, o573_13, o574_13, o575_13, o576_13, o577_13, o578_13, o579_13, o580_13, o581_14, o582_14, o583_14, o584_14, o585_14, o586_14, o587_14, o588_14, o589_14, o590_14, o591_14, o592_14, o593_14, o594_14, o595_14, o596_14, o597_14, o598_14, o599_14, o600_14, o601_14, o602_14, o603_14, o604_14, o605_14, o606_14, o607_14, o608_14, o609_14, o610_14, o611_14, o612_14, o613_14, o614_14, o615_14, o616_14, o617_14, o618_14, o619_14, o620_14, o621_14, o622_14, o623_14, o624_14, o625_14, o626_14, o627_14, o628_14, o629_14, o630_14, o631_14, o632_14, o633_14, o634_14, o635_14, o636_14, o637_14, o638_14, o639_14, o640_14, o641_14, o642_14, o643_14, o644_14, o645_14, o646_14, o647_14, o648_14, o649_14, o650_14, o651_14, o652_14, o653_14, o654_14, o655_14, o656_14, o657_14, o658_14, o659_14, o660_14, o661_14, o662_14, o663_14, o664_14, o665_15, o666_15, (o667_15 P), o668_15, o669_15, o670_15, o671_15, o672_15, o673_15, o674_15, o675_15, o676_15, o677_15, o678_15, o679_15, o680_15, o681_15, o682_15, o683_15, o684_15, o685_15, o686_15, (o687_15 P), o688_15, o689_15, o690_15, o691_15, o692_15, o693_16, o694_16, (o695_16 P), o696_16, o697_16, o698_16, o699_16, o700_16, o701_16, o702_16, o703_16, o704_16, o705_16, o706_16, o707_16, o708_16, o709_16, o710_16, o711_16, o712_16, o713_16, o714_16, o715_16, o716_16, o717_16, o718_16, o719_16, o720_16, o721_16, o722_16, o723_16, o724_16, o725_16, o726_16, (o727_16 P), o728_16, o729_16, o730_16, o731_16, o732_16, o733_16, o734_16, o735_16, o736_16, o737_16, o738_16, o739_16, o740_16, o741_16, o742_16, o743_16, o744_16, o745_17, o746_17, o747_17, o748_17, o749_17, o750_17, o751_17, o752_17, o753_17, o754_17, o755_17, o756_17, o757_17, o758_17, o759_17, o760_17, o761_17, o762_17, o763_17, o764_17, o765_17, o766_17, o767_17, o768_17, o769_17, o770_17, o771_17, o772_17, o773_17, o774_17, o775_17, o776_17, o777_17, o778_17, o779_17, o780_17, o781_17, o782_17, o783_17, o784_17, o785_17, o786_17, o787_17, o788_17, o789_17, o790_17, o791_17, o792_17, o793_17, o794_17, o795_17, o796_17, o797_17, o798_17, o799_17, o800_17, o801_17, o802_17, o803_17, o804_17, o805_17, o806_17, o807_17, o808_17, o809_17, o810_17, o811_17, o812_17, o813_17, o814_17, o815_17, o816_17, o817_17]⟩, {}⟩
theorem fin_ (w : World) (os : OsState) : topRun treeTable P0 w 11 (some (.ref 6)) 2 (S17 w os).abs ⟨doneF .next, cdT, pos17, B0⟩ = some ⟨hpF w.params, ⟨[]⟩, {}, 1328, os⟩ := by kernel_rfl
theorem cut_ : behindTheImports P0 = sts0 ++ (sts1 ++ (sts2 ++ (sts3 ++ (sts4 ++ (sts5 ++ (sts6 ++ (sts7 ++ (sts8 ++ (sts9 ++ (sts10 ++ (sts11 ++ (sts12 ++ (sts13 ++ (sts14 ++ (sts15 ++ (sts16 ++ (sts17 ++ ([])))))))))))))))))) := by kernel_rfl
theorem run_ : ∀ (w : World) (os : OsState), topRun treeTable P0 w 11 (some (.ref 6)) (12 + (1 + (388 + (297 + (311 + (409 + (373 + (173 + (267 + (214 + (214 + (214 + (373 + (345 + (226 + (384 + (375 + (258 + (393 + (335 + 2)))))))))))))))))))) ⟨boot_heap w.params, ⟨[]⟩, boot_drawn, boot_toks, os⟩ (topStub P0) = some ⟨hpF w.params, ⟨[]⟩, {}, 1328, os⟩ := by
  intro w os
  refine go_top (pre_ w os) (piece_block (block_ w os) ?_)
  rw [cut_]
  exact piece_app (p0 w os) (piece_app (p1 w os) (piece_app (p2 w os) (piece_app (p3 w os) (piece_app (p4 w os) (piece_app (p5 w os) (piece_app (p6 w os) (piece_app (p7 w os) (piece_app (p8 w os) (piece_app (p9 w os) (piece_app (p10 w os) (piece_app (p11 w os) (piece_app (p12 w os) (piece_app (p13 w os) (piece_app (p14 w os) (piece_app (p15 w os) (piece_app (p16 w os) (piece_app (p17 w os) (piece_nil (fin_ w os)))))))))))))))))))
def q0 : Program := { P0 with main := { P0.main with body := [sAt 103] } }
def loose0 : List Str := [S "Deeds", S "always", S "negated_if", S "truth_of", S "alike_truths", S "object_cond", S "row_cond", S "rows_cond", S "as_ifs", S "goal_parts", S "sort_parts", S "BRANCHED", S "branches_of", S "JOINERS", S "OPERANDS", S "QUIET", S "LET", S "Code", S "labels_of", S "relabelled", S "Draft", S "put_expression", S "put_condition", S "put_statements", S "put_statement", S "put_if", S "put_arith", S "put_deed", S "put_sort", S "put_range", S "put_goal", S "put_perform", S "put_times", S "put_until", S "put_step", S "put_varying", S "put_varying_after", S "compiled", S "LedgerError", S "CheckFault", S "RunFault", S "SizeFault", S "StepFault", S "MOST_PLACES", S "MOST_POWER", S "MOST_FIGURES", S "cut_quotient", S "decimal", S "kept", S "units_beside", S "plus", S "minus", S "times", S "negated", S "quotient", S "power", S "units_at", S "is_whole", S "whole_of", S "fits", S "MOST_FRAMES", S "NO_LABEL", S "Frame", S "Machine", S "calculated", S "worth_by", S "do_reckon", S "do_put", S "do_deed", S "do_key", S "do_test", S "do_jump", S "do_choose", S "begin_frame", S "leave_frame", S "do_count", S "do_less", S "do_stop", S "op_table", S "run_code", S "Paragraph", S "Procedures", S "_law_pen", S "_law_draw", S "_law_ref", S "_law_number", S "_law_put", S "_law_is_over", S "_law_worth", S "_law_set", S "_law_ahead", S "_law_behind", S "_law_noted", S "_law_loop"]
def K0 (P : Params) : Frag := [(3, o3_17 P), (13, o13), (20, o20_0), (27, o27_0), (28, o28_0), (30, o30_0 P), (31, o31_0), (32, o32_0), (33, o33_0), (41, o41_0), (42, o42_0), (48, o48_0), (49, o49_0), (55, o55_0), (56, o56_0), (62, o62_0), (63, o63_0), (69, o69_0), (70, o70_0), (76, o76_1), (77, o77_1), (83, o83_1), (84, o84_1), (90, o90_1), (91, o91_1), (97, o97_1), (98, o98_1), (104, o104_1), (105, o105_1), (106, o106_1), (110, o110_1), (111, o111_1), (112, o112_1), (113, o113_1), (114, o114_1), (120, o120_2), (127, o127_2), (128, o128_2), (134, o134_2), (135, o135_2), (137, o137_2 P), (138, o138_2), (139, o139_2), (140, o140_2), (148, o148_2), (149, o149_2), (153, o153_2), (154, o154_2), (160, o160_3), (165, o165_3), (166, o166_3), (172, o172_3), (173, o173_3), (179, o179_3), (180, o180_3), (186, o186_3), (187, o187_3), (193, o193_3), (194, o194_3), (200, o200_3), (201, o201_3), (205, o205_3), (206, o206_3), (208, o208_3 P), (209, o209_3), (210, o210_3), (211, o211_3), (219, o219_4), (220, o220_4), (226, o226_4), (227, o227_4), (233, o233_4), (234, o234_4), (238, o238_4), (239, o239_4), (245, o245_4), (246, o246_4), (252, o252_4), (253, o253_4), (257, o257_4), (258, o258_4), (264, o264_4), (265, o265_4), (271, o271_4), (272, o272_4), (278, o278_4), (279, o279_4), (285, o285_4), (286, o286_4), (292, o292_4), (293, o293_4), (299, o299_5), (300, o300_5), (306, o306_5), (307, o307_5), (311, o311_5), (312, o312_5), (318, o318_5), (319, o319_5), (325, o325_5), (326, o326_5), (332, o332_6), (335, o335_6), (341, o341_6), (342, o342_6), (348, o348_6), (349, o349_6), (351, o351_6 P), (352, o352_10), (353, o353_6), (361, o361_7), (364, o364_7 P), (365, o365_7), (373, o373_8), (376, o376_8 P), (377, o377_8), (385, o385_9), (388, o388_9 P), (389, o389_9), (397, o397_10), (400, o400_10 P), (401, o401_10), (409, o409_10), (410, o410_10), (411, o411_10), (417, o417_10), (418, o418_10), (424, o424_10), (425, o425_10), (431, o431_10), (432, o432_10), (438, o438_11), (439, o439_11), (445, o445_11), (446, o446_11), (452, o452_11), (453, o453_11), (459, o459_11), (460, o460_11), (461, o461_11), (467, o467_11), (468, o468_11), (474, o474_11), (475, o475_11), (481, o481_11), (482, o482_11), (488, o488_11), (489, o489_11), (495, o495_11), (496, o496_11), (502, o502_11), (503, o503_11), (509, o509_12), (516, o516_12), (517, o517_12), (519, o519_12 P), (520, o520_12), (521, o521_12), (522, o522_12), (530, o530_13), (537, o537_13), (538, o538_13), (544, o544_13), (545, o545_13), (547, o547_13 P), (548, o548_13), (549, o549_13), (550, o550_13), (558, o558_13), (559, o559_13), (565, o565_13), (566, o566_13), (572, o572_13), (573, o573_13), (579, o579_13), (580, o580_13), (586, o586_14), (587, o587_14), (593, o593_14), (594, o594_14), (600, o600_14), (601, o601_14), (607, o607_14), (608, o608_14), (614, o614_14), (615, o615_14), (621, o621_14), (622, o622_14), (628, o628_14), (629, o629_14), (635, o635_14), (636, o636_14), (642, o642_14), (643, o643_14), (649, o649_14), (650, o650_14), (656, o656_14), (657, o657_14), (663, o663_14), (664, o664_14), (670, o670_15), (677, o677_15), (678, o678_15), (684, o684_15), (685, o685_15), (687, o687_15 P), (688, o688_15), (689, o689_15), (690, o690_15), (698, o698_16), (705, o705_16), (706, o706_16), (710, o710_16), (711, o711_16), (717, o717_16), (718, o718_16), (724, o724_16), (725, o725_16), (727, o727_16 P), (728, o728_16), (729, o729_16), (730, o730_16), (736, o736_16), (737, o737_16), (743, o743_16), (744, o744_16), (750, o750_17), (751, o751_17), (757, o757_17), (758, o758_17), (764, o764_17), (765, o765_17), (771, o771_17), (772, o772_17), (778, o778_17), (779, o779_17), (785, o785_17), (786, o786_17), (792, o792_17), (793, o793_17), (799, o799_17), (800, o800_17), (806, o806_17), (807, o807_17), (811, o811_17), (812, o812_17), (816, o816_17), (817, o817_17)]
def KT (P : Params) : Frag := K0 P ++ [(203, o203_3), (814, o814_17)]
noncomputable def as0 : List Addr := [3, 13, 20, 27, 28, 30, 31, 32, 33, 41, 42, 48, 49, 55, 56, 62, 63, 69, 70, 76, 77, 83, 84, 90, 91, 97, 98, 104, 105, 106, 110, 111, 112, 113, 114, 120, 127, 128, 134, 135, 137, 138, 139, 140, 148, 149, 153, 154, 160, 165, 166, 172, 173, 179, 180, 186, 187, 193, 194, 200, 201, 205, 206, 208, 209, 210, 211, 219, 220, 226, 227, 233, 234, 238, 239, 245, 246, 252, 253, 257, 258, 264, 265, 271, 272, 278, 279, 285, 286, 292, 293, 299, 300, 306, 307, 311, 312, 318, 319, 325, 326, 332, 335, 341, 342, 348, 349, 351, 352, 353, 361, 364, 365, 373, 376, 377, 385, 388, 389, 397, 400, 401, 409, 410, 411, 417, 418, 424, 425, 431, 432, 438, 439, 445, 446, 452, 453, 459, 460, 461, 467, 468, 474, 475, 481, 482, 488, 489, 495, 496, 502, 503, 509, 516, 517, 519, 520, 521, 522, 530, 537, 538, 544, 545, 547, 548, 549, 550, 558, 559, 565, 566, 572, 573, 579, 580, 586, 587, 593, 594, 600, 601, 607, 608, 614, 615, 621, 622, 628, 629, 635, 636, 642, 643, 649, 650, 656, 657, 663, 664, 670, 677, 678, 684, 685, 687, 688, 689, 690, 698, 705, 706, 710, 711, 717, 718, 724, 725, 727, 728, 729, 730, 736, 737, 743, 744, 750, 751, 757, 758, 764, 765, 771, 772, 778, 779, 785, 786, 792, 793, 799, 800, 806, 807, 811, 812, 816, 817, 203, 814]
theorem as_ : ∀ P, as0 = (KT P).map (·.1) := by intro P; kernel_rfl
theorem size_ : ∀ w : World, ((boot_heap w.params).isNs mainGlobals && (⟨[]⟩ : Array GenState).size == 0, (boot_heap w.params).objs.size, (boot_heap w.params).nsMap mainGlobals "__annotations__") = (true, 11, some (.ref 6)) := by
  intro w; kernel_rfl
theorem looksA (w : World) (os : OsState) : (staticsOk (importedModules P0.main.body) (boot_heap w.params) (hpF w.params) && namesBound P0 (hpF w.params) && gensDone ⟨hpF w.params, ⟨[]⟩, {}, 1328, os⟩ && laidKept (boot_heap w.params) (hpF w.params)) = true := by kernel_rfl
theorem looksB (w : World) (os : OsState) : openSeen q0 loose0 (importedModules P0.main.body) (fun _ => true) true ⟨hpF w.params, ⟨[]⟩, {}, 1328, os⟩ = openGood q0 loose0 := by
  rw [show @openSeen = PySem.W.Fast.tw4187177175401517315 from PySem.W.Fast.te4187177175401517315]; kernel_rfl
theorem looksC (w : World) : as0.map (hpF w.params).get? = (KT w.params).map fun p => some p.2 := by kernel_rfl
theorem open_ : ∀ w : World, (fencedOpening treeTable P0 w 20000).map (fun s => (s.heap, s.gens, s.drawn, s.toks)) = some (boot_heap w.params, Array.mk [], boot_drawn, boot_toks) :=
  boot_open (by kernel_rfl) (by rfl) (by intro s; kernel_rfl)
theorem left_ : LeftO P0 q0 loose0 (fun _ => true) (fun s => as0.map s.heap.get?) (fun w => (KT w.params).map fun p => some p.2) 20000 := by
  refine LeftO.of_pieces (H₁ := hpF) (gs₁ := ⟨[]⟩) (d₁ := {}) (k₁ := 1328) open_ size_ run_ (by rfl) fun w => funext fun os => ?_
  exact Prod.ext (looksA w os) (Prod.ext (looksB w os) (looksC w))
theorem said_ : (PySem.Challenge.rw_pc0149_02).wellSaid = true := by
  rw [show OpenLaw.wellSaid = PySem.W.Fast.tw9446332074065402090 from PySem.W.Fast.te9446332074065402090]; kernel_rfl
def d0 : DefRec := match sAt 103 with
  | .FunctionDef n a b _ _ _ sc _ _ pos => ⟨n, a, b, sc, pos⟩
  | _ => ⟨S "", ⟨[], [], none, [], [], none, []⟩, [], { kind := .function, names := [], isGenerator := false, isCoroutine := false, more := [] }, pz⟩
theorem bare_ : P0.bare := ⟨rfl, rfl, rfl, rfl, rfl, by decide +kernel⟩
theorem head_ (call : WalkO q0 loose0 (fun _ _ => True) (InK KT) PySem.Challenge.rw_pc0149_02.row.toRowW d0 [] (fun f vs => PySem.call f vs)) : PySem.Challenge.rw_pc0149_02.Holds := by
  refine ⟨said_, ?_⟩
  refine holds_open (r := PySem.Challenge.rw_pc0149_02.row) (XP := fun _ _ => True) (d := d0) (kwd := []) (YP := InK KT) left_ (fun w s e => InK.of as_ w s e) (InK.keeps) (fun _ _ => trivial) (fun _ _ _ _ _ => trivial) ?_ ?_ ?_ ?_ rfl ?_ ?_ bare_ ?_ call
  · kernel_rfl
  · kernel_rfl
  · kernel_rfl
  · intro s _; exact recFacts_of (R := []) (by rfl)
  · exact row_said said_
  · kernel_rfl
  · exact ⟨[.list []], by decide +kernel, by decide +kernel⟩
def f28 : Fn := mkFn o28_0 none []
def f111 : Fn := mkFn o111_1 none []
def f128 : Fn := mkFn o128_2 none []
def f149 : Fn := mkFn o149_2 none []
def f154 : Fn := mkFn o154_2 none []
def f166 : Fn := mkFn o166_3 none []
def f173 : Fn := mkFn o173_3 none []
def f180 : Fn := mkFn o180_3 none []
def f187 : Fn := mkFn o187_3 none []
def f194 : Fn := mkFn o194_3 none []
def f206 : Fn := mkFn o206_3 (some 0) []
def f220 : Fn := mkFn o220_4 none []
def f227 : Fn := mkFn o227_4 none []
def f234 : Fn := mkFn o234_4 none []
def f239 : Fn := mkFn o239_4 none []
def f258 : Fn := mkFn o258_4 none []
def f272 : Fn := mkFn o272_4 none []
def f279 : Fn := mkFn o279_4 none []
def f286 : Fn := mkFn o286_4 none []
def f293 : Fn := mkFn o293_4 none []
def f300 : Fn := mkFn o300_5 none []
def f307 : Fn := mkFn o307_5 none []
def f312 : Fn := mkFn o312_5 none []
def f319 : Fn := mkFn o319_5 none []
def f326 : Fn := mkFn o326_5 none []
def f410 : Fn := mkFn o410_10 none []
def f418 : Fn := mkFn o418_10 none [.int (0)]
def f482 : Fn := mkFn o482_11 none []
def f496 : Fn := mkFn o496_11 none []
def f517 : Fn := mkFn o517_12 none []
def f538 : Fn := mkFn o538_13 none []
def f566 : Fn := mkFn o566_13 none []
def f573 : Fn := mkFn o573_13 none []
def f580 : Fn := mkFn o580_13 none []
def f587 : Fn := mkFn o587_14 none []
def f601 : Fn := mkFn o601_14 none []
def f608 : Fn := mkFn o608_14 none []
def f622 : Fn := mkFn o622_14 none []
def f629 : Fn := mkFn o629_14 none []
def f636 : Fn := mkFn o636_14 none []
def f643 : Fn := mkFn o643_14 none []
def f650 : Fn := mkFn o650_14 none []
def f657 : Fn := mkFn o657_14 none []
def f664 : Fn := mkFn o664_14 none []
def f678 : Fn := mkFn o678_15 none []
def f706 : Fn := mkFn o706_16 none []
def f725 : Fn := mkFn o725_16 none []
def f737 : Fn := mkFn o737_16 none []
def f744 : Fn := mkFn o744_16 none []
def f751 : Fn := mkFn o751_17 none []
def f758 : Fn := mkFn o758_17 none []
def f765 : Fn := mkFn o765_17 none []
def f772 : Fn := mkFn o772_17 none []
def f779 : Fn := mkFn o779_17 none []
def f786 : Fn := mkFn o786_17 none []
def f793 : Fn := mkFn o793_17 none []
def f800 : Fn := mkFn o800_17 none []
def f807 : Fn := mkFn o807_17 none []
def f812 : Fn := mkFn o812_17 none []
def f817 : Fn := mkFn o817_17 (some 1) []
def fnO : List (Addr × Obj × Option Nat) := [(28, o28_0, none), (111, o111_1, none), (128, o128_2, none), (149, o149_2, none), (154, o154_2, none), (166, o166_3, none), (173, o173_3, none), (180, o180_3, none), (187, o187_3, none), (194, o194_3, none), (206, o206_3, some 0), (220, o220_4, none), (227, o227_4, none), (234, o234_4, none), (239, o239_4, none), (258, o258_4, none), (272, o272_4, none), (279, o279_4, none), (286, o286_4, none), (293, o293_4, none), (300, o300_5, none), (307, o307_5, none), (312, o312_5, none), (319, o319_5, none), (326, o326_5, none), (410, o410_10, none), (482, o482_11, none), (496, o496_11, none), (517, o517_12, none), (538, o538_13, none), (566, o566_13, none), (573, o573_13, none), (580, o580_13, none), (587, o587_14, none), (601, o601_14, none), (608, o608_14, none), (622, o622_14, none), (629, o629_14, none), (636, o636_14, none), (643, o643_14, none), (650, o650_14, none), (657, o657_14, none), (664, o664_14, none), (678, o678_15, none), (706, o706_16, none), (725, o725_16, none), (737, o737_16, none), (744, o744_16, none), (751, o751_17, none), (758, o758_17, none), (765, o765_17, none), (772, o772_17, none), (779, o779_17, none), (786, o786_17, none), (793, o793_17, none), (800, o800_17, none), (807, o807_17, none), (812, o812_17, none), (817, o817_17, some 1)]
def fnT : List (Addr × Fn) := [(28, f28), (111, f111), (128, f128), (149, f149), (154, f154), (166, f166), (173, f173), (180, f180), (187, f187), (194, f194), (206, f206), (220, f220), (227, f227), (234, f234), (239, f239), (258, f258), (272, f272), (279, f279), (286, f286), (293, f293), (300, f300), (307, f307), (312, f312), (319, f319), (326, f326), (410, f410), (482, f482), (496, f496), (517, f517), (538, f538), (566, f566), (573, f573), (580, f580), (587, f587), (601, f601), (608, f608), (622, f622), (629, f629), (636, f636), (643, f643), (650, f650), (657, f657), (664, f664), (678, f678), (706, f706), (725, f725), (737, f737), (744, f744), (751, f751), (758, f758), (765, f765), (772, f772), (779, f779), (786, f786), (793, f793), (800, f800), (807, f807), (812, f812), (817, f817)]
def fnD : List (Addr × Fn) := [(418, f418)]
noncomputable def initL : List (Addr × Addr) := [(31, 28), (138, 128), (209, 166), (520, 517), (548, 538), (688, 678), (728, 706)]
def fldsL : List (Addr × List Str) := [(31, [S "do", S "test", S "number", S "put"]), (138, [S "ops", S "begins"]), (209, [S "procedures", S "ops", S "places", S "slots", S "heads"]), (520, [S "last", S "behind", S "slots"]), (548, [S "code", S "deeds", S "place", S "stack", S "frames", S "key", S "word"]), (688, [S "name", S "section", S "statements"]), (728, [S "rows", S "using"])]
def methL : List ((Addr × Str) × Addr) := [((209, S "fresh"), 173), ((209, S "here"), 180), ((209, S "put"), 187), ((209, S "slot"), 194), ((209, S "finished"), 206), ((728, S "range_of"), 725)]
def glL : List (Str × V) := [(S "len", .bi "len"), (S "abs", .bi "abs"), (S "max", .bi "max"), (S "min", .bi "min"), (S "int", .ty "int"), (S "str", .ty "str"), (S "range", .ty "range"), (S "tuple", .ty "tuple"), (S "dict", .ty "dict"), (S "law", .glob 817), (S "_law_loop", .glob 812), (S "_law_noted", .glob 807), (S "_law_behind", .glob 800), (S "_law_ahead", .glob 793), (S "_law_set", .glob 786), (S "_law_worth", .glob 779), (S "_law_is_over", .glob 772), (S "_law_put", .glob 765), (S "_law_number", .glob 758), (S "_law_ref", .glob 751), (S "_law_draw", .glob 744), (S "_law_pen", .glob 737), (S "Procedures", .glob 728), (S "Paragraph", .glob 688), (S "run_code", .glob 664), (S "op_table", .glob 657), (S "do_stop", .glob 650), (S "do_less", .glob 643), (S "do_count", .glob 636), (S "leave_frame", .glob 629), (S "begin_frame", .glob 622), (S "do_choose", .glob 615), (S "do_jump", .glob 608), (S "do_test", .glob 601), (S "do_key", .glob 594), (S "do_deed", .glob 587), (S "do_put", .glob 580), (S "do_reckon", .glob 573), (S "worth_by", .glob 566), (S "Machine", .glob 548), (S "Frame", .glob 520), (S "NO_LABEL", .int (-1)), (S "MOST_FRAMES", .int (20)), (S "whole_of", .glob 496), (S "units_at", .glob 482), (S "decimal", .glob 418), (S "cut_quotient", .glob 410), (S "MOST_FIGURES", .int (120)), (S "MOST_POWER", .int (99)), (S "MOST_PLACES", .int (30)), (S "compiled", .glob 326), (S "put_varying_after", .glob 319), (S "put_varying", .glob 312), (S "put_step", .glob 307), (S "put_until", .glob 300), (S "put_times", .glob 293), (S "put_perform", .glob 286), (S "put_goal", .glob 279), (S "put_range", .glob 272), (S "put_deed", .glob 258), (S "put_statement", .glob 239), (S "put_statements", .glob 234), (S "put_condition", .glob 227), (S "put_expression", .glob 220), (S "Draft", .glob 209), (S "relabelled", .glob 154), (S "labels_of", .glob 149), (S "Code", .glob 138), (S "LET", .int (-1)), (S "QUIET", .tup [.str (S "exit"), .str (S "continue")]), (S "OPERANDS", .tup [.str (S "ref"), .str (S "number"), .str (S "text"), .str (S "figure"), .str (S "all")]), (S "JOINERS", .tup [.str (S "not"), .str (S "and"), .str (S "or")]), (S "branches_of", .glob 111), (S "BRANCHED", .tup [.str (S "arith"), .str (S "divide"), .str (S "corr"), .str (S "search"), .str (S "search-all"), .str (S "string"), .str (S "unstring"), .str (S "read"), .str (S "write"), .str (S "rewrite"), .str (S "delete"), .str (S "start"), .str (S "return"), .str (S "call")]), (S "Deeds", .glob 31)]
noncomputable def keepL : List Addr := [28, 31, 111, 128, 138, 149, 154, 166, 173, 180, 187, 194, 206, 209, 220, 227, 234, 239, 258, 272, 279, 286, 293, 300, 307, 312, 319, 326, 410, 418, 482, 496, 517, 520, 538, 548, 566, 573, 580, 587, 601, 608, 622, 629, 636, 643, 650, 657, 664, 678, 688, 706, 725, 728, 737, 744, 751, 758, 765, 772, 779, 786, 793, 800, 807, 812, 817]
def tabL : List (Addr × Addr) := [(205, 203), (816, 814)]
def qualL : List Str := [S "Draft.finished" ++ ".<locals>." ++ "<lambda>", S "law" ++ ".<locals>." ++ "<lambda>"]
def lawA : Addr := 817
def fnsA (a : Addr) : Option Fn := match fnT.lookup a with
  | some f => some f
  | none => fnD.lookup a
def keepB (a : Addr) : Bool := keepL.contains a
def GG (lo : List Str) (K : Params → Frag) : Pg := { prog := P0, p := topProg, loose := lo, K := K, tabs := tabL, gl := fun x => glL.lookup x, keep := keepB, flds := fun a => (fldsL.lookup a).getD [], meth := fun C x => methL.lookup (C, x) }
def FF : Fs := ⟨fnsA, fun a => initL.lookup a⟩
def K1 (aL : Addr) (oL : Obj) (P : Params) : Frag := K0 P ++ [(aL, oL)]
theorem t_look (aL : Addr) (oL : Obj) (P : Params) : fnO.map (fun t => (K1 aL oL P).lookup t.1) = fnO.map (fun t => some t.2.1) := by kernel_rfl
theorem t_base (aL : Addr) (oL : Obj) (P : Params) : fnO.all (fun t => fnBase (K1 aL oL P) tabL t.2.1 t.2.2) = true := by kernel_rfl
theorem t_plain : fnO.all (fun t => fnPlain t.2.1) = true := by kernel_rfl
theorem t_fns : fnT = fnO.map fun t => (t.1, mkFn t.2.1 t.2.2 []) := by rfl
theorem t_gl (aL : Addr) (oL : Obj) (P : Params) : glL.all (glChk (K1 aL oL P)) = true := by kernel_rfl
theorem t_meth (aL : Addr) (oL : Obj) (P : Params) : methL.all (methChk (K1 aL oL P)) = true := by kernel_rfl
theorem t_cls (aL : Addr) (oL : Obj) (P : Params) : fldsL.all (fun p => clsChk (K1 aL oL P) p.1 p.2) = true := by kernel_rfl
theorem t_inits (aL : Addr) (oL : Obj) (P : Params) : initL.all (clsFnChk (K1 aL oL P)) = true := by kernel_rfl
theorem t_keep (aL : Addr) (oL : Obj) (P : Params) : keepL.all (fun a => keepIn (K1 aL oL P) (.ref a)) = true := by kernel_rfl
theorem t_tabs (aL : Addr) (oL : Obj) (P : Params) : tabL.all (fun q => codeHdIn (K1 aL oL P) q.1 q.2) = true := by kernel_rfl
theorem t_noTabs0 (P : Params) : noTabs (K0 P) = true := by kernel_rfl
theorem t_flat : glL.all (fun p => flatV p.2) = true := by kernel_rfl
theorem t_dec (aL : Addr) (oL : Obj) (P : Params) : (K1 aL oL P).lookup 418 = some o418_10 := by kernel_rfl
theorem t_dec2 (aL : Addr) (oL : Obj) (P : Params) : (K1 aL oL P).lookup 411 = some o411_10 := by kernel_rfl
def fdDec : FuncData := match o418_10.data with
  | .func fd => fd
  | _ => default
theorem fdDec_eq : o418_10.data = .func fdDec := rfl
theorem dec_names : (fdDec.params.args.map (·.arg)) = [S "units", S "scale"] := by kernel_rfl
theorem dec_ok (aL : Addr) (oL : Obj) (P : Params) : FnOk tabL (K1 aL oL P) 418 f418 := by
  refine fnOk_of (t_dec aL oL P) (by kernel_rfl) fun fd e _ => ⟨[.int 0 777], fun _ _ => .cons .int .nil, fun s X vs h1 h2 => ?_⟩
  rw [fdDec_eq] at e
  cases e
  rw [dec_names] at h1 h2 ⊢
  have hT := X _ _ (t_dec2 aL oL P)
  match vs, h1, h2 with
  | [], h1, _ => simp at h1
  | [a], _, _ => exact BindsTo.of_defaults (T := 411) rfl hT rfl rfl rfl
  | [a, b], _, _ => exact BindsTo.of_defaults (T := 411) rfl hT rfl rfl rfl
  | _ :: _ :: _ :: _, _, h2 => simp at h2
theorem fnO_ok (aL : Addr) (oL : Obj) (P : Params) : ∀ t ∈ fnO, FnOk tabL (K1 aL oL P) t.1 (mkFn t.2.1 t.2.2 []) := fun t ht =>
  fnOk_plain (List.map_inj_left.mp (t_look aL oL P) t ht) (List.all_eq_true.mp (t_base aL oL P) t ht) (List.all_eq_true.mp t_plain t ht)
theorem fnT_ok (aL : Addr) (oL : Obj) (P : Params) {a : Addr} {f : Fn} (h : fnT.lookup a = some f) : FnOk tabL (K1 aL oL P) a f := by
  have := lookup_mem h
  rw [t_fns] at this
  obtain ⟨t, ht, e⟩ := List.mem_map.mp this
  induction e using E4
  exact fnO_ok aL oL P t ht
theorem fnD_ok (aL : Addr) (oL : Obj) (P : Params) {a : Addr} {f : Fn} (h : fnD.lookup a = some f) : FnOk tabL (K1 aL oL P) a f := by
  have := lookup_mem h
  unfold fnD at this
  simp only [List.mem_cons, List.not_mem_nil, or_false, Prod.mk.injEq] at this
  obtain ⟨rfl, rfl⟩ := this
  exact dec_ok aL oL P
def lo0 : List Str := looseW q0 loose0 ++ (recsOf q0).map (·.name) ++ (litsOf q0).map (·.1) ++ (clssOf q0 (looseW q0 loose0)).map (·.name)
abbrev G0 (aL : Addr) (oL : Obj) : Pg := GG lo0 (K1 aL oL)
theorem F0_ok (aL : Addr) (oL : Obj) : FsOk (G0 aL oL) FF := by
  refine ⟨fun P a f h => ?_, fun P C f h => ?_⟩
  · have h : fnsA a = some f := h
    unfold fnsA at h
    split at h
    · rename_i g e; induction h using E1; exact fnT_ok aL oL P e
    · exact fnD_ok aL oL P h
  · have h : initL.lookup C = some f := h
    exact clsFn_ok (List.all_eq_true.mp (t_inits aL oL P) _ (lookup_mem h))
theorem G0_ok (aL : Addr) (oL : Obj) : (G0 aL oL).Ok := by
  refine ⟨fun P C x h => ?_, fun P x y h => gl_ok (t_gl aL oL P) h, fun P q h g X => ?_, fun P a h => ?_, fun P C x f h => meth_ok (t_meth aL oL P) h⟩
  · show clsChk (K1 aL oL P) C ((fldsL.lookup C).getD []) = true
    have h : x ∈ (fldsL.lookup C).getD [] := h
    cases e : fldsL.lookup C with
    | none => rw [e] at h; cases h
    | some l => exact List.all_eq_true.mp (t_cls aL oL P) _ (lookup_mem e)
  · exact codeHd_of_K X (List.all_eq_true.mp (t_tabs aL oL P) q h)
  · have h : keepL.contains a = true := h
    rw [List.contains_iff_mem] at h
    exact List.all_eq_true.mp (t_keep aL oL P) a h
theorem G0_plain {lo : List Str} {K : Params → Frag} : Plain (GG lo K) FF := by
  refine ⟨fun x y h => List.all_eq_true.mp t_flat _ (lookup_mem h), fun a fn h => ?_⟩
  have h : fnsA a = some fn := h
  unfold fnsA at h
  split at h
  · rename_i g e
    induction h using E1
    have := lookup_mem e
    rw [t_fns] at this
    obtain ⟨t, ht, e⟩ := List.mem_map.mp this
    induction e using E4
    unfold mkFn
    split <;> rfl
  · have := lookup_mem h
    unfold fnD at this
    simp only [List.mem_cons, List.not_mem_nil, or_false, Prod.mk.injEq] at this
    obtain ⟨rfl, rfl⟩ := this
    rfl
theorem ints_vals {K : Frag} {news : Led} {al : Al} {vs : List Value} {ns : List Int} (h : IntsAre vs ns) : VRs K news al vs (ns.map V.int) := by
  induction h with
  | nil => exact .nil
  | cons n t _ ih => exact .cons .int ih
theorem K1_in {P : Params} {h : Heap} {aL : Addr} {oL : Obj} (X : (KT P).In h) (hL : h.get? aL = some oL) : (K1 aL oL P).In h := by
  intro a o e
  unfold K1 at e
  rw [List.lookup_append] at e
  cases h1 : (K0 P).lookup a with
  | some o' =>
    rw [h1] at e
    cases e
    refine X a _ ?_
    unfold KT
    rw [List.lookup_append, h1]; rfl
  | none =>
    rw [h1] at e
    simp only [Option.none_or, List.lookup_cons, List.lookup_nil] at e
    split at e
    · rename_i h2; cases e; rw [beq_iff_eq.mp h2]; exact hL
    · cases e
theorem K1_at {P : Params} {h : Heap} {aL : Addr} {oL : Obj} (X : (KT P).In h) (hL : h.get? aL = some oL) : (K1 aL oL P).lookup aL = some oL := by
  unfold K1
  rw [List.lookup_append]
  cases h1 : (K0 P).lookup aL with
  | some o' =>
    have := X aL o' (by unfold KT; rw [List.lookup_append, h1]; rfl)
    rw [hL] at this
    cases this; rfl
  | none => simp
theorem grown_of {tabs : List (Addr × Addr)} {h : Heap} (H : ∀ q ∈ tabs, GrownAt q.2 h) : GrownAll tabs h := by
  induction tabs with
  | nil => trivial
  | cons q r ih => exact ⟨H q List.mem_cons_self, ih fun q hq => H q (List.mem_cons_of_mem _ hq)⟩
theorem K1_noTabs {P : Params} {aL : Addr} {oL : Obj} (h : oL.cls = .type "list") : noTabs (K1 aL oL P) = true := by
  have := t_noTabs0 P
  unfold noTabs K1 at *
  rw [List.all_append, this]
  simp only [List.all_cons, List.all_nil, h, Bool.and_true, Bool.true_and]
theorem KT_tab (P : Params) : tabL.map (fun q => (KT P).lookup q.2) = tabL.map (fun _ => some (tabObj #[])) := by kernel_rfl
theorem KT_hd (P : Params) : tabL.all (fun q => codeHdIn (KT P) q.1 q.2) = true := by kernel_rfl
theorem law_at (P : Params) : nsIn (KT P) mainGlobals d0.name = some (some (.ref lawA)) := by kernel_rfl
set_option tactic.hygienic true in
theorem join_ (H : ∀ (aL : Addr) (oL : Obj) (l : List Int), l.length ≤ 63 → ∃ st' : Sto, fnM f817 (bodyM (G0 aL oL) (callF (G0 aL oL) FF 39) f817 true) [.lstK (l.map .int)] (qualL.map O.tab) = some (.ok (.bool true), st') ∧ ∀ (i : Nat) (q : Addr × Addr), tabL[i]? = some q → ∃ qq, st'[i]? = some (O.tab qq)) :
    PySem.Challenge.rw_pc0149_02.Holds := head_ (by
  intro w s₀ s₁ mg mb G Y fa o pm cd doc dV kV ho hd hcd hD hmg hg args vals as hpre hlay hrd hwl hlo
  wrow_args hpre hlay hrd hwl hlo
  refine enter_call ?_
  rename_i l _ _ _ _ _ _ _ aL vs _ hL _ _ _ hI _ hlen _
  have hlen : l.length ≤ 63 := by lia
  obtain ⟨oL, hL1, hL2, n, hL3⟩ := hL
  have Y : (KT w.params).In s₁.heap := Y
  have X := K1_in Y hL1
  have hfa : fa = lawA := by
    have := mg_of Y G.T.g (law_at w.params)
    rw [hmg] at this
    cases this; rfl
  subst hfa
  have hT : TabsAt tabL s₁.heap := fun q hq => ⟨codeHd_of_K Y (List.all_eq_true.mp (KT_hd w.params) q hq), Y _ _ (List.map_inj_left.mp (KT_tab w.params) q hq)⟩
  obtain ⟨st', hrun, htab⟩ := H aL oL l hlen
  refine kn_post hT (fun _ _ => rfl) ?_
  refine topCall (G := G0 aL oL) (p := q0) (loose := looseW q0 loose0) (quals := qualL) (k := 39) (q := true) (fn := f817) rfl rfl (K1_noTabs hL2) (show (tabL.map (·.2)).Nodup by decide +kernel) rfl hT X G.T (G0_ok aL oL) ((F0_ok aL oL).fn _ _ _ (by kernel_rfl)) (by lia)
    (fun c' CL' hc' hf' => body_ok (G0_ok aL oL) (callF_ok (G0_ok aL oL) (F0_ok aL oL) 39) hc' hf') (fun news al => .cons (.lstK (n := n) (K1_at Y hL1) hL2 hL3 (ints_vals hI)) .nil) hrun ?_
  intro v s' news' al' L m F N HH X' hv hs
  cases hv
  refine ⟨goodW_bool F (by rw [hs.2]; exact hg) (fun _ => rfl) (by first | wrow_post | kernel_rfl) hs.1, ?_⟩
  refine grown_of fun q hq => ?_
  obtain ⟨i, hi⟩ := List.getElem?_of_mem hq
  obtain ⟨qq, hqq⟩ := htab i q hi
  obtain ⟨β, rfl, _⟩ := X'.more
  have ha : (tabL.map (fun q => (q.2, (none : Option Addr))) ++ β)[i]? = some (q.2, none) := by
    rw [List.getElem?_append_left (by rw [List.length_map]; exact (List.getElem?_eq_some_iff.mp hi).1), List.getElem?_map, hi]; rfl
  have := HH.obj i _ _ ha hqq
  cases this with
  | tab h _ _ => exact ⟨_, N.get h⟩)
section
variable {G : Pg} {F : Fs}
theorem CS.of (hP : Plain G F) {k : Nat} {q : Bool} {f : Addr} {vs : List V} {st st' : Sto} {ds : List (Nat × Dec)} {dc : List (Orc × List Nat)} {y : V} {cs : Prop}
    (h : ∀ n, callX G F (n + k) q (.glob f) vs ⟨st, ds, dc, True⟩ = some (y, ⟨st', [], [], cs⟩)) (hc : cs) (hd : ∀ p ∈ dc, OrcOk G F p.1) (hl : st'.length ≤ far) : OrcOk G F ⟨k, q, f, vs, st, y, st'⟩ := by
  intro n e b S
  exact (callX_tr (N := st'.length) (e := e) hP (n + k) q (.glob f) vs).t _ _ _ b (h n) hc hd (Nat.le_refl _) S
def blkX (G : Pg) (F : Fs) (n : Nat) (fn : Fn) (q : Bool) (CL : List (Str × Nat)) (d : Nat) (l : List Stmt) (ρ : Loc) : XM (Fl × Loc) := seqX (stX G fn q (evX G (callX G F n) fn q deep) CL d) l ρ
def blkM (G : Pg) (F : Fs) (n : Nat) (fn : Fn) (q : Bool) (CL : List (Str × Nat)) (d : Nat) (l : List Stmt) (ρ : Loc) : M (Fl × Loc) := seqM (stS G fn q (evS G (callF G F n) fn q deep) CL d) l ρ
theorem blk_tr {N : Nat} {e : Nat → Nat} (hP : Plain G F) (n : Nat) (fn : Fn) (q : Bool) (CL : List (Str × Nat)) (d : Nat) (l : List Stmt) (ρ : Loc) : TrX G F N e (mpF e) (blkX G F n fn q CL d l ρ) (blkM G F n fn q (mpC e CL) d l (mpP e ρ)) :=
  .seq (fun s ρ => stX_tr (evX_tr hP.1 (callX_tr hP n) deep) d s ρ) l ρ
def expsX (G : Pg) (F : Fs) (n : Nat) (fn : Fn) (q : Bool) (CL : List (Str × Nat)) (x : List Expr) (ρ : Loc) : XM (List V) := evListX ((evX G (callX G F n) fn q (deep - 1)).val false fn.sc CL ρ) x
def expsM (G : Pg) (F : Fs) (n : Nat) (fn : Fn) (q : Bool) (CL : List (Str × Nat)) (x : List Expr) (ρ : Loc) : M (List V) := evList ((evS G (callF G F n) fn q (deep - 1)).val false fn.sc CL ρ) x
theorem exps_tr {N : Nat} {e : Nat → Nat} (hP : Plain G F) (n : Nat) (fn : Fn) (q : Bool) (CL : List (Str × Nat)) (x : List Expr) (ρ : Loc) : TrX G F N e (V.mps e) (expsX G F n fn q CL x ρ) (expsM G F n fn q (mpC e CL) x (mpP e ρ)) :=
  .evList (fun x => (evX_tr hP.1 (callX_tr hP n) (deep - 1)).val false fn.sc CL ρ x) x
def tstsX (G : Pg) (F : Fs) (n : Nat) (fn : Fn) (q : Bool) (CL : List (Str × Nat)) (x : Expr) (ρ : Loc) : XM Bool := (evX G (callX G F n) fn q deep).tst false fn.sc CL ρ x
def tstsM (G : Pg) (F : Fs) (n : Nat) (fn : Fn) (q : Bool) (CL : List (Str × Nat)) (x : Expr) (ρ : Loc) : M Bool := (evS G (callF G F n) fn q deep).tst false fn.sc CL ρ x
theorem tsts_tr {N : Nat} {e : Nat → Nat} (hP : Plain G F) (n : Nat) (fn : Fn) (q : Bool) (CL : List (Str × Nat)) (x : Expr) (ρ : Loc) : TrX G F N e id (tstsX G F n fn q CL x ρ) (tstsM G F n fn q (mpC e CL) x (mpP e ρ)) :=
  (evX_tr hP.1 (callX_tr hP n) deep).tst false fn.sc CL ρ x
end
noncomputable def eof (jl : List Nat) (n k : Nat) : Nat := if k < jl.length then jl.getD k 0 else if k < far then n + (k - jl.length) else k - far
noncomputable def up (k : Nat) : Nat := far + k
theorem eof_in {jl : List Nat} {n k i : Nat} (h : jl[k]? = some i) : eof jl n k = i := by
  have := (List.getElem?_eq_some_iff.mp h).1
  unfold eof
  rw [if_pos this]
  simp [List.getD, h]
theorem eof_new {jl : List Nat} {n k : Nat} (h : jl.length ≤ k) (hf : k < far) : eof jl n k = n + (k - jl.length) := by
  unfold eof
  rw [if_neg (by lia), if_pos hf]
theorem eof_up {jl : List Nat} {n k : Nat} (hf : jl.length ≤ far) : eof jl n (up k) = k := by
  unfold eof up
  rw [if_neg (by lia), if_neg (by lia)]; lia
theorem mp_up {jl : List Nat} {n : Nat} (hf : jl.length ≤ far) (y : V) : (y.mp up).mp (eof jl n) = y := by
  rw [mp_mp]
  have : (fun k => eof jl n (up k)) = id := by funext k; exact eof_up hf
  rw [this]
  exact mp_id y
where
  mp_id : ∀ y : V, y.mp id = y := by
    intro y
    exact (mpid y)
  mpid : ∀ y : V, y.mp id = y
    | .tup l => by rw [V.mp, mpsid l]
    | .lstK l => by rw [V.mp, mpsid l]
    | .hnd _ => rfl
    | .none => rfl
    | .bool _ => rfl
    | .int _ => rfl
    | .str _ => rfl
    | .glob _ => rfl
    | .bi _ => rfl
    | .ty _ => rfl
    | .rng _ _ _ => rfl
  mpsid : ∀ l : List V, V.mps id l = l
    | [] => rfl
    | y :: r => by rw [V.mps, mpid y, mpsid r]
def s_ (x : String) : V := .str (S x)
section
variable (lo : List Str) (K : Params → Frag)
abbrev penO (spot rest : Int) : O := .list [.hnd 1, .int spot, .int rest]
def drawR (many spot rest : Int) (cells : List V) (ds : List (Nat × Dec)) (n : Nat) := callX (GG lo K) FF (n + 5) true (.glob 744) [.hnd 0, .int many] ⟨[penO spot rest, .list cells], ds, [], True⟩
theorem draw_a (many spot rest : Int) (cells : List V) (n : Nat) : drawR lo K many spot rest cells [(2, .b true), (2, .b true), (2, .b true)] n =
    some (.int (rest.fmod many), ⟨[penO spot (rest.fdiv many), .list cells], [], [],
      (!decide (many = 0 ∨ Builtin.divisionGoesByPylong rest many = true)) = true ∧ (!decide (many = 0)) = true ∧ decide (0 < rest) = true ∧ True⟩) := by kernel_rfl
def churn1 (cell spot : Int) : Int := (cell.fmod 2147483587 + 80021 * spot + 6007)
def churn2 (cell spot : Int) : Int := ((churn1 cell spot) ^ (5 : Int).toNat).fmod 2147483629
def churn3 (cell spot : Int) : Int := churn2 cell spot * (2 * spot + 3011) + 701 * spot * spot + 37
def churn (many cell spot : Int) : Int := ((((churn3 cell spot) ^ (3 : Int).toNat).fmod 2147483579).fdiv 32).fmod many
theorem draw_b (many spot rest : Int) (n : Nat) : drawR lo K many spot rest [] [(2, .b false), (7, .b false), (4, .b true), (3, .b true), (1, .b true), (0, .b true), (4, .b true)] n =
    some (.int (churn many 0 spot), ⟨[penO (spot + 1) rest, .list []], [], [],
      (!decide (many = 0)) = true ∧ powOk (churn3 0 spot) 3 = true ∧ mulOk (701 * spot) spot = true ∧ mulOk (churn2 0 spot) (2 * spot + 3011) = true ∧ powOk (churn1 0 spot) 5 = true ∧
      decide (spot < 0) = false ∧ decide (0 < rest) = false ∧ True⟩) := by kernel_rfl
def cellsC (many spot rest L c : Int) (cells : List V) : Prop :=
  ((callB true (.bi "len") [.hnd 1] [penO (spot + 1) rest, .list cells]).map (·.1) = some (.int L)) ∧ getItV (.hnd 1) (.int (spot.fmod L)) [penO (spot + 1) rest, .list cells] = some (.int c) ∧ (!decide (L = 0)) = true ∧
  ((callB true (.bi "len") [.hnd 1] [penO (spot + 1) rest, .list cells]).map (·.1) = some (.int L)) ∧ ((ne0V (.hnd 1) [penO (spot + 1) rest, .list cells]).map V.bool = some (.bool true)) ∧ decide (0 < rest) = false ∧ True
theorem draw_c (many spot rest L c : Int) (cells : List V) (n : Nat) : drawR lo K many spot rest cells [(2, .b false), (2, .v (V.bool true)), (4, .v (V.int L)), (0, .b true), (0, .v (V.int c)), (1, .v (V.int L)), (1, .b true), (3, .b false), (4, .b true), (3, .b true), (1, .b true), (0, .b true), (4, .b true)] n =
    some (.int (churn many c spot), ⟨[penO (spot + 1) rest, .list cells], [], [],
      (!decide (many = 0)) = true ∧ powOk (churn3 c spot) 3 = true ∧ mulOk (701 * spot) spot = true ∧ mulOk (churn2 c spot) (2 * spot + 3011) = true ∧ powOk (churn1 c spot) 5 = true ∧
      decide ((10 : Int) ^ (18 : Int).toNat ≤ if c < 0 then -c else c) = false ∧ decide (spot < L) = true ∧ cellsC many spot rest L c cells⟩) := by kernel_rfl
theorem draw_e (many spot rest L c : Int) (cells : List V) (n : Nat) : drawR lo K many spot rest cells [(2, .b false), (2, .v (V.bool true)), (4, .v (V.int L)), (0, .b true), (0, .v (V.int c)), (1, .v (V.int L)), (1, .b false), (4, .b true), (3, .b true), (1, .b true), (0, .b true), (4, .b true)] n =
    some (.int (churn many c spot), ⟨[penO (spot + 1) rest, .list cells], [], [],
      (!decide (many = 0)) = true ∧ powOk (churn3 c spot) 3 = true ∧ mulOk (701 * spot) spot = true ∧ mulOk (churn2 c spot) (2 * spot + 3011) = true ∧ powOk (churn1 c spot) 5 = true ∧
      decide (spot < L) = false ∧ cellsC many spot rest L c cells⟩) := by kernel_rfl
theorem draw_d (many spot rest L c : Int) (cells : List V) (n : Nat) : drawR lo K many spot rest cells [(2, .b false), (2, .v (V.bool true)), (4, .v (V.int L)), (0, .b true), (0, .v (V.int c)), (1, .v (V.int L)), (1, .b true), (3, .b true), (4, .b true), (1, .b true)] n =
    some (.int (((if c < 0 then -c else c) - (10 : Int) ^ (18 : Int).toNat).fmod many), ⟨[penO (spot + 1) (((if c < 0 then -c else c) - (10 : Int) ^ (18 : Int).toNat).fdiv many), .list cells], [], [],
      (!decide (many = 0)) = true ∧ (!decide (many = 0 ∨ Builtin.divisionGoesByPylong ((if c < 0 then -c else c) - (10 : Int) ^ (18 : Int).toNat) many = true)) = true ∧
      decide ((10 : Int) ^ (18 : Int).toNat ≤ if c < 0 then -c else c) = true ∧ decide (spot < L) = true ∧ cellsC many spot rest L c cells⟩) := by kernel_rfl
end
theorem log2_lt {n k : Nat} (hk : 0 < k) (h : n < 2 ^ k) : n.log2 < k := by
  by_cases hn : n = 0
  · subst hn; simpa using hk
  · exact (Nat.log2_lt hn).mpr h
theorem bits_le {x : Int} {k : Nat} (hk : 0 < k) (h : x.natAbs < 2 ^ k) : Builtin.Int.intBits x ≤ k := by
  unfold Builtin.Int.intBits
  split
  · lia
  · exact log2_lt hk h
theorem pyl {x m : Int} (h1 : 0 < m) (h2 : m ≤ 1000) : Builtin.divisionGoesByPylong x m = false := by
  have hl : m.natAbs.log2 < 10 := log2_lt (by lia) (by lia)
  have h0 : (m == 0) = false := by simp; lia
  unfold Builtin.divisionGoesByPylong
  simp only [h0]
  rw [Bool.and_eq_false_iff]
  exact .inl (decide_eq_false (by simp; lia))
theorem pyl_ok {x m : Int} (h1 : 0 < m) (h2 : m ≤ 1000) : (!decide (m = 0 ∨ Builtin.divisionGoesByPylong x m = true)) = true := by
  rw [pyl h1 h2]; simp; lia
theorem powOk_of {a n : Int} {k : Nat} (hn : 0 ≤ n) (hk : 0 < k) (h : a.natAbs < 2 ^ k) (hb : (k : Int) * n ≤ 2 ^ 27) : powOk a n = true := by
  unfold powOk
  rw [Bool.and_eq_true, decide_eq_true_iff, decide_eq_true_iff]
  refine ⟨hn, Int.le_trans (Int.mul_le_mul_of_nonneg_right (Int.ofNat_le.mpr (bits_le hk h)) hn) hb⟩
theorem mulOk_l {a b : Int} (h : a.natAbs < 2 ^ 64) : mulOk a b = true := by
  unfold mulOk
  have := bits_le (k := 64) (by lia) h
  have h2 : decide (Builtin.Int.intBits a > shortFactorBits) = false := decide_eq_false (by unfold shortFactorBits; lia)
  rw [h2]; rfl
theorem mulOk_r {a b : Int} (h : b.natAbs < 2 ^ 64) : mulOk a b = true := by
  unfold mulOk
  have := bits_le (k := 64) (by lia) h
  have h2 : decide (Builtin.Int.intBits b > shortFactorBits) = false := decide_eq_false (by unfold shortFactorBits; lia)
  rw [h2]; simp
theorem fmod_bd {a m : Int} (h : 0 < m) : 0 ≤ a.fmod m ∧ a.fmod m < m := ⟨Int.fmod_nonneg_of_pos a h, Int.fmod_lt_of_pos a h⟩
theorem churn1_bd {c s : Int} (h0 : 0 ≤ s) (h1 : s ≤ 1000) : (churn1 c s).natAbs < 2 ^ 33 := by
  have := fmod_bd (a := c) (m := 2147483587) (by lia)
  unfold churn1
  lia
theorem churn2_bd {c s : Int} : 0 ≤ churn2 c s ∧ churn2 c s < 2147483629 := fmod_bd (by lia)
theorem churn3_bd {c s : Int} (h0 : 0 ≤ s) (h1 : s ≤ 1000) : (churn3 c s).natAbs < 2 ^ 60 := by
  have h2 := churn2_bd (c := c) (s := s)
  unfold churn3
  generalize churn2 c s = x at h2 ⊢
  have h3 : 0 ≤ x * (2 * s + 3011) := Int.mul_nonneg h2.1 (by lia)
  have h4 : x * (2 * s + 3011) ≤ 2147483629 * 5011 := Int.mul_le_mul (by lia) (by lia) (by lia) (by lia)
  have h5 : 0 ≤ 701 * s * s := Int.mul_nonneg (by lia) h0
  have h6 : 701 * s * s ≤ 701000 * 1000 := Int.mul_le_mul (by lia) (by lia) (by lia) (by lia)
  lia
theorem callB_len {q : Bool} {y : V} {st : Sto} {n : Int} (h : lenV y st = some n) : (callB q (.bi "len") [y] st).map (·.1) = some (.int n) := by
  have : biP q "len" [y] st = some (.int n) := by
    unfold biP
    rw [if_pos rfl]
    show (lenV y st).map V.int = _
    rw [h]; rfl
  show ((biP q "len" [y] st).map _).map _ = _
  rw [this]; rfl
theorem dats_ints : ∀ l : List Int, dats0 (l.map V.int) = some (l.map PyData.int)
  | [] => rfl
  | i :: r => by
    rw [List.map_cons, dats0, dats_ints r]; rfl
theorem canLay_ints : ∀ l : List Int, PyData.canLayAll0 (l.map PyData.int) = true
  | [] => rfl
  | i :: r => by rw [List.map_cons, PyData.canLayAll0, canLay_ints r]; rfl
theorem depth_ints : ∀ l : List Int, PyData.depthAll (l.map PyData.int) = 0
  | [] => rfl
  | i :: r => by rw [List.map_cons, PyData.depthAll, depth_ints r]; rfl
theorem shaped_ints (l : List Int) : SeqAt.shaped (.list (l.map PyData.int)) = true := by
  unfold SeqAt.shaped
  rw [PyData.canLay0, canLay_ints, PyData.depth, depth_ints]; rfl
theorem eqv_ints_nil (i : Int) (l : List Int) : PyData.eqv (.list ((i :: l).map PyData.int)) (.list []) = false := by
  rfl
section
variable {lo : List Str} {K : Params → Frag}
theorem draw_conds {many c spot : Int} (h0 : 0 ≤ spot) (h1 : spot ≤ 1000) (hm : 0 < many) : (!decide (many = 0)) = true ∧ powOk (churn3 c spot) 3 = true ∧ mulOk (701 * spot) spot = true ∧ mulOk (churn2 c spot) (2 * spot + 3011) = true ∧ powOk (churn1 c spot) 5 = true :=
  ⟨by simp; lia, powOk_of (k := 60) (by lia) (by lia) (churn3_bd h0 h1) (by lia), mulOk_r (by lia), mulOk_r (by lia), powOk_of (k := 33) (by lia) (by lia) (churn1_bd h0 h1) (by lia)⟩
theorem cells_ok {many spot rest : Int} {zs : List Int} (h0 : 0 ≤ spot) (hr : ¬ 0 < rest) (hne : zs ≠ []) (hlen : zs.length ≤ 63) : ∃ c, cellsC many spot rest zs.length c (zs.map V.int) := by
  have hL : 0 < (zs.length : Int) := by
    have := List.length_pos_iff.mpr hne; lia
  have hb := fmod_bd (a := spot) hL
  have hlt : (spot.fmod zs.length).toNat < zs.length := by lia
  have hlenE : (callB true (.bi "len") [.hnd 1] [penO (spot + 1) rest, .list (zs.map V.int)]).map (·.1) = some (.int zs.length) := by
    refine callB_len ?_
    show (if (zs.map V.int).length ≤ sizeLine then some ((zs.map V.int).length : Int) else none) = _
    rw [List.length_map, if_pos (by unfold sizeLine; lia)]
  refine ⟨zs[(spot.fmod zs.length).toNat], hlenE, ?_, by simp; lia, hlenE, ?_, decide_eq_false hr, trivial⟩
  · show (if -(2 ^ 63) ≤ spot.fmod zs.length ∧ spot.fmod zs.length < 2 ^ 63 then (seqIndex? (spot.fmod zs.length) (zs.map V.int).length).bind ((zs.map V.int)[·]?) else none) = _
    rw [if_pos (by lia), List.length_map]
    have : seqIndex? (spot.fmod zs.length) zs.length = some (spot.fmod zs.length).toNat := by
      generalize spot.fmod zs.length = x at hb
      unfold seqIndex?
      rw [if_neg (show ¬ x < 0 by lia)]
      dsimp only
      rw [if_pos (by rw [Bool.and_eq_true, decide_eq_true_iff, decide_eq_true_iff]; lia)]
    rw [this]
    simp [List.getElem?_eq_getElem hlt]
  · unfold ne0V
    have : datV (.hnd 1) [penO (spot + 1) rest, .list (zs.map V.int)] = some (.list (zs.map PyData.int)) := by
      show (dats0 (zs.map V.int)).map PyData.list = _
      rw [dats_ints]; rfl
    rw [this]
    dsimp only [Option.bind_some]
    rw [shaped_ints]
    obtain ⟨i, r, rfl⟩ := List.exists_cons_of_ne_nil hne
    rw [eqv_ints_nil]
    rfl
structure Drawn (many spot rest d spot' rest' : Int) : Prop where
  d0 : 0 ≤ d
  d1 : d < many
  s0 : spot ≤ spot'
  s1 : spot' ≤ spot + 1
  r0 : 0 ≤ rest'
noncomputable def drawOrc (many spot rest d spot' rest' : Int) (zs : List Int) : Orc := ⟨5, true, 744, [.hnd 0, .int many], [penO spot rest, .list (zs.map V.int)], .int d, [penO spot' rest', .list (zs.map V.int)]⟩
theorem draw_ok (zs : List Int) (hlen : zs.length ≤ 63) {many spot rest : Int} (h0 : 0 ≤ spot) (h1 : spot ≤ 1000) (hr : 0 ≤ rest) (hm : 0 < many) (hm2 : many ≤ 1000) :
    ∃ d spot' rest', Drawn many spot rest d spot' rest' ∧ OrcOk (GG lo K) FF (drawOrc many spot rest d spot' rest' zs) := by
  have hf : (2 : Nat) ≤ far := by unfold far; lia
  by_cases hp : 0 < rest
  · have hd := fmod_bd (a := rest) hm
    refine ⟨_, _, _, ⟨hd.1, hd.2, Int.le_refl _, by lia, Int.fdiv_nonneg hr (by lia)⟩, CS.of G0_plain (fun n => draw_a lo K many spot rest (zs.map V.int) n) ⟨pyl_ok hm hm2, by simp; lia, by simpa using hp, trivial⟩ (fun p hp => by cases hp) hf⟩
  · obtain ⟨c1, c2, c3, c4, c5⟩ := draw_conds (c := 0) h0 h1 hm
    by_cases hne : zs = []
    · subst hne
      have hd : 0 ≤ churn many 0 spot ∧ churn many 0 spot < many := fmod_bd hm
      refine ⟨_, _, _, ⟨hd.1, hd.2, by lia, by lia, hr⟩, CS.of G0_plain (fun n => draw_b lo K many spot rest n) ⟨c1, c2, c3, c4, c5, by simpa using h0, by simpa using hp, trivial⟩ (fun p hp => by cases hp) hf⟩
    · obtain ⟨c, hc⟩ := cells_ok (many := many) h0 hp hne hlen
      obtain ⟨c1, c2, c3, c4, c5⟩ := draw_conds (c := c) h0 h1 hm
      have hd : 0 ≤ churn many c spot ∧ churn many c spot < many := fmod_bd hm
      by_cases hs : spot < zs.length
      · by_cases hg : (10 : Int) ^ (18 : Int).toNat ≤ if c < 0 then -c else c
        · have hd := fmod_bd (a := (if c < 0 then -c else c) - (10 : Int) ^ (18 : Int).toNat) hm
          refine ⟨_, _, _, ⟨hd.1, hd.2, by lia, by lia, Int.fdiv_nonneg (by lia) (by lia)⟩, CS.of G0_plain (fun n => draw_d lo K many spot rest zs.length c (zs.map V.int) n) ⟨c1, pyl_ok hm hm2, decide_eq_true hg, decide_eq_true hs, hc⟩ (fun p hp => by cases hp) hf⟩
        · exact ⟨_, _, _, ⟨hd.1, hd.2, by lia, by lia, hr⟩, CS.of G0_plain (fun n => draw_c lo K many spot rest zs.length c (zs.map V.int) n) ⟨c1, c2, c3, c4, c5, decide_eq_false hg, decide_eq_true hs, hc⟩ (fun p hp => by cases hp) hf⟩
      · exact ⟨_, _, _, ⟨hd.1, hd.2, by lia, by lia, hr⟩, CS.of G0_plain (fun n => draw_e lo K many spot rest zs.length c (zs.map V.int) n) ⟨c1, c2, c3, c4, c5, decide_eq_false hs, hc⟩ (fun p hp => by cases hp) hf⟩
end
def bodyOf : Stmt → List Stmt
  | .For _ _ b _ _ => b
  | .While _ b _ _ => b
  | .If _ b _ _ => b
  | _ => []
def elseOf : Stmt → List Stmt
  | .If _ _ o _ => o
  | _ => []
def testOf : Stmt → Expr
  | .While t _ _ _ => t
  | .If t _ _ _ => t
  | _ => default
def iterOf : Stmt → Expr
  | .For _ i _ _ _ => i
  | _ => default
def valOf : Stmt → Expr
  | .Assign _ e _ => e
  | .Expr e _ => e
  | .Return (some e) _ => e
  | _ => default
def argsOf : Expr → List Expr
  | .Call _ es _ _ => es
  | _ => []
def nth (l : List Stmt) (i : Nat) : Stmt := l.getD i (.Pass pz)
def nthE (l : List Expr) (i : Nat) : Expr := l.getD i default
def turnB : List Stmt := bodyOf (nth f817.body 1)
def lamP (i : Nat) : Arguments × Expr × Scope := match nthE (argsOf (valOf (nth turnB 13))) i with
  | .Lambda p b sc _ => (p, b, sc)
  | _ => (⟨[], [], none, [], [], none, []⟩, default, f817.sc)
def lamQ : Str := f817.qual ++ ".<locals>." ++ "<lambda>"
def lamOb (i : Nat) (cl : List (Str × Nat)) : O := .lam (lamP i).1 (lamP i).2.1 (lamP i).2.2 lamQ cl
structure MT where
  ops : List V
  begins : List V
  place : Int
  stk : List V
  N : V
  A : Int
  B : Int
  C : Int
  heard : List V
  log : List V
  key : Str
  slots : O
def said : V := .tup [s_ "display", .tup [], .bool false]
def refV (x : String) : V := .tup [s_ "ref", s_ x, .tup [], .tup [], .none]
def numV (x : Int) : V := .tup [s_ "number", .tup [.int x, .int 0]]
def condV (x : String) (l : Int) : V := .tup [s_ "rel", s_ ">", refV x, numV l]
def opPush (x : Int) (lab : Int) : V := .tup [s_ "push", numV x, .int lab]
def opPushN : V := .tup [s_ "push", refV "N", .int (-1)]
def opPut (x way : String) (lab : Int) : V := .tup [s_ "put", .tup [.tup [refV x, .bool false, s_ way]], .int lab]
def opDo : V := .tup [s_ "do", said]
def opTest (x : String) (l lab : Int) : V := .tup [s_ "test", condV x l, .int lab]
def opJump (lab : Int) : V := .tup [s_ "jump", .int lab]
def opPerf : V := .tup [s_ "perform", .int 1, .int 1]
def opLeave (i : Int) : V := .tup [s_ "leave", .int i]
def opCount : V := .tup [s_ "count", .int 0]
def opLess (lab : Int) : V := .tup [s_ "less", .int 0, .int lab]
def opStop (w : String) : V := .tup [s_ "stop", s_ w]
def dicV (N : V) (A B C : Int) : List (Str × V) := [(S "N", N), (S "A", .int A), (S "B", .int B), (S "C", .int C)]
def tableV : List (Str × V) := [(S "push", .glob 573), (S "calc", .glob 573), (S "put", .glob 580), (S "do", .glob 587), (S "key", .glob 594), (S "test", .glob 601), (S "jump", .glob 608), (S "choose", .glob 615), (S "perform", .glob 622), (S "leave", .glob 629), (S "count", .glob 636), (S "less", .glob 643), (S "stop", .glob 650)]
def machO (c d st fr : Nat) (t : MT) (word : String) : O := .inst 548 [(S "code", .hnd c), (S "deeds", .hnd d), (S "place", .int t.place), (S "stack", .hnd st), (S "frames", .hnd fr), (S "key", .str t.key), (S "word", s_ word)]
def codeO (t : MT) : O := .inst 138 [(S "ops", .tup t.ops), (S "begins", .tup t.begins)]
def deedsO (a b c d : Nat) : O := .inst 31 [(S "do", .hnd a), (S "test", .hnd b), (S "number", .hnd c), (S "put", .hnd d)]
def frameO (l b : Int) (s : Nat) : O := .inst 520 [(S "last", .int l), (S "behind", .int b), (S "slots", .hnd s)]
def cellO (k : Nat) : O := .cell (some (.hnd k))
def seg (t : MT) (word : String) : Sto :=
  [machO 1 2 3 4 t word, codeO t, deedsO 5 6 7 8, .list t.stk, .list [.hnd 9], lamOb 0 [(S "heard", 11), (S "first", 10)], lamOb 1 [(S "first", 10)], lamOb 2 [(S "log", 12), (S "first", 10)], lamOb 3 [(S "log", 12), (S "first", 10)],
   frameO (-1) (-1) 16, cellO 13, cellO 14, cellO 15, .sdict (dicV t.N t.A t.B t.C), .list t.heard, .list t.log, t.slots, .sdict tableV]
def rhoX (s : Int) : Option V → Loc
  | none => [(S "code", .hnd 1), (S "deeds", .hnd 2), (S "limit", .int 4000), (S "machine", .hnd 0), (S "table", .hnd 17), (S "steps", .int s)]
  | some o => [(S "code", .hnd 1), (S "deeds", .hnd 2), (S "limit", .int 4000), (S "machine", .hnd 0), (S "table", .hnd 17), (S "steps", .int s), (S "op", o)]
def whS : Stmt := nth f664.body 3
section
variable (lo : List Str) (K : Params → Frag)
def itX (n : Nat) (ρ : Loc) : XM (Fl × Loc) := XM.bind (tstsX (GG lo K) FF (n + 15) f664 true [] (testOf whS) ρ) fun b => iteX b (blkX (GG lo K) FF (n + 15) f664 true [] 19 (bodyOf whS) ρ) stopX
end
set_option genCtorIdx true in
inductive Nm where
  | A
  | B
  | C
  deriving DecidableEq
def Nm.str : Nm → String
  | .A => "A"
  | .B => "B"
  | .C => "C"
def MT.get (t : MT) : Nm → Int
  | .A => t.A
  | .B => t.B
  | .C => t.C
noncomputable def MT.put (t : MT) (x : Nm) (v : Int) : MT := match x with
  | .A => { t with A := v }
  | .B => { t with B := v }
  | .C => { t with C := v }
def MT.go (t : MT) (p : Int) : MT := { t with place := p }
def MT.stack (t : MT) (l : List V) : MT := { t with stk := l }
def MT.say (t : MT) (x : String) : MT := { t with log := t.log ++ [s_ x] }
def MT.hear (t : MT) (k : Nat) : MT := { t with heard := t.heard ++ [.hnd k], key := S "" }
def MT.slot (t : MT) (o : O) : MT := { t with slots := o }
def fet (t : MT) (p s L : Int) (op : V) (more : Prop) : Prop := getItV (.tup t.ops) (.int p) (seg t "") = some op ∧ decide (4000 ≤ s) = false ∧ decide (L ≤ p) = false ∧ (callB true (.bi "len") [.tup t.ops] (seg t "")).map (·.1) = some (.int L) ∧ more
def fds (L : Int) (op : V) (more : List (Nat × Dec)) : List (Nat × Dec) := (2, .v (.int L)) :: (1, .b false) :: (1, .b false) :: (0, .v op) :: more
section
variable (lo : List Str) (K : Params → Frag)
theorem st_push (n : Nat) (t : MT) (s L x lab : Int) (o : Option V) : itX lo K n (rhoX s o) ⟨seg t "", fds L (opPush x lab) [(10, .b true), (4, .b true)], [], True⟩ =
    some ((.next, rhoX (s + 1) (some (opPush x lab))), ⟨seg (((t.go (t.place + 1)).say "").stack (t.stk ++ [.tup [.int x, .int 0]])) "", [], [], Nat.ble t.stk.length sizeLine = true ∧ Nat.ble t.log.length sizeLine = true ∧ fet t t.place s L (opPush x lab) True⟩) := by
  cases o <;> kernel_rfl
theorem st_pushN (n : Nat) (t : MT) (s L : Int) (o : Option V) : itX lo K n (rhoX s o) ⟨seg t "", fds L opPushN [(13, .b true), (7, .b true)], [], True⟩ =
    some ((.next, rhoX (s + 1) (some opPushN)), ⟨seg (((t.go (t.place + 1)).say "asked").stack (t.stk ++ [t.N])) "", [], [], Nat.ble t.stk.length sizeLine = true ∧ Nat.ble t.log.length sizeLine = true ∧ fet t t.place s L opPushN True⟩) := by
  cases o <;> kernel_rfl
theorem st_let (n : Nat) (t : MT) (s L v lab : Int) (x : Nm) (o : Option V) : itX lo K n (rhoX s o) ⟨seg (t.stack [.tup [.int v, .int 0]]) "", fds L (opPut x.str "=" lab) [(7, .b false)], [], True⟩ =
    some ((.next, rhoX (s + 1) (some (opPut x.str "=" lab))), ⟨seg (((t.stack []).go (t.place + 1)).put x (v + 0)) "", [], [], decide (99 < v + 0) = false ∧ fet (t.stack [.tup [.int v, .int 0]]) t.place s L (opPut x.str "=" lab) True⟩) := by
  cases x <;> cases o <;> kernel_rfl
theorem st_add (n : Nat) (t : MT) (s L v lab : Int) (x : Nm) (o : Option V) : itX lo K n (rhoX s o) ⟨seg (t.stack [.tup [.int v, .int 0]]) "", fds L (opPut x.str "+" lab) [(9, .b false)], [], True⟩ =
    some ((.next, rhoX (s + 1) (some (opPut x.str "+" lab))), ⟨seg (((t.stack []).go (t.place + 1)).put x (v + t.get x)) "", [], [], decide (99 < v + t.get x) = false ∧ fet (t.stack [.tup [.int v, .int 0]]) t.place s L (opPut x.str "+" lab) True⟩) := by
  cases x <;> cases o <;> kernel_rfl
theorem st_big (n : Nat) (t : MT) (s L v lab : Int) (x : Nm) (o : Option V) : itX lo K n (rhoX s o) ⟨seg (t.stack [.tup [.int v, .int 0]]) "", fds L (opPut x.str "=" lab) [(7, .b true), (0, .b true)], [], True⟩ =
    some ((.next, rhoX (s + 1) (some (opPut x.str "=" lab))), ⟨seg (((t.stack []).go lab).say "size") "", [], [], Nat.ble t.log.length sizeLine = true ∧ decide (99 < v + 0) = true ∧ fet (t.stack [.tup [.int v, .int 0]]) t.place s L (opPut x.str "=" lab) True⟩) := by
  cases x <;> cases o <;> kernel_rfl
theorem st_do (n : Nat) (t : MT) (s L : Int) (o : Option V) : itX lo K n (rhoX s o) ⟨seg t "", fds L opDo [(3, .b true)], [], True⟩ =
    some ((.next, rhoX (s + 1) (some opDo)), ⟨seg ((t.go (t.place + 1)).hear 18) "" ++ [.sdict (dicV t.N t.A t.B t.C)], [], [], Nat.ble t.heard.length sizeLine = true ∧ fet t t.place s L opDo True⟩) := by
  cases o <;> kernel_rfl
theorem st_yes (n : Nat) (t : MT) (s L v lab : Int) (x : Nm) (o : Option V) : itX lo K n (rhoX s o) ⟨seg t "", fds L (opTest x.str v lab) [(10, .b false)], [], True⟩ =
    some ((.next, rhoX (s + 1) (some (opTest x.str v lab))), ⟨seg (t.go (t.place + 1)) "", [], [], (!decide (v < t.get x)) = false ∧ fet t t.place s L (opTest x.str v lab) True⟩) := by
  cases x <;> cases o <;> kernel_rfl
theorem st_no (n : Nat) (t : MT) (s L v lab : Int) (x : Nm) (o : Option V) : itX lo K n (rhoX s o) ⟨seg t "", fds L (opTest x.str v lab) [(10, .b true)], [], True⟩ =
    some ((.next, rhoX (s + 1) (some (opTest x.str v lab))), ⟨seg (t.go lab) "", [], [], (!decide (v < t.get x)) = true ∧ fet t t.place s L (opTest x.str v lab) True⟩) := by
  cases x <;> cases o <;> kernel_rfl
theorem st_jump (n : Nat) (t : MT) (s L lab : Int) (o : Option V) : itX lo K n (rhoX s o) ⟨seg t "", fds L (opJump lab) [], [], True⟩ =
    some ((.next, rhoX (s + 1) (some (opJump lab))), ⟨seg (t.go lab) "", [], [], fet t t.place s L (opJump lab) True⟩) := by
  cases o <;> kernel_rfl
theorem st_stop (n : Nat) (t : MT) (s L : Int) (o : Option V) : itX lo K n (rhoX s o) ⟨seg t "", fds L (opStop "stop") [], [], True⟩ =
    some ((.next, rhoX (s + 1) (some (opStop "stop"))), ⟨seg (t.go (t.place + 1)) "stop", [], [], fet t t.place s L (opStop "stop") True⟩) := by
  cases o <;> kernel_rfl
theorem st_count0 (n : Nat) (t : MT) (s L x : Int) (o : Option V) : itX lo K n (rhoX s o) ⟨seg ((t.stack [.tup [.int x, .int 0]]).slot (.sdict [])) "", fds L opCount [(8, .b true)], [], True⟩ =
    some ((.next, rhoX (s + 1) (some opCount)), ⟨seg (((t.stack []).go (t.place + 1)).slot (.idict [(0, .int (x * 10 ^ (0 - 0)))])) "", [], [], mulOk x ((10 : Int) ^ (0 - 0)) = true ∧ fet ((t.stack [.tup [.int x, .int 0]]).slot (.sdict [])) t.place s L opCount True⟩) := by
  cases o <;> kernel_rfl
theorem st_count1 (n : Nat) (t : MT) (s L x : Int) (o : Option V) : itX lo K n (rhoX s o) ⟨seg ((t.stack [.tup [.int x, .int 1]]).slot (.sdict [])) "", fds L opCount [(12, .b false)], [], True⟩ =
    some ((.next, rhoX (s + 1) (some opCount)), ⟨seg (((t.stack []).go (t.place + 1)).slot (.idict [(0, .int ((if x < 0 then -x else x).fdiv 10))])) "", [], [], (decide (x < 0) != false) = false ∧ fet ((t.stack [.tup [.int x, .int 1]]).slot (.sdict [])) t.place s L opCount True⟩) := by
  cases o <;> kernel_rfl
theorem st_count2 (n : Nat) (t : MT) (s L x : Int) (o : Option V) : itX lo K n (rhoX s o) ⟨seg ((t.stack [.tup [.int x, .int 1]]).slot (.sdict [])) "", fds L opCount [(12, .b true)], [], True⟩ =
    some ((.next, rhoX (s + 1) (some opCount)), ⟨seg (((t.stack []).go (t.place + 1)).slot (.idict [(0, .int (-((if x < 0 then -x else x).fdiv 10)))])) "", [], [], (decide (x < 0) != false) = true ∧ fet ((t.stack [.tup [.int x, .int 1]]).slot (.sdict [])) t.place s L opCount True⟩) := by
  cases o <;> kernel_rfl
theorem st_less (n : Nat) (t : MT) (s L x lab : Int) (o : Option V) : itX lo K n (rhoX s o) ⟨seg (t.slot (.idict [(0, .int x)])) "", fds L (opLess lab) [(5, .b true)], [], True⟩ =
    some ((.next, rhoX (s + 1) (some (opLess lab))), ⟨seg ((t.go (t.place + 1)).slot (.idict [(0, .int (x - 1))])) "", [], [], decide (0 < x) = true ∧ fet (t.slot (.idict [(0, .int x)])) t.place s L (opLess lab) True⟩) := by
  cases o <;> kernel_rfl
theorem st_less0 (n : Nat) (t : MT) (s L x lab : Int) (o : Option V) : itX lo K n (rhoX s o) ⟨seg (t.slot (.idict [(0, .int x)])) "", fds L (opLess lab) [(5, .b false)], [], True⟩ =
    some ((.next, rhoX (s + 1) (some (opLess lab))), ⟨seg ((t.go lab).slot (.idict [(0, .int x)])) "", [], [], decide (0 < x) = false ∧ fet (t.slot (.idict [(0, .int x)])) t.place s L (opLess lab) True⟩) := by
  cases o <;> kernel_rfl
def thenX (m : XM (Fl × Loc)) (f : Loc → XM (Fl × Loc)) : XM (Fl × Loc) := XM.bind m fun p => match p.1 with
  | .next => f p.2
  | _ => stopX
def it3X (n : Nat) (ρ : Loc) : XM (Fl × Loc) := thenX (itX lo K n ρ) fun ρ => thenX (itX lo K n ρ) fun ρ => itX lo K n ρ
def fet' (st : Sto) (ops : List V) (p s L : Int) (op : V) (more : Prop) : Prop := getItV (.tup ops) (.int p) st = some op ∧ decide (4000 ≤ s) = false ∧ decide (L ≤ p) = false ∧ (callB true (.bi "len") [.tup ops] st).map (·.1) = some (.int L) ∧ more
def MT.begs (t : MT) (p1 : Int) : MT := { t with begins := [.int 0, .int p1] }
theorem st_perf (n : Nat) (t : MT) (s L p1 : Int) (o : Option V) : it3X lo K n (rhoX s o) ⟨seg (t.begs p1) "", fds L opPerf [(11, .v (.int L)), (1, .b false), (1, .b false), (0, .v opDo), (3, .b true), (2, .v (.int L)), (1, .b false), (1, .b false), (0, .v (opLeave 1))], [], True⟩ =
    some ((.next, rhoX (s + 1 + 1 + 1) (some (opLeave 1))), ⟨seg (((t.begs p1).go (t.place + 1)).hear 20) "" ++ [frameO 1 (t.place + 1) 19, .sdict [], .sdict (dicV t.N t.A t.B t.C)], [], [],
      fet' ((seg (((t.begs p1).go (p1 + 1)).hear 20) "").set 4 (.list [.hnd 9, .hnd 18]) ++ [frameO 1 (t.place + 1) 19, .sdict [], .sdict (dicV t.N t.A t.B t.C)]) t.ops (p1 + 1) (s + 1 + 1) L (opLeave 1)
        (Nat.ble t.heard.length sizeLine = true ∧ fet' ((seg ((t.begs p1).go p1) "").set 4 (.list [.hnd 9, .hnd 18]) ++ [frameO 1 (t.place + 1) 19, .sdict []]) t.ops p1 (s + 1) L opDo (fet (t.begs p1) t.place s L opPerf True))⟩) := by
  cases o <;> kernel_rfl
end
structure In (b : Sto) (jl : List Nat) (a : Sto) : Prop where
  len : jl.length = a.length
  nd : jl.Nodup
  lt : ∀ k ∈ jl, k < b.length
  get : ∀ (i k : Nat) (o : O), jl[i]? = some k → a[i]? = some o → b[k]? = some (o.mp (eof jl b.length))
  tab : ∀ (i : Nat) (q : Str), a[i]? = some (.tab q) → jl[i]? = some i
theorem In.sim {b a : Sto} {jl : List Nat} {N : Nat} (H : In b jl a) (hN : a.length ≤ N) (hf : N ≤ far) : Sim N (eof jl b.length) a b := by
  have hl := H.len
  refine ⟨fun i o h => ?_, fun k h1 h2 => by rw [eof_new (by lia) (by lia)]; lia, fun i j h1 h2 h => ?_, fun h => by have := @eof_up jl b.length h (by lia); exact this, hN, hf, fun i q h => ?_⟩
  · have hi : i < jl.length := by rw [hl]; exact lt_of_get h
    rw [eof_in (List.getElem?_eq_getElem hi)]
    exact H.get i _ o (List.getElem?_eq_getElem hi) h
  · by_cases hi : i < jl.length
    · rw [eof_in (List.getElem?_eq_getElem hi)] at h
      have h3 := H.lt _ (List.getElem_mem hi)
      by_cases hj : j < jl.length
      · rw [eof_in (List.getElem?_eq_getElem hj)] at h
        exact nd_inj H.nd hi hj h
      · rw [eof_new (by lia) (by lia)] at h; lia
    · rw [eof_new (by lia) (by lia)] at h
      by_cases hj : j < jl.length
      · rw [eof_in (List.getElem?_eq_getElem hj)] at h
        have h3 := H.lt _ (List.getElem_mem hj)
        lia
      · rw [eof_new (by lia) (by lia)] at h; lia
  · exact eof_in (H.tab i q h)
def Keep (jl : List Nat) (b b' : Sto) : Prop := b.length ≤ b'.length ∧ ∀ (k : Nat) (o : O), k ∉ jl → b[k]? = some o → b'[k]? = some o
theorem Keep.refl {jl : List Nat} {b : Sto} : Keep jl b b := ⟨Nat.le_refl _, fun _ _ _ h => h⟩
theorem Keep.trans {jl : List Nat} {b b' b'' : Sto} (x : Keep jl b b') (y : Keep jl b' b'') : Keep jl b b'' := ⟨Nat.le_trans x.1 y.1, fun k o h e => y.2 k o h (x.2 k o h e)⟩
theorem Keep.more {jl jm : List Nat} {b b' : Sto} (x : Keep jl b b') (h : ∀ k ∈ jl, k ∈ jm) : Keep jm b b' := ⟨x.1, fun k o hn e => x.2 k o (fun q => hn (h k q)) e⟩
structure Out2 (jl : List Nat) (a b a' b' : Sto) : Prop where
  get : ∀ (i : Nat) (o : O), a'[i]? = some o → b'[eof jl b.length i]? = some (o.mp (eof jl b.length))
  keep : Keep jl b b'
  len : b'.length + a.length = b.length + a'.length
section
variable {G : Pg} {F : Fs}
theorem In.run {α β : Type} {mp : (Nat → Nat) → α → β} {m : XM α} {m' : (Nat → Nat) → M β} {b a a' : Sto} {jl : List Nat} {ds : List (Nat × Dec)} {dc : List (Orc × List Nat)} {cs : Prop} {y : α} (H : In b jl a)
    (T : ∀ N e, TrX G F N e (mp e) m (m' e)) (h : m ⟨a, ds, dc, True⟩ = some (y, ⟨a', [], [], cs⟩)) (hc : cs) (ho : ∀ p ∈ dc, OrcOk G F p.1) (hl : a'.length ≤ far) :
    ∃ b', m' (eof jl b.length) b = some (.ok (mp (eof jl b.length) y), b') ∧ Out2 jl a b a' b' := by
  have T := T a'.length (eof jl b.length)
  have hle := (T.g _ _ _ h).2.2
  dsimp only at hle
  obtain ⟨b', e1, X⟩ := T.t _ _ _ b h hc ho (Nat.le_refl _) (H.sim hle hl)
  refine ⟨b', e1, X.S.get, ⟨?_, fun k o hk e => X.O k o e fun i hi he => hk ?_⟩, X.gr⟩
  · have := X.gr; dsimp only at this; lia
  · have hi : i < a.length := hi
    have hi' : i < jl.length := by rw [H.len]; exact hi
    rw [eof_in (List.getElem?_eq_getElem hi')] at he
    rw [← he]; exact List.getElem_mem hi'
end
def MT.mp (e : Nat → Nat) (t : MT) : MT := ⟨V.mps e t.ops, V.mps e t.begins, t.place, V.mps e t.stk, t.N.mp e, t.A, t.B, t.C, V.mps e t.heard, V.mps e t.log, t.key, t.slots.mp e⟩
def segE (e : Nat → Nat) (t : MT) (word : String) : Sto :=
  [machO (e 1) (e 2) (e 3) (e 4) t word, codeO t, deedsO (e 5) (e 6) (e 7) (e 8), .list t.stk, .list [.hnd (e 9)], lamOb 0 [(S "heard", e 11), (S "first", e 10)], lamOb 1 [(S "first", e 10)], lamOb 2 [(S "log", e 12), (S "first", e 10)], lamOb 3 [(S "log", e 12), (S "first", e 10)],
   frameO (-1) (-1) (e 16), cellO (e 13), cellO (e 14), cellO (e 15), .sdict (dicV t.N t.A t.B t.C), .list t.heard, .list t.log, t.slots, .sdict tableV]
theorem seg_mp (e : Nat → Nat) (t : MT) (w : String) : (seg t w).map (O.mp e) = segE e (t.mp e) w := rfl
def rhoE (e : Nat → Nat) (s : Int) : Option V → Loc
  | none => [(S "code", .hnd (e 1)), (S "deeds", .hnd (e 2)), (S "limit", .int 4000), (S "machine", .hnd (e 0)), (S "table", .hnd (e 17)), (S "steps", .int s)]
  | some o => [(S "code", .hnd (e 1)), (S "deeds", .hnd (e 2)), (S "limit", .int 4000), (S "machine", .hnd (e 0)), (S "table", .hnd (e 17)), (S "steps", .int s), (S "op", o)]
theorem rho_mp (e : Nat → Nat) (s : Int) (o : Option V) : mpP e (rhoX s o) = rhoE e s (o.map (V.mp e)) := by cases o <;> rfl
theorem seg_len (t : MT) (w : String) : (seg t w).length = 18 := rfl
theorem segE_congr {e e' : Nat → Nat} (h : ∀ i, i < 18 → e i = e' i) (t : MT) (w : String) : segE e t w = segE e' t w := by
  unfold segE machO deedsO frameO cellO
  simp only [h 1 (by lia), h 2 (by lia), h 3 (by lia), h 4 (by lia), h 5 (by lia), h 6 (by lia), h 7 (by lia), h 8 (by lia), h 9 (by lia), h 10 (by lia), h 11 (by lia), h 12 (by lia), h 13 (by lia), h 14 (by lia), h 15 (by lia), h 16 (by lia)]
structure Lie (b : Sto) (jl : List Nat) (t : MT) (w : String) : Prop where
  len : jl.length = 18
  nd : jl.Nodup
  lt : ∀ k ∈ jl, k < b.length
  get : ∀ (i k : Nat) (o : O), jl[i]? = some k → (segE (fun i => jl.getD i 0) t w)[i]? = some o → b[k]? = some o
  slot : ∀ q, t.slots ≠ .tab q
theorem eof_getD {jl : List Nat} {n i : Nat} (h : i < jl.length) : eof jl n i = jl.getD i 0 := by
  rw [eof_in (List.getElem?_eq_getElem h)]; simp [List.getD, h]
theorem mps_up {jl : List Nat} {n : Nat} (hf : jl.length ≤ far) (l : List V) : V.mps (eof jl n) (V.mps up l) = l := by
  rw [mps_map, mps_map, List.map_map]
  conv => rhs; rw [← List.map_id l]
  exact List.map_congr_left fun y _ => mp_up hf y
theorem omp_up {jl : List Nat} {n : Nat} (hf : jl.length ≤ far) (o : O) : (o.mp up).mp (eof jl n) = o := by
  have hP : ∀ {κ : Type} (l : List (κ × V)), mpP (eof jl n) (mpP up l) = l := fun l => by
    unfold mpP
    rw [List.map_map]
    conv => rhs; rw [← List.map_id l]
    exact List.map_congr_left fun p _ => by simp only [Function.comp, mp_up hf, id]
  cases o with
  | list l => simp only [O.mp, mps_up hf]
  | sdict l => simp only [O.mp, hP]
  | idict l => simp only [O.mp, hP]
  | inst C l => simp only [O.mp, hP]
  | cell v => cases v <;> simp [O.mp, mp_up hf]
  | lam p b sc q cl =>
    refine congrArg (O.lam p b sc q) ?_
    unfold mpC
    rw [List.map_map]
    conv => rhs; rw [← List.map_id cl]
    exact List.map_congr_left fun p _ => by simp only [Function.comp, id, eof_up hf]
  | tab q => rfl
theorem MT.mp_up {jl : List Nat} {n : Nat} (hf : jl.length ≤ far) (t : MT) : (t.mp up).mp (eof jl n) = t := by
  obtain ⟨ops, begins, place, stk, N, A, B, C, heard, log, key, slots⟩ := t
  simp only [MT.mp, mps_up hf, Mine.mp_up hf, omp_up hf]
theorem far18 : (18 : Nat) ≤ far := by unfold far; lia
theorem seg_notab {t : MT} {w : String} (h : ∀ q, t.slots ≠ .tab q) : ∀ (i : Nat) (q : Str), (seg t w)[i]? ≠ some (.tab q) := by
  intro i q e
  have := List.mem_of_getElem? e
  unfold seg at this
  simp only [List.mem_cons, List.not_mem_nil, or_false] at this
  rcases this with h1 | h1 | h1 | h1 | h1 | h1 | h1 | h1 | h1 | h1 | h1 | h1 | h1 | h1 | h1 | h1 | h1 | h1
  all_goals first | (cases h1; done) | exact h q h1.symm
theorem Lie.in_ {b : Sto} {jl : List Nat} {t : MT} {w : String} (L : Lie b jl t w) : In b jl (seg (t.mp up) w) := by
  have hf : jl.length ≤ far := by rw [L.len]; exact far18
  refine ⟨L.len, L.nd, L.lt, fun i k o h1 h2 => ?_, fun i q h => (seg_notab (fun q h => L.slot q (omp_tab.mp h)) i q h).elim⟩
  refine L.get i k _ h1 ?_
  have h3 := congrArg (fun l => l[i]?) (seg_mp (eof jl b.length) (t.mp up) w)
  simp only [List.getElem?_map, h2, Option.map_some, MT.mp_up hf] at h3
  rw [segE_congr (e' := eof jl b.length) fun i hi => (eof_getD (by rw [L.len]; exact hi)).symm]
  exact h3.symm
theorem Lie.next {b b' : Sto} {jl : List Nat} {t t' : MT} {w w' : String} {new : Sto} (L : Lie b jl t w) (X : Out2 jl (seg (t.mp up) w) b (seg t' w' ++ new) b') (hs : ∀ q, t'.slots ≠ .tab q) : Lie b' jl (t'.mp (eof jl b.length)) w' := by
  refine ⟨L.len, L.nd, fun k hk => Nat.lt_of_lt_of_le (L.lt k hk) X.keep.1, fun i k o h1 h2 => ?_, fun q h => hs q (omp_tab.mp h)⟩
  have hi : i < 18 := by
    have := lt_of_get h2
    exact this
  rw [segE_congr (e' := eof jl b.length) fun i hi => (eof_getD (by rw [L.len]; exact hi)).symm, ← seg_mp] at h2
  rw [List.getElem?_map] at h2
  obtain ⟨o', h3, rfl⟩ := Option.map_eq_some_iff.mp h2
  have := X.get i o' (by rw [List.getElem?_append_left (by rw [seg_len]; exact hi)]; exact h3)
  rw [eof_in h1] at this
  exact this
theorem new_at {b b' a a' : Sto} {jl : List Nat} {new : Sto} (hl : jl.length = a'.length) (X : Out2 jl a b (a' ++ new) b') (hf : (a' ++ new).length ≤ far) (i : Nat) (o : O) (h : new[i]? = some o) : b'[b.length + i]? = some (o.mp (eof jl b.length)) := by
  have h1 := lt_of_get h
  have := X.get (a'.length + i) o (by rw [List.getElem?_append_right (by lia)]; simpa using h)
  rw [eof_new (by lia) (by simp at hf; lia)] at this
  rw [show b.length + i = b.length + (a'.length + i - jl.length) by lia]
  exact this
def Inc : Nat → List Nat → Prop
  | _, [] => True
  | a, k :: l => a ≤ k ∧ Inc (k + 1) l
theorem Inc.out : ∀ {l : List Nat} {a k : Nat}, Inc a l → k < a → k ∉ l
  | [], _, _, _, _ => fun h => by cases h
  | x :: l, a, k, ⟨h1, h2⟩, hk => fun h => by
    rcases List.mem_cons.mp h with rfl | h
    · lia
    · exact Inc.out h2 (by lia) h
theorem Inc.nodup : ∀ {l : List Nat} {a : Nat}, Inc a l → l.Nodup
  | [], _, _ => List.nodup_nil
  | x :: l, a, ⟨h1, h2⟩ => List.nodup_cons.mpr ⟨h2.out (Nat.lt_succ_self x), h2.nodup⟩
theorem nd_idx {S : List Nat} (h : S.Nodup) : ∀ (idx : List Nat), (decide idx.Nodup && idx.all fun i => Nat.blt i S.length) = true → (idx.map fun i => S.getD i 0).Nodup := fun idx hb => by
  rw [Bool.and_eq_true, decide_eq_true_iff, List.all_eq_true] at hb
  refine List.pairwise_map.mpr (hb.1.imp_of_mem fun {a b} ha hb' hab he => hab ?_)
  have h1 : a < S.length := Nat.le_of_ble_eq_true (hb.2 a ha)
  have h2 : b < S.length := Nat.le_of_ble_eq_true (hb.2 b hb')
  have e : S[a] = S[b] := by simpa [List.getD_eq_getElem?_getD, h1, h2] using he
  exact nd_inj h h1 h2 e
def Hold (b : Sto) : List Nat → Sto → Prop
  | [], [] => True
  | k :: ks, o :: os => b[k]? = some o ∧ Hold b ks os
  | _, _ => False
abbrev Got (b : Sto) (e : Nat → Nat) (jl : List Nat) (a : Sto) : Prop := Hold b jl (a.map (O.mp e))
def TabsOk : Nat → List Nat → Sto → Prop
  | i, k :: ks, .tab _ :: os => k = i ∧ TabsOk (i + 1) ks os
  | i, _ :: ks, _ :: os => TabsOk (i + 1) ks os
  | _, _, _ => True
theorem hold_at {b : Sto} (jl : List Nat) : ∀ {a : Sto}, Hold b jl a → jl.length = a.length ∧ (∀ k ∈ jl, k < b.length) ∧ ∀ (i k : Nat) (o : O), jl[i]? = some k → a[i]? = some o → b[k]? = some o := by
  induction jl with
  | nil =>
    intro a h
    cases a with
    | nil => exact ⟨rfl, fun k m => absurd m List.not_mem_nil, fun i k o m _ => by rw [List.getElem?_nil] at m; exact noS m⟩
    | cons => exact h.elim
  | cons k ks ih =>
    intro a h
    cases a with
    | nil => exact h.elim
    | cons o os =>
      obtain ⟨i1, i2, i3⟩ := ih h.2
      refine ⟨congrArg (· + 1) i1, List.forall_mem_cons.mpr ⟨lt_of_get h.1, i2⟩, fun i k' o' g1 g2 => ?_⟩
      cases i with
      | zero => rw [← sInj g1, ← sInj g2]; exact h.1
      | succ i => exact i3 i k' o' g1 g2
theorem tabs_at : ∀ {a : Sto} {jl : List Nat} {n : Nat}, jl.length = a.length → TabsOk n jl a → ∀ (i : Nat) (q : Str), a[i]? = some (.tab q) → jl[i]? = some (n + i)
  | [], _, _, _, _, i, q, h => by simp at h
  | o :: os, [], _, hl, _, _, _, _ => by simp at hl
  | o :: os, k :: ks, n, hl, ht, i, q, h => by
    have hl' : ks.length = os.length := by simpa using hl
    have ht' : TabsOk (n + 1) ks os := by cases o <;> first | exact ht | exact ht.2
    cases i with
    | zero =>
      cases h
      have : k = n := ht.1
      rw [this]; rfl
    | succ i =>
      have := tabs_at hl' ht' i q h
      rw [show n + (i + 1) = n + 1 + i by lia]
      exact this
theorem In.of {b a : Sto} {jl : List Nat} (nd : jl.Nodup) (t : TabsOk 0 jl a) (g : Got b (eof jl b.length) jl a) : In b jl a := by
  obtain ⟨g1, g2, g3⟩ := hold_at jl g
  rw [List.length_map] at g1
  exact ⟨g1, nd, g2, fun i k o h1 h2 => g3 i k _ h1 (by rw [List.getElem?_map, h2]; rfl), fun i q h => by have := tabs_at g1 t i q h; rw [Nat.zero_add] at this; exact this⟩
section
variable (lo : List Str) (K : Params → Frag)
def itMm (n : Nat) (ρ : Loc) : M (Fl × Loc) := M.bind (tstsM (GG lo K) FF (n + 15) f664 true [] (testOf whS) ρ) fun b => iteM b (blkM (GG lo K) FF (n + 15) f664 true [] 19 (bodyOf whS) ρ) Mine.stop
def thenM (m : M (Fl × Loc)) (f : Loc → M (Fl × Loc)) : M (Fl × Loc) := M.bind m fun p => match p.1 with
  | .next => f p.2
  | _ => Mine.stop
def it3M (n : Nat) (ρ : Loc) : M (Fl × Loc) := thenM (itMm lo K n ρ) fun ρ => thenM (itMm lo K n ρ) fun ρ => itMm lo K n ρ
def loopM (n k : Nat) (ρ : Loc) : M (Fl × Loc) := whileM (fun ρ => tstsM (GG lo K) FF (n + 15) f664 true [] (testOf whS) ρ) (fun ρ => blkM (GG lo K) FF (n + 15) f664 true [] 19 (bodyOf whS) ρ) k ρ
variable {lo K}
theorem it_tr {N : Nat} {e : Nat → Nat} (n : Nat) (ρ : Loc) : TrX (GG lo K) FF N e (mpF e) (itX lo K n ρ) (itMm lo K n (mpP e ρ)) :=
  .bind (tsts_tr G0_plain _ _ _ [] _ _) fun b => .ite (blk_tr G0_plain _ _ _ [] _ _ _) .stop
theorem then_tr {G : Pg} {F : Fs} {N : Nat} {e : Nat → Nat} {m : XM (Fl × Loc)} {m' : M (Fl × Loc)} {f : Loc → XM (Fl × Loc)} {f' : Loc → M (Fl × Loc)} (h : TrX G F N e (mpF e) m m') (hf : ∀ ρ, TrX G F N e (mpF e) (f ρ) (f' (mpP e ρ))) : TrX G F N e (mpF e) (thenX m f) (thenM m' f') :=
  .bind h fun p => by
    obtain ⟨fl, ρ⟩ := p
    cases fl with
    | next => exact hf ρ
    | brk => exact .stop
    | cont => exact .stop
    | ret y => exact .stop
theorem it3_tr {N : Nat} {e : Nat → Nat} (n : Nat) (ρ : Loc) : TrX (GG lo K) FF N e (mpF e) (it3X lo K n ρ) (it3M lo K n (mpP e ρ)) :=
  then_tr (it_tr n ρ) fun ρ => then_tr (it_tr n ρ) fun ρ => it_tr n ρ
theorem bindM_some {α β : Type} {m : M α} {f : α → M β} {b b' : Sto} {z : β} (h : M.bind m f b = some (.ok z, b')) : ∃ y b1, m b = some (.ok y, b1) ∧ f y b1 = some (.ok z, b') := by
  unfold M.bind at h
  split at h
  · exact noS h
  · rename_i e; exact ⟨_, _, e, h⟩
  · cases h
theorem loop_one {n k : Nat} {ρ ρ' : Loc} {b b' : Sto} (h : itMm lo K n ρ b = some (.ok (.next, ρ'), b')) : loopM lo K n (k + 1) ρ b = loopM lo K n k ρ' b' := by
  obtain ⟨v, b1, e1, e2⟩ := bindM_some h
  cases v with
  | false => cases e2
  | true =>
    have e2 : blkM (GG lo K) FF (n + 15) f664 true [] 19 (bodyOf whS) ρ b1 = some (.ok (.next, ρ'), b') := e2
    show whileM _ _ (k + 1) ρ b = _
    unfold whileM
    unfold M.bind
    have : noErr (tstsM (GG lo K) FF (n + 15) f664 true [] (testOf whS) ρ) b = some (.ok true, b1) := by unfold noErr; rw [e1]
    rw [this]
    show M.bind (noErr (blkM (GG lo K) FF (n + 15) f664 true [] 19 (bodyOf whS) ρ)) _ b1 = _
    unfold M.bind
    have : noErr (blkM (GG lo K) FF (n + 15) f664 true [] 19 (bodyOf whS) ρ) b1 = some (.ok (.next, ρ'), b') := by unfold noErr; rw [e2]
    rw [this]
    rfl
theorem then_some {m : M (Fl × Loc)} {f : Loc → M (Fl × Loc)} {b b' : Sto} {z : Fl × Loc} (h : thenM m f b = some (.ok z, b')) : ∃ ρ b1, m b = some (.ok (.next, ρ), b1) ∧ f ρ b1 = some (.ok z, b') := by
  obtain ⟨⟨fl, ρ⟩, b1, e1, e2⟩ := bindM_some h
  cases fl with
  | next => exact ⟨ρ, b1, e1, e2⟩
  | _ => cases e2
theorem loop_three {n k : Nat} {ρ ρ' : Loc} {b b' : Sto} (h : it3M lo K n ρ b = some (.ok (.next, ρ'), b')) : loopM lo K n (k + 3) ρ b = loopM lo K n k ρ' b' := by
  obtain ⟨ρ1, b1, e1, h⟩ := then_some h
  obtain ⟨ρ2, b2, e2, h⟩ := then_some h
  exact (loop_one (k := k + 2) e1).trans ((loop_one (k := k + 1) e2).trans (loop_one (k := k) h))
theorem getT {l : List V} {j : Int} {st : Sto} : getItV (.tup l) (.int j) st = lget j l := rfl
theorem getIt_tup {l : List V} {p : Nat} {op : V} (st : Sto) (hp : l[p]? = some op) (hl : l.length ≤ 1000) : getItV (.tup l) (.int (p : Int)) st = some op := by
  have hlt := (List.getElem?_eq_some_iff.mp hp).1
  have h1 : -(2 ^ 63) ≤ (p : Int) := by lia
  have h2 : (p : Int) < 2 ^ 63 := by lia
  have : seqIndex? (p : Int) l.length = some p := by
    unfold seqIndex?
    rw [if_neg (show ¬ (p : Int) < 0 by lia)]
    dsimp only
    rw [if_pos (by rw [Bool.and_eq_true, decide_eq_true_iff, decide_eq_true_iff]; lia)]
    simp
  rw [getT]
  unfold lget
  rw [if_pos ⟨h1, h2⟩, this, Option.bind_some, hp]
theorem len_tup {l : List V} (st : Sto) (hl : l.length ≤ 1000) : (callB true (.bi "len") [.tup l] st).map (·.1) = some (.int l.length) := by
  exact callB_len (if_pos (by unfold sizeLine; lia))
theorem fet_of {st : Sto} {ops : List V} {p : Nat} {s : Int} {op : V} {more : Prop} (hp : ops[p]? = some op) (hf : flatV op = true) (hs : s < 4000) (hl : ops.length ≤ 1000) (hm : more) : fet' st (V.mps up ops) (p : Int) s (ops.length : Int) op more := by
  have hlt := (List.getElem?_eq_some_iff.mp hp).1
  have h1 := mps_get (e := up) hp
  rw [flat_mp hf] at h1
  refine ⟨getIt_tup st h1 (by rw [mps_length]; exact hl), decide_eq_false (by lia), decide_eq_false (by lia), ?_, hm⟩
  have := len_tup (l := V.mps up ops) st (by rw [mps_length]; exact hl)
  rw [mps_length] at this
  exact this
structure AS where
  p : Nat
  stk : List V
  N : V
  A : Int
  B : Int
  C : Int
  log : List V
  slots : O
  rounds : List (Int × Int × Int)
inductive HeardAt (b : Sto) (jl : List Nat) (N : V) : List V → List (Int × Int × Int) → Prop
  | nil : HeardAt b jl N [] []
  | cons {k : Nat} {r : List V} {x : Int × Int × Int} {l : List (Int × Int × Int)} : k ∉ jl → b[k]? = some (.sdict (dicV N x.1 x.2.1 x.2.2)) → HeardAt b jl N r l → HeardAt b jl N (.hnd k :: r) (x :: l)
section
variable {b b' : Sto} {jl jm : List Nat} {N : V} {h h' : List V} {l l' : List (Int × Int × Int)}
theorem HeardAt.mono (H : HeardAt b jl N h l) (f : ∀ k o, V.hnd k ∈ h → k ∉ jl → b[k]? = some o → k ∉ jm ∧ b'[k]? = some o) : HeardAt b' jm N h l := by
  induction H with
  | nil => exact .nil
  | cons h1 h2 _ ih => exact .cons (f _ _ (.head _) h1 h2).1 (f _ _ (.head _) h1 h2).2 (ih fun k o m => f k o (.tail _ m))
theorem HeardAt.keep (k : Keep jl b b') (H : HeardAt b jl N h l) : HeardAt b' jl N h l := H.mono fun i o _ hn e => ⟨hn, k.2 i o hn e⟩
theorem HeardAt.off (hk : ∀ k, V.hnd k ∈ h → k ∉ jm) (H : HeardAt b jl N h l) : HeardAt b jm N h l := H.mono fun k _ m _ e => ⟨hk k m, e⟩
theorem HeardAt.append (x : HeardAt b jl N h' l') (H : HeardAt b jl N h l) : HeardAt b jl N (h ++ h') (l ++ l') := by
  induction H with
  | nil => exact x
  | cons h1 h2 _ ih => exact .cons h1 h2 ih
theorem HeardAt.length (H : HeardAt b jl N h l) : h.length = l.length := by
  induction H with
  | nil => rfl
  | cons _ _ _ ih => exact congrArg (· + 1) ih
theorem HeardAt.all (H : HeardAt b jl N h l) (k : Nat) (hk : V.hnd k ∈ h) : ∃ x : Int × Int × Int, b[k]? = some (.sdict (dicV N x.1 x.2.1 x.2.2)) := by
  induction H with
  | nil => cases hk
  | cons _ h2 _ ih =>
    rcases List.mem_cons.mp hk with e | hk
    · rw [sInj (congrArg V.hnd? e)]; exact ⟨_, h2⟩
    · exact ih hk
end
structure Cd where
  ops : List V
  begins : List V
def AS.mt (c : Cd) (a : AS) (heard : List V) (key : Str) : MT := ⟨c.ops, c.begins, a.p, a.stk, a.N, a.A, a.B, a.C, heard, a.log, key, a.slots⟩
structure Rel (c : Cd) (b : Sto) (jl : List Nat) (s : Int) (a : AS) : Prop where
  lie : ∃ heard key, Lie b jl (a.mt c heard key) "" ∧ HeardAt b jl a.N heard a.rounds
  log : (a.log.length : Int) ≤ s
  rnd : (a.rounds.length : Int) ≤ s
  stk : a.stk.length ≤ 1
  cod : c.ops.length ≤ 1000
def Steps (lo : List Str) (K : Params → Frag) (c : Cd) (a : AS) (j : Nat) (a' : AS) : Prop := ∀ (n : Nat) (b : Sto) (jl : List Nat) (s : Int) (o : Option V), Rel c b jl s a → 0 ≤ s → s + j ≤ 4000 →
  ∃ b' o', (∀ m, loopM lo K n (m + j) (rhoE (fun i => jl.getD i 0) s o) b = loopM lo K n m (rhoE (fun i => jl.getD i 0) (s + j) o') b') ∧ Rel c b' jl (s + j) a' ∧ Keep jl b b'
theorem Steps.refl {c : Cd} {a : AS} : Steps lo K c a 0 a := fun n b jl s o R h0 h1 => ⟨b, o, fun m => by simp, by simpa using R, .refl⟩
theorem Steps.trans {c : Cd} {a a1 a2 : AS} {j k : Nat} (h1 : Steps lo K c a j a1) (h2 : Steps lo K c a1 k a2) : Steps lo K c a (j + k) a2 := by
  intro n b jl s o R h0 hs
  obtain ⟨b1, o1, e1, R1, k1⟩ := h1 n b jl s o R h0 (by lia)
  obtain ⟨b2, o2, e2, R2, k2⟩ := h2 n b1 jl (s + j) o1 R1 (by lia) (by lia)
  refine ⟨b2, o2, fun m => ?_, ?_, k1.trans k2⟩
  · rw [show m + (j + k) = (m + k) + j by lia, e1, e2, show s + (j : Int) + (k : Int) = s + ((j + k : Nat) : Int) by lia]
  · rw [show s + ((j + k : Nat) : Int) = s + (j : Int) + (k : Int) by lia]; exact R2
theorem rho_up {jl : List Nat} {n : Nat} (h18 : jl.length = 18) (s : Int) (o : Option V) : mpP (eof jl n) (rhoX s (o.map (V.mp up))) = rhoE (fun i => jl.getD i 0) s o := by
  rw [rho_mp]
  have : (o.map (V.mp up)).map (V.mp (eof jl n)) = o := by
    cases o with
    | none => rfl
    | some y => simp only [Option.map_some, Mine.mp_up (show jl.length ≤ far by rw [h18]; exact far18)]
  rw [this]
  unfold rhoE
  simp only [eof_getD (show 0 < jl.length by lia), eof_getD (show 1 < jl.length by lia), eof_getD (show 2 < jl.length by lia), eof_getD (show 17 < jl.length by lia)]
theorem rho_some {jl : List Nat} {n : Nat} (h18 : jl.length = 18) (s : Int) {op : V} (hf : flatV op = true) : mpP (eof jl n) (rhoX s (some op)) = rhoE (fun i => jl.getD i 0) s (some op) := by
  rw [rho_mp, Option.map_some, flat_mp hf]
  unfold rhoE
  simp only [eof_getD (show 0 < jl.length by lia), eof_getD (show 1 < jl.length by lia), eof_getD (show 2 < jl.length by lia), eof_getD (show 17 < jl.length by lia)]
theorem Steps.one {c : Cd} {a a' : AS} {op : V} (hp : c.ops[a.p]? = some op) (hf : flatV op = true) (hl : a'.log.length ≤ a.log.length + 1) (hr : a'.rounds = a.rounds) (hN : a'.N = a.N) (hstk : a.stk.length ≤ 1 → a'.stk.length ≤ 1) (hsl : ∀ q, a'.slots ≠ .tab q)
    (h : ∀ (n : Nat) (jl : List Nat) (u : Nat) (heard : List V) (key : Str) (s : Int) (o : Option V), jl.length = 18 → a.stk.length ≤ 1 → a.log.length ≤ 4000 → 0 ≤ s → s < 4000 → (∀ st more, more → fet' st (V.mps up c.ops) (a.p : Int) s (c.ops.length : Int) op more) →
      ∃ ds t' cs, itX lo K n (rhoX s o) ⟨seg ((a.mt c heard key).mp up) "", ds, [], True⟩ = some ((.next, rhoX (s + 1) (some op)), ⟨seg t' "", [], [], cs⟩) ∧ cs ∧ t'.mp (eof jl u) = a'.mt c heard key) : Steps lo K c a 1 a' := by
  intro n b jl s o R h0 hs
  obtain ⟨⟨heard, key, L, HA⟩, hlog, hrnd, hst, hcod⟩ := R
  obtain ⟨ds, t', cs, e1, hc, e2⟩ := h n jl b.length heard key s (o.map (V.mp up)) L.len hst (by lia) h0 (by lia) (fun st more hm => fet_of hp hf (by lia) hcod hm)
  obtain ⟨b', e3, X⟩ := L.in_.run (mp := mpF) (m := itX lo K n (rhoX s (o.map (V.mp up)))) (m' := fun e => itMm lo K n (mpP e (rhoX s (o.map (V.mp up))))) (fun N e => it_tr n _) e1 hc (fun p hp => by cases hp) (by rw [seg_len]; exact far18)
  have e3 : itMm lo K n (mpP (eof jl b.length) (rhoX s (o.map (V.mp up)))) b = some (.ok (.next, mpP (eof jl b.length) (rhoX (s + 1) (some op))), b') := e3
  rw [rho_up L.len, rho_some L.len _ hf] at e3
  have L2 := Lie.next (new := []) L (by rw [List.append_nil]; exact X) (w' := "") (t' := t') (by
    intro q hq
    have := congrArg MT.slots e2
    have h2 : t'.slots.mp (eof jl b.length) = a'.slots := this
    rw [hq] at h2
    exact hsl q h2.symm)
  rw [e2] at L2
  refine ⟨b', some op, fun m => loop_one e3, ⟨⟨heard, key, L2, by rw [hN, hr]; exact HA.keep X.keep⟩, by lia, by rw [hr]; lia, hstk hst, hcod⟩, X.keep⟩
end
section
variable {lo : List Str} {K : Params → Frag} {c : Cd}
def AS.get (t : AS) : Nm → Int
  | .A => t.A
  | .B => t.B
  | .C => t.C
noncomputable def AS.put (t : AS) (x : Nm) (v : Int) : AS := match x with
  | .A => { t with A := v }
  | .B => { t with B := v }
  | .C => { t with C := v }
def AS.go (a : AS) (p : Nat) : AS := { a with p := p }
def AS.stack (a : AS) (l : List V) : AS := { a with stk := l }
def AS.say (a : AS) (x : String) : AS := { a with log := a.log ++ [s_ x] }
def AS.slot (a : AS) (o : O) : AS := { a with slots := o }
def AS.round (a : AS) : AS := { a with rounds := a.rounds ++ [(a.A, a.B, a.C)] }
def numT (x s : Int) : V := .tup [.int x, .int s]
theorem s_mp (e : Nat → Nat) (x : String) : (s_ x).mp e = s_ x := rfl
theorem log_ok {l : List V} (h : l.length ≤ 4000) : Nat.ble (V.mps up l).length sizeLine = true := Nat.ble_eq_true_of_le (by rw [mps_length]; unfold sizeLine; lia)
theorem stk_ok {l : List V} (h : l.length ≤ 1) : Nat.ble (V.mps up l).length sizeLine = true := Nat.ble_eq_true_of_le (by rw [mps_length]; unfold sizeLine; lia)
theorem far_of {jl : List Nat} (h : jl.length = 18) : jl.length ≤ far := by rw [h]; exact far18
theorem mt_back {jl : List Nat} {u : Nat} (hj : jl.length = 18) (t : MT) : (t.mp up).mp (eof jl u) = t := by
  obtain ⟨a, b, p, st, N, A, B, C, h, l, k, o⟩ := t
  show MT.mk (V.mps (eof jl u) (V.mps up a)) (V.mps (eof jl u) (V.mps up b)) p (V.mps (eof jl u) (V.mps up st)) ((N.mp up).mp (eof jl u)) A B C (V.mps (eof jl u) (V.mps up h)) (V.mps (eof jl u) (V.mps up l)) k ((o.mp up).mp (eof jl u)) = _
  rw [mps_up (far_of hj), mps_up (far_of hj), mps_up (far_of hj), mps_up (far_of hj), mps_up (far_of hj), Mine.mp_up (far_of hj), omp_up (far_of hj)]
theorem mp_say (e : Nat → Nat) (t : MT) (x : String) : (t.say x).mp e = (t.mp e).say x := congrArg (fun l => { t.mp e with log := l }) (mps_append _ _)
theorem stk_nil {a : AS} {heard : List V} {key : Str} (hs : a.stk = []) : ((a.mt c heard key).mp up).stk = [] := (congrArg (V.mps up) hs).trans rfl
theorem steps_push {a : AS} {x lab : Int} (hp : c.ops[a.p]? = some (opPush x lab)) (hs : a.stk = []) (ht : ∀ q, a.slots ≠ .tab q) : Steps lo K c a 1 (((a.go (a.p + 1)).say "").stack [numT x 0]) := by
  refine .one hp rfl (by simp [AS.say, AS.stack, AS.go]) rfl rfl (fun _ => by simp [AS.stack]) ht fun n jl u heard key s o hj hstk hlog h0 h1 hf => ?_
  refine ⟨_, _, _, st_push lo K n ((a.mt c heard key).mp up) s c.ops.length x lab o, ⟨stk_ok hstk, log_ok hlog, hf _ _ trivial⟩, ?_⟩
  rw [stk_nil hs]
  exact congrArg (fun t : MT => t.stack [numT x 0]) ((mp_say (eof jl u) (((a.mt c heard key).mp up).go ((a.p + 1 : Nat) : Int)) "").trans (congrArg (fun t : MT => (t.go ((a.p + 1 : Nat) : Int)).say "") (mt_back hj (a.mt c heard key))))
theorem steps_pushN {a : AS} (hp : c.ops[a.p]? = some opPushN) (hs : a.stk = []) (ht : ∀ q, a.slots ≠ .tab q) : Steps lo K c a 1 (((a.go (a.p + 1)).say "asked").stack [a.N]) := by
  refine .one hp rfl (by simp [AS.say, AS.stack, AS.go]) rfl rfl (fun _ => by simp [AS.stack]) ht fun n jl u heard key s o hj hstk hlog h0 h1 hf => ?_
  refine ⟨_, _, _, st_pushN lo K n ((a.mt c heard key).mp up) s c.ops.length o, ⟨stk_ok hstk, log_ok hlog, hf _ _ trivial⟩, ?_⟩
  rw [stk_nil hs]
  refine (congrArg (fun t : MT => t.stack [(a.N.mp up).mp (eof jl u)]) ((mp_say (eof jl u) (((a.mt c heard key).mp up).go ((a.p + 1 : Nat) : Int)) "asked").trans (congrArg (fun t : MT => (t.go ((a.p + 1 : Nat) : Int)).say "asked") (mt_back hj (a.mt c heard key))))).trans ?_
  rw [Mine.mp_up (far_of hj)]; rfl
theorem flat_put (x : Nm) (w : String) (lab : Int) : flatV (opPut x.str w lab) = true := by cases x <;> rfl
theorem flat_test (x : Nm) (v lab : Int) : flatV (opTest x.str v lab) = true := by cases x <;> rfl
theorem mt_put (e : Nat → Nat) (t : MT) (x : Nm) (v : Int) : (t.put x v).mp e = (t.mp e).put x v := by cases x <;> rfl
theorem as_put (c : Cd) (a : AS) (x : Nm) (v : Int) (h : List V) (k : Str) : (a.put x v).mt c h k = (a.mt c h k).put x v := by cases x <;> rfl
theorem put_p (a : AS) (x : Nm) (v : Int) : (a.put x v).log = a.log ∧ (a.put x v).rounds = a.rounds ∧ (a.put x v).N = a.N ∧ (a.put x v).stk = a.stk ∧ (a.put x v).slots = a.slots ∧ (a.put x v).p = a.p := by cases x <;> exact ⟨rfl, rfl, rfl, rfl, rfl, rfl⟩
theorem steps_let {a : AS} {v lab : Int} {x : Nm} (hp : c.ops[a.p]? = some (opPut x.str "=" lab)) (hs : a.stk = [numT v 0]) (hv : v ≤ 99) (ht : ∀ q, a.slots ≠ .tab q) : Steps lo K c a 1 (((a.go (a.p + 1)).stack []).put x v) := by
  obtain ⟨p1, p2, p3, p4, p5, p6⟩ := put_p ((a.go (a.p + 1)).stack []) x v
  refine .one hp (flat_put _ _ _) (by rw [p1]; simp [AS.go, AS.stack]) p2 p3 (fun _ => by rw [p4]; simp [AS.stack]) (by rw [p5]; exact ht) fun n jl u heard key s o hj hstk hlog h0 h1 hf => ?_
  have e1 : (a.mt c heard key).mp up = (((a.stack []).mt c heard key).mp up).stack [numT v 0] := congrArg (fun l => ((a.stack l).mt c heard key).mp up) hs
  rw [e1]
  refine ⟨_, _, _, st_let lo K n (((a.stack []).mt c heard key).mp up) s c.ops.length v lab x o, ⟨decide_eq_false (by lia), hf _ _ trivial⟩, ?_⟩
  rw [mt_put, as_put, Int.add_zero]
  exact congrArg (fun t : MT => (t.go ((a.p + 1 : Nat) : Int)).put x _) (mt_back hj ((a.stack []).mt c heard key))
theorem mt_get (e : Nat → Nat) (t : MT) (x : Nm) : (t.mp e).get x = t.get x := by cases x <;> rfl
theorem as_get (c : Cd) (a : AS) (x : Nm) (h : List V) (k : Str) : (a.mt c h k).get x = a.get x := by cases x <;> rfl
theorem steps_add {a : AS} {v lab : Int} {x : Nm} (hp : c.ops[a.p]? = some (opPut x.str "+" lab)) (hs : a.stk = [numT v 0]) (hv : v + a.get x ≤ 99) (ht : ∀ q, a.slots ≠ .tab q) : Steps lo K c a 1 (((a.go (a.p + 1)).stack []).put x (v + a.get x)) := by
  obtain ⟨p1, p2, p3, p4, p5, p6⟩ := put_p ((a.go (a.p + 1)).stack []) x (v + a.get x)
  refine .one hp (flat_put _ _ _) (by rw [p1]; simp [AS.go, AS.stack]) p2 p3 (fun _ => by rw [p4]; simp [AS.stack]) (by rw [p5]; exact ht) fun n jl u heard key s o hj hstk hlog h0 h1 hf => ?_
  have e1 : (a.mt c heard key).mp up = (((a.stack []).mt c heard key).mp up).stack [numT v 0] := congrArg (fun l => ((a.stack l).mt c heard key).mp up) hs
  rw [e1]
  have e2 : (((a.stack []).mt c heard key).mp up).get x = a.get x := by rw [mt_get, as_get]; cases x <;> rfl
  refine ⟨_, _, _, st_add lo K n (((a.stack []).mt c heard key).mp up) s c.ops.length v lab x o, ⟨decide_eq_false (by rw [e2]; lia), hf _ _ trivial⟩, ?_⟩
  rw [mt_put, as_put, e2]
  exact congrArg (fun t : MT => (t.go ((a.p + 1 : Nat) : Int)).put x _) (mt_back hj ((a.stack []).mt c heard key))
theorem steps_big {a : AS} {v : Int} {lab : Nat} {x : Nm} (hp : c.ops[a.p]? = some (opPut x.str "=" lab)) (hs : a.stk = [numT v 0]) (hv : 99 < v) (ht : ∀ q, a.slots ≠ .tab q) : Steps lo K c a 1 (((a.go lab).stack []).say "size") := by
  refine .one hp (flat_put _ _ _) (by simp [AS.say, AS.stack, AS.go]) rfl rfl (fun _ => by simp [AS.stack, AS.say]) ht fun n jl u heard key s o hj hstk hlog h0 h1 hf => ?_
  have e1 : (a.mt c heard key).mp up = (((a.stack []).mt c heard key).mp up).stack [numT v 0] := congrArg (fun l => ((a.stack l).mt c heard key).mp up) hs
  rw [e1]
  refine ⟨_, _, _, st_big lo K n (((a.stack []).mt c heard key).mp up) s c.ops.length v lab x o, ⟨log_ok hlog, decide_eq_true (by lia), hf _ _ trivial⟩, ?_⟩
  exact (mp_say (eof jl u) ((((a.stack []).mt c heard key).mp up).go (lab : Int)) "size").trans (congrArg (fun t : MT => (t.go (lab : Int)).say "size") (mt_back hj ((a.stack []).mt c heard key)))
theorem steps_yes {a : AS} {v lab : Int} {x : Nm} (hp : c.ops[a.p]? = some (opTest x.str v lab)) (hv : v < a.get x) (ht : ∀ q, a.slots ≠ .tab q) : Steps lo K c a 1 (a.go (a.p + 1)) := by
  refine .one hp (flat_test _ _ _) (by simp [AS.go]) rfl rfl id ht fun n jl u heard key s o hj hstk hlog h0 h1 hf => ?_
  refine ⟨_, _, _, st_yes lo K n ((a.mt c heard key).mp up) s c.ops.length v lab x o, ⟨by rw [mt_get, as_get]; simpa using hv, hf _ _ trivial⟩, ?_⟩
  exact congrArg (fun t : MT => t.go ((a.p + 1 : Nat) : Int)) (mt_back hj (a.mt c heard key))
theorem steps_no {a : AS} {v : Int} {lab : Nat} {x : Nm} (hp : c.ops[a.p]? = some (opTest x.str v lab)) (hv : ¬ v < a.get x) (ht : ∀ q, a.slots ≠ .tab q) : Steps lo K c a 1 (a.go lab) := by
  refine .one hp (flat_test _ _ _) (by simp [AS.go]) rfl rfl id ht fun n jl u heard key s o hj hstk hlog h0 h1 hf => ?_
  refine ⟨_, _, _, st_no lo K n ((a.mt c heard key).mp up) s c.ops.length v lab x o, ⟨by rw [mt_get, as_get]; simpa using hv, hf _ _ trivial⟩, ?_⟩
  exact congrArg (fun t : MT => t.go (lab : Int)) (mt_back hj (a.mt c heard key))
theorem steps_jump {a : AS} {lab : Nat} (hp : c.ops[a.p]? = some (opJump lab)) (ht : ∀ q, a.slots ≠ .tab q) : Steps lo K c a 1 (a.go lab) := by
  refine .one hp rfl (by simp [AS.go]) rfl rfl id ht fun n jl u heard key s o hj hstk hlog h0 h1 hf => ?_
  refine ⟨_, _, _, st_jump lo K n ((a.mt c heard key).mp up) s c.ops.length lab o, hf _ _ trivial, ?_⟩
  exact congrArg (fun t : MT => t.go (lab : Int)) (mt_back hj (a.mt c heard key))
theorem steps_count0 {a : AS} {x : Int} (hp : c.ops[a.p]? = some opCount) (hs : a.stk = [numT x 0]) (hx : x.natAbs < 2 ^ 60) (hsl : a.slots = .sdict []) : Steps lo K c a 1 (((a.go (a.p + 1)).stack []).slot (.idict [(0, .int x)])) := by
  refine .one hp rfl (by simp [AS.go, AS.stack, AS.slot]) rfl rfl (fun _ => by simp [AS.stack, AS.slot]) (fun q z => by cases z) fun n jl u heard key s o hj hstk hlog h0 h1 hf => ?_
  have e1 : (a.mt c heard key).mp up = ((((a.stack []).mt c heard key).mp up).stack [.tup [.int x, .int 0]]).slot (.sdict []) := (congrArg (fun l => ((a.stack l).mt c heard key).mp up) hs).trans (congrArg (fun o => (((a.stack [numT x 0]).slot o).mt c heard key).mp up) hsl)
  rw [e1]
  refine ⟨_, _, _, st_count0 lo K n (((a.stack []).mt c heard key).mp up) s c.ops.length x o, ⟨mulOk_l (by lia), hf _ _ trivial⟩, ?_⟩
  rw [show x * 10 ^ (0 - 0) = x from Int.mul_one x]
  exact congrArg (fun t : MT => (t.go ((a.p + 1 : Nat) : Int)).slot (.idict [(0, .int x)])) (mt_back hj ((a.stack []).mt c heard key))
theorem steps_count1 {a : AS} {x : Int} (hp : c.ops[a.p]? = some opCount) (hs : a.stk = [numT x 1]) (hsl : a.slots = .sdict []) :
    Steps lo K c a 1 (((a.go (a.p + 1)).stack []).slot (.idict [(0, .int (if x < 0 then -((-x).fdiv 10) else x.fdiv 10))])) := by
  refine .one hp rfl (by simp [AS.go, AS.stack, AS.slot]) rfl rfl (fun _ => by simp [AS.stack, AS.slot]) (fun q z => by cases z) fun n jl u heard key s o hj hstk hlog h0 h1 hf => ?_
  have e1 : (a.mt c heard key).mp up = ((((a.stack []).mt c heard key).mp up).stack [.tup [.int x, .int 1]]).slot (.sdict []) := (congrArg (fun l => ((a.stack l).mt c heard key).mp up) hs).trans (congrArg (fun o => (((a.stack [numT x 1]).slot o).mt c heard key).mp up) hsl)
  rw [e1]
  by_cases hx : x < 0
  · refine ⟨_, _, _, st_count2 lo K n (((a.stack []).mt c heard key).mp up) s c.ops.length x o, ⟨by simp [hx], hf _ _ trivial⟩, ?_⟩
    rw [if_pos hx, if_pos hx]
    exact congrArg (fun t : MT => (t.go ((a.p + 1 : Nat) : Int)).slot (.idict [(0, .int _)])) (mt_back hj ((a.stack []).mt c heard key))
  · refine ⟨_, _, _, st_count1 lo K n (((a.stack []).mt c heard key).mp up) s c.ops.length x o, ⟨by simp [hx], hf _ _ trivial⟩, ?_⟩
    rw [if_neg hx, if_neg hx]
    exact congrArg (fun t : MT => (t.go ((a.p + 1 : Nat) : Int)).slot (.idict [(0, .int _)])) (mt_back hj ((a.stack []).mt c heard key))
theorem steps_less {a : AS} {x lab : Int} (hp : c.ops[a.p]? = some (opLess lab)) (hx : 0 < x) (hsl : a.slots = .idict [(0, .int x)]) : Steps lo K c a 1 ((a.go (a.p + 1)).slot (.idict [(0, .int (x - 1))])) := by
  refine .one hp rfl (by simp [AS.go, AS.slot]) rfl rfl id (fun q z => by cases z) fun n jl u heard key s o hj hstk hlog h0 h1 hf => ?_
  have e1 : (a.mt c heard key).mp up = ((a.mt c heard key).mp up).slot (.idict [(0, .int x)]) := congrArg (fun o => ((a.slot o).mt c heard key).mp up) hsl
  rw [e1]
  refine ⟨_, _, _, st_less lo K n ((a.mt c heard key).mp up) s c.ops.length x lab o, ⟨decide_eq_true hx, hf _ _ trivial⟩, ?_⟩
  exact congrArg (fun t : MT => (t.go ((a.p + 1 : Nat) : Int)).slot (.idict [(0, .int (x - 1))])) (mt_back hj (a.mt c heard key))
theorem steps_less0 {a : AS} {x : Int} {lab : Nat} (hp : c.ops[a.p]? = some (opLess lab)) (hx : ¬ 0 < x) (hsl : a.slots = .idict [(0, .int x)]) : Steps lo K c a 1 (a.go lab) := by
  refine .one hp rfl (by simp [AS.go]) rfl rfl id (fun q z => by rw [show (a.go lab).slots = a.slots from rfl, hsl] at z; cases z) fun n jl u heard key s o hj hstk hlog h0 h1 hf => ?_
  have e1 : (a.mt c heard key).mp up = ((a.mt c heard key).mp up).slot (.idict [(0, .int x)]) := congrArg (fun o => ((a.slot o).mt c heard key).mp up) hsl
  rw [e1]
  refine ⟨_, _, _, st_less0 lo K n ((a.mt c heard key).mp up) s c.ops.length x lab o, ⟨decide_eq_false hx, hf _ _ trivial⟩, ?_⟩
  refine (congrArg (fun t : MT => (t.go (lab : Int)).slot (.idict [(0, .int x)])) (mt_back hj (a.mt c heard key))).trans ?_
  exact congrArg (fun o => ((a.go lab).slot o).mt c heard key) hsl.symm
theorem note {a a' : AS} {b : Sto} {jl : List Nat} {heard : List V} {key key' : Str} {m : XM (Fl × Loc)} {m' : (Nat → Nat) → M (Fl × Loc)} {ds : List (Nat × Dec)} {fl : Fl × Loc} {t' : MT} {new : Sto} {cs : Prop} {i : Nat}
    (L : Lie b jl (a.mt c heard key) "") (HA : HeardAt b jl a.N heard a.rounds) (T : ∀ N e, TrX (GG lo K) FF N e (mpF e) m (m' e)) (e1 : m ⟨seg ((a.mt c heard key).mp up) "", ds, [], True⟩ = some (fl, ⟨seg t' "" ++ new, [], [], cs⟩)) (hc : cs)
    (hn : new[i]? = some (.sdict (dicV (a.N.mp up) a.A a.B a.C))) (hl : new.length ≤ 10) (hr : a'.rounds = a.rounds ++ [(a.A, a.B, a.C)]) (hN : a'.N = a.N) (hsl : ∀ q, a'.slots ≠ .tab q)
    (e2 : t'.mp (eof jl b.length) = a'.mt c (heard ++ [.hnd (b.length + i)]) key') :
    ∃ b', m' (eof jl b.length) b = some (.ok (mpF (eof jl b.length) fl), b') ∧ Keep jl b b' ∧ ∃ heard' key', Lie b' jl (a'.mt c heard' key') "" ∧ HeardAt b' jl a'.N heard' a'.rounds := by
  have hfar : (seg t' "" ++ new).length ≤ far := by rw [List.length_append, seg_len]; unfold far; lia
  obtain ⟨b', e3, X⟩ := L.in_.run (mp := mpF) (m := m) (m' := m') T e1 hc (fun p hp => by cases hp) hfar
  have L2 := Lie.next L X (w' := "") (t' := t') (by
    intro q hq
    have h2 : t'.slots.mp (eof jl b.length) = a'.slots := congrArg MT.slots e2
    rw [hq] at h2
    exact hsl q h2.symm)
  rw [e2] at L2
  have hk := new_at (by rw [seg_len]; exact L.len) X hfar i _ hn
  refine ⟨b', e3, X.keep, _, _, L2, ?_⟩
  rw [hN, hr]
  refine .append (.cons (fun hm => ?_) ?_ .nil) (HA.keep X.keep)
  · have := L.lt _ hm; lia
  · rw [hk]
    simp only [O.mp, dicV, mpP, List.map_cons, List.map_nil, V.mp, Mine.mp_up (far_of L.len)]
theorem steps_do {a : AS} (hp : c.ops[a.p]? = some opDo) (ht : ∀ q, a.slots ≠ .tab q) : Steps lo K c a 1 (a.round.go (a.p + 1)) := by
  intro n b jl s o R h0 hs
  obtain ⟨⟨heard, key, L, HA⟩, hlog, hrnd, hst, hcod⟩ := R
  obtain ⟨b', e3, hk, heard', key', L2, HA2⟩ := note (a' := a.round.go (a.p + 1)) (key' := S "") (i := 0) L HA (fun N e => it_tr n _) (st_do lo K n ((a.mt c heard key).mp up) s c.ops.length (o.map (V.mp up)))
    ⟨Nat.ble_eq_true_of_le (by have := HA.length; simp only [MT.mp, AS.mt, mps_length]; unfold sizeLine; lia), fet_of hp rfl (by lia) hcod trivial⟩ rfl (by simp) rfl rfl ht (by
      simp [MT.mp, MT.go, MT.hear, AS.mt, AS.go, AS.round, mps_append, mps_up (far_of L.len), Mine.mp_up (far_of L.len), omp_up (far_of L.len), V.mps, V.mp]
      exact congrArg (fun k => MT.mk _ _ _ _ _ _ _ _ (heard ++ [V.hnd k]) _ _ _) (eof_new (by rw [L.len]; lia) (by unfold far; lia) |>.trans (by rw [L.len]; simp)))
  have e3 : itMm lo K n (mpP (eof jl b.length) (rhoX s (o.map (V.mp up)))) b = some (.ok (.next, mpP (eof jl b.length) (rhoX (s + 1) (some opDo))), b') := e3
  rw [rho_up L.len, rho_some L.len _ rfl] at e3
  exact ⟨b', some opDo, fun m => loop_one e3, ⟨⟨heard', key', L2, HA2⟩, by simp only [AS.go, AS.round]; lia, by simp only [AS.go, AS.round, List.length_append, List.length_singleton]; lia, hst, hcod⟩, hk⟩
theorem steps_perf {a : AS} {p1 : Nat} (hp : c.ops[a.p]? = some opPerf) (hb : c.begins = [.int 0, .int p1]) (h1 : c.ops[p1]? = some opDo) (h2 : c.ops[p1 + 1]? = some (opLeave 1)) (ht : ∀ q, a.slots ≠ .tab q) : Steps lo K c a 3 (a.round.go (a.p + 1)) := by
  intro n b jl s o R h0 hs
  obtain ⟨⟨heard, key, L, HA⟩, hlog, hrnd, hst, hcod⟩ := R
  have e1 : (a.mt c heard key).mp up = ((a.mt c heard key).mp up).begs p1 := by simp [AS.mt, MT.mp, MT.begs, hb, V.mps, V.mp]
  have X := st_perf lo K n ((a.mt c heard key).mp up) s c.ops.length p1 (o.map (V.mp up))
  rw [← e1] at X
  obtain ⟨b', e3, hk, heard', key', L2, HA2⟩ := note (a' := a.round.go (a.p + 1)) (key' := S "") (i := 2) L HA (fun N e => it3_tr n _) X
    (by
      have := HA.length
      have hq : ((p1 : Int) + 1) = ((p1 + 1 : Nat) : Int) := by lia
      rw [hq]
      exact fet_of h2 rfl (by lia) hcod ⟨Nat.ble_eq_true_of_le (by simp only [MT.mp, AS.mt, mps_length]; unfold sizeLine; lia), fet_of h1 rfl (by lia) hcod (by
        have h := fet_of (st := seg ((a.mt c heard key).mp up) "") hp rfl (show s < 4000 by lia) hcod trivial
        exact h)⟩) rfl (by simp) rfl rfl ht (by
      simp [MT.mp, MT.go, MT.hear, AS.mt, AS.go, AS.round, mps_append, mps_up (far_of L.len), Mine.mp_up (far_of L.len), omp_up (far_of L.len), V.mps, V.mp]
      exact congrArg (fun k => MT.mk _ _ _ _ _ _ _ _ (heard ++ [V.hnd k]) _ _ _) (eof_new (by rw [L.len]; lia) (by unfold far; lia) |>.trans (by rw [L.len])))
  have e3 : it3M lo K n (mpP (eof jl b.length) (rhoX s (o.map (V.mp up)))) b = some (.ok (.next, mpP (eof jl b.length) (rhoX (s + 1 + 1 + 1) (some (opLeave 1)))), b') := e3
  rw [rho_up L.len, rho_some L.len _ rfl] at e3
  refine ⟨b', some (opLeave 1), fun m => ?_, ⟨⟨heard', key', L2, HA2⟩, by simp only [AS.go, AS.round]; lia, by simp only [AS.go, AS.round, List.length_append, List.length_singleton]; lia, hst, hcod⟩, hk⟩
  rw [loop_three e3]
  congr 2
  lia
end
structure Row where
  x : Nm
  b : Int
  s : Int
  l : Int
inductive Shape where
  | once
  | times
  | ahead1 (l : Int)
  | behind1 (l : Int)
  | vary (aft : Bool) (rows : List Row)
def goalOp : Bool → V
  | true => opDo
  | false => opPerf
def goalV : Bool → V
  | true => .tup [s_ "body", .tup [said]]
  | false => .tup [s_ "range", .tup [s_ "P", s_ ""], .tup [s_ "P", s_ ""]]
def rowV (r : Row) : V := .tup [refV r.x.str, numV r.b, numV r.s, condV r.x.str r.l]
def loopV : Shape → V
  | .once => .tup [s_ "once"]
  | .times => .tup [s_ "times", refV "N"]
  | .ahead1 l => .tup [s_ "until", .bool false, condV "A" l]
  | .behind1 l => .tup [s_ "until", .bool true, condV "A" l]
  | .vary aft rows => .tup [s_ "varying", .bool aft, .tup (rows.map rowV)]
def nat (n : Nat) : Int := n
noncomputable def codeOf (g : Bool) : Shape → List V
  | .once => [goalOp g]
  | .times => [opPushN, opCount, opLess 5, goalOp g, opJump 2]
  | .ahead1 l => [opTest "A" l 2, opJump 4, goalOp g, opJump 0]
  | .behind1 l => [goalOp g, opTest "A" l 0]
  | .vary false [r] => [opPush r.b 2, opPut r.x.str "=" 2, opTest r.x.str r.l 4, opJump 8, goalOp g, opPush r.s 7, opPut r.x.str "+" 7, opJump 2]
  | .vary false [r, r2] => [opPush r.b 2, opPut r.x.str "=" 2, opPush r2.b 4, opPut r2.x.str "=" 4, opTest r.x.str r.l 6, opJump 17, opTest r2.x.str r2.l 8, opJump 12, goalOp g, opPush r2.s 11, opPut r2.x.str "+" 11, opJump 6,
      opPush r.s 14, opPut r.x.str "+" 14, opPush r2.b 16, opPut r2.x.str "=" 16, opJump 4]
  | .vary false [r, r2, r3] => [opPush r.b 2, opPut r.x.str "=" 2, opPush r2.b 4, opPut r2.x.str "=" 4, opPush r3.b 6, opPut r3.x.str "=" 6, opTest r.x.str r.l 8, opJump 26, opTest r2.x.str r2.l 10, opJump 21, opTest r3.x.str r3.l 12, opJump 16, goalOp g, opPush r3.s 15, opPut r3.x.str "+" 15, opJump 10,
      opPush r2.s 18, opPut r2.x.str "+" 18, opPush r3.b 20, opPut r3.x.str "=" 20, opJump 8, opPush r.s 23, opPut r.x.str "+" 23, opPush r2.b 25, opPut r2.x.str "=" 25, opJump 6]
  | .vary true [r] => [opPush r.b 2, opPut r.x.str "=" 2, goalOp g, opTest r.x.str r.l 5, opJump 8, opPush r.s 7, opPut r.x.str "+" 7, opJump 2]
  | .vary true [r, r2] => [opPush r.b 2, opPut r.x.str "=" 2, opPush r2.b 4, opPut r2.x.str "=" 4, goalOp g, opTest r2.x.str r2.l 7, opJump 10, opPush r2.s 9, opPut r2.x.str "+" 9, opJump 4,
      opTest r.x.str r.l 12, opJump 17, opPush r.s 14, opPut r.x.str "+" 14, opPush r2.b 16, opPut r2.x.str "=" 16, opJump 4]
  | .vary true [r, r2, r3] => [opPush r.b 2, opPut r.x.str "=" 2, opPush r2.b 4, opPut r2.x.str "=" 4, opPush r3.b 6, opPut r3.x.str "=" 6, goalOp g, opTest r3.x.str r3.l 9, opJump 12, opPush r3.s 11, opPut r3.x.str "+" 11, opJump 6,
      opTest r2.x.str r2.l 14, opJump 19, opPush r2.s 16, opPut r2.x.str "+" 16, opPush r3.b 18, opPut r3.x.str "=" 18, opJump 6,
      opTest r.x.str r.l 21, opJump 28, opPush r.s 23, opPut r.x.str "+" 23, opPush r2.b 25, opPut r2.x.str "=" 25, opPush r3.b 27, opPut r3.x.str "=" 27, opJump 6]
  | _ => []
def tailOps : List V := [opStop "stop", opLeave 0, opDo, opLeave 1, opStop "end"]
def cdOf (g : Bool) (sh : Shape) : Cd := ⟨codeOf g sh ++ tailOps, [.int 0, .int ((codeOf g sh).length + 2 : Nat)]⟩
def procSeg (q : Str) (g : Bool) (sh : Shape) : Sto := [.tab q, .inst 688 [(S "name", s_ "A"), (S "section", s_ ""), (S "statements", .tup [.tup [s_ "perform", goalV g, loopV sh], .tup [s_ "stop"]])],
  .inst 688 [(S "name", s_ "P"), (S "section", s_ ""), (S "statements", .tup [said])], .list [.hnd 1, .hnd 2], .inst 728 [(S "rows", .hnd 3), (S "using", .tup [])]]
def q0s : Str := S "Draft.finished" ++ ".<locals>." ++ "<lambda>"
section
variable (lo : List Str) (K : Params → Frag)
def compR (n : Nat) (g : Bool) (sh : Shape) := callX (GG lo K) FF (n + 20) true (.glob 326) [.hnd 4] ⟨procSeg q0s g sh, [], [], True⟩
def stOf {α : Type} (r : Option (α × XS)) : Sto := match r with
  | some (_, x) => x.st
  | none => []
def compG (g : Bool) (sh : Shape) : Sto := (((stOf (compR [] (fun _ => []) 0 g sh)).drop 5).dropLast).take 500
theorem compG_len (g : Bool) (sh : Shape) : (compG g sh).length ≤ 500 := List.length_take_le _ _
def codeO' (c : Cd) : O := .inst 138 [(S "ops", .tup c.ops), (S "begins", .tup c.begins)]
def compSays (n : Nat) (g : Bool) (sh : Shape) : Prop := compR lo K n g sh = some (.hnd (5 + (compG g sh).length), ⟨procSeg q0s g sh ++ compG g sh ++ [codeO' (cdOf g sh)], [], [], True⟩)
theorem comp_once (n : Nat) (g : Bool) : compSays lo K n g .once := by cases g <;> (unfold compSays; kernel_rfl)
theorem comp_times (n : Nat) (g : Bool) : compSays lo K n g .times := by cases g <;> (unfold compSays; kernel_rfl)
theorem comp_ahead1 (n : Nat) (g : Bool) (l : Int) : compSays lo K n g (.ahead1 l) := by cases g <;> (unfold compSays; kernel_rfl)
theorem comp_behind1 (n : Nat) (g : Bool) (l : Int) : compSays lo K n g (.behind1 l) := by cases g <;> (unfold compSays; kernel_rfl)
theorem comp_v1 (n : Nat) (g : Bool) (r : Row) : compSays lo K n g (.vary false [r]) := by cases g <;> (unfold compSays; kernel_rfl)
theorem comp_v2 (n : Nat) (g : Bool) (r r2 : Row) : compSays lo K n g (.vary false [r, r2]) := by cases g <;> (unfold compSays; kernel_rfl)
theorem comp_v3 (n : Nat) (g : Bool) (r r2 r3 : Row) : compSays lo K n g (.vary false [r, r2, r3]) := by cases g <;> (unfold compSays; kernel_rfl)
theorem comp_w1 (n : Nat) (g : Bool) (r : Row) : compSays lo K n g (.vary true [r]) := by cases g <;> (unfold compSays; kernel_rfl)
theorem comp_w2 (n : Nat) (g : Bool) (r r2 : Row) : compSays lo K n g (.vary true [r, r2]) := by cases g <;> (unfold compSays; kernel_rfl)
theorem comp_w3 (n : Nat) (g : Bool) (r r2 r3 : Row) : compSays lo K n g (.vary true [r, r2, r3]) := by cases g <;> (unfold compSays; kernel_rfl)
end
structure D where
  A : Int
  B : Int
  C : Int
def D.get (d : D) : Nm → Int
  | .A => d.A
  | .B => d.B
  | .C => d.C
def D.put (d : D) (x : Nm) (v : Int) : D := match x with
  | .A => { d with A := v }
  | .B => { d with B := v }
  | .C => { d with C := v }
def D.sn (d : D) : Int × Int × Int := (d.A, d.B, d.C)
def D.add (d : D) (r : Row) : D := d.put r.x (d.get r.x + r.s)
def D.set (d : D) (r : Row) : D := if r.b ≤ 99 then d.put r.x r.b else d
def D.sets (d : D) : List Row → D
  | [] => d
  | r :: rs => (d.set r).sets rs
inductive Ahead (gk : Nat) : List Row → D → D → List (Int × Int × Int) → Nat → Prop where
  | stop {r : Row} {rs : List Row} {d : D} : r.l < d.get r.x → Ahead gk (r :: rs) d d [] 2
  | last {r : Row} {d d' : D} {w : List (Int × Int × Int)} {k : Nat} : ¬ r.l < d.get r.x → d.get r.x + r.s ≤ 99 → Ahead gk [r] (d.add r) d' w k → Ahead gk [r] d d' (d.sn :: w) (1 + gk + 3 + k)
  | step {r r2 : Row} {rs : List Row} {d d1 d' : D} {w1 w : List (Int × Int × Int)} {k1 k : Nat} : ¬ r.l < d.get r.x → Ahead gk (r2 :: rs) d d1 w1 k1 → d1.get r.x + r.s ≤ 99 → Ahead gk (r :: r2 :: rs) ((d1.add r).set r2) d' w k →
      Ahead gk (r :: r2 :: rs) d d' (w1 ++ w) (1 + k1 + 5 + k)
inductive Behind (gk : Nat) : List Row → D → D → List (Int × Int × Int) → Nat → Prop where
  | nil {d : D} : Behind gk [] d d [d.sn] gk
  | over {r : Row} {rs : List Row} {d d1 : D} {w : List (Int × Int × Int)} {k : Nat} : Behind gk rs d d1 w k → r.l < d1.get r.x → Behind gk (r :: rs) d d1 w (k + 2)
  | again {r : Row} {rs : List Row} {d d1 d' : D} {w1 w : List (Int × Int × Int)} {k1 k : Nat} : Behind gk rs d d1 w1 k1 → ¬ r.l < d1.get r.x → d1.get r.x + r.s ≤ 99 → Behind gk (r :: rs) ((d1.add r).sets rs) d' w k →
      Behind gk (r :: rs) d d' (w1 ++ w) (k1 + (1 + 2 + 2 * rs.length + 1) + k)
def AS.d (a : AS) : D := ⟨a.A, a.B, a.C⟩
structure Calm (a : AS) (p : Nat) (d : D) : Prop where
  p : a.p = p
  d : a.d = d
  stk : a.stk = []
  slots : a.slots = .sdict []
def Does (lo : List Str) (K : Params → Frag) (c : Cd) (p : Nat) (d : D) (k : Nat) (q : Nat) (d' : D) (w : List (Int × Int × Int)) : Prop := ∀ a, Calm a p d → ∃ a', Steps lo K c a k a' ∧ Calm a' q d' ∧ a'.rounds = a.rounds ++ w ∧ a'.N = a.N
section
variable {lo : List Str} {K : Params → Frag} {c : Cd}
theorem Calm.ht {a : AS} {p : Nat} {d : D} (h : Calm a p d) : ∀ q, a.slots ≠ .tab q := fun q e => by rw [h.slots] at e; cases e
theorem Does.refl {p : Nat} {d : D} : Does lo K c p d 0 p d [] := fun a h => ⟨a, .refl, h, by simp, rfl⟩
theorem Does.trans {p q r : Nat} {d d1 d2 : D} {j k : Nat} {w w' : List (Int × Int × Int)} (h1 : Does lo K c p d j q d1 w) (h2 : Does lo K c q d1 k r d2 w') : Does lo K c p d (j + k) r d2 (w ++ w') := fun a h => by
  obtain ⟨a1, s1, c1, r1, n1⟩ := h1 a h
  obtain ⟨a2, s2, c2, r2, n2⟩ := h2 a1 c1
  exact ⟨a2, s1.trans s2, c2, by rw [r2, r1, List.append_assoc], by rw [n2, n1]⟩
theorem Does.eq {p q : Nat} {d d1 : D} {j k : Nat} {w w' : List (Int × Int × Int)} (h : Does lo K c p d j q d1 w) (hj : j = k) (hw : w = w') : Does lo K c p d k q d1 w' := hj ▸ hw ▸ h
theorem get_d {a : AS} {p : Nat} {d : D} (h : Calm a p d) (x : Nm) : a.get x = d.get x := by rw [← h.d]; cases x <;> rfl
theorem put_d (a : AS) (x : Nm) (v : Int) : (a.put x v).d = a.d.put x v := by cases x <;> rfl
theorem does_add {p : Nat} {r : Row} {d : D} {lab lab' : Int} (h1 : c.ops[p]? = some (opPush r.s lab)) (h2 : c.ops[p + 1]? = some (opPut r.x.str "+" lab')) (hv : d.get r.x + r.s ≤ 99) : Does lo K c p d 2 (p + 2) (d.add r) [] := fun a h => by
  obtain ⟨hp, hd, hs, hsl⟩ := h
  subst hp
  have s1 := steps_push (lo := lo) (K := K) h1 hs (Calm.ht ⟨rfl, hd, hs, hsl⟩)
  have e : (((a.go (a.p + 1)).say "").stack [numT r.s 0]).get r.x = d.get r.x := by rw [← hd]; cases r.x <;> rfl
  have s2 := steps_add (lo := lo) (K := K) (a := ((a.go (a.p + 1)).say "").stack [numT r.s 0]) (x := r.x) h2 rfl (by rw [e]; lia) (fun q z => by rw [show (((a.go (a.p + 1)).say "").stack [numT r.s 0]).slots = a.slots from rfl, hsl] at z; cases z)
  obtain ⟨p1, p2, p3, p4, p5, p6⟩ := put_p (((((a.go (a.p + 1)).say "").stack [numT r.s 0]).go (((a.go (a.p + 1)).say "").stack [numT r.s 0]).p.succ).stack []) r.x (r.s + (((a.go (a.p + 1)).say "").stack [numT r.s 0]).get r.x)
  refine ⟨_, s1.trans s2, ⟨p6, ?_, p4, p5.trans hsl⟩, by rw [p2]; simp [AS.go, AS.stack, AS.say], p3⟩
  rw [put_d, e]
  show a.d.put _ _ = _
  rw [hd, D.add, Int.add_comm]
theorem does_set {p : Nat} {r : Row} {d : D} {lab : Int} (h1 : c.ops[p]? = some (opPush r.b lab)) (h2 : c.ops[p + 1]? = some (opPut r.x.str "=" (p + 2 : Nat))) : Does lo K c p d 2 (p + 2) (d.set r) [] := fun a h => by
  obtain ⟨hp, hd, hs, hsl⟩ := h
  subst hp
  have s1 := steps_push (lo := lo) (K := K) h1 hs (Calm.ht ⟨rfl, hd, hs, hsl⟩)
  have ht : ∀ q, (((a.go (a.p + 1)).say "").stack [numT r.b 0]).slots ≠ .tab q := fun q z => by rw [show (((a.go (a.p + 1)).say "").stack [numT r.b 0]).slots = a.slots from rfl, hsl] at z; cases z
  unfold D.set
  split
  · rename_i hb
    have s2 := steps_let (lo := lo) (K := K) (a := ((a.go (a.p + 1)).say "").stack [numT r.b 0]) (x := r.x) h2 rfl hb ht
    obtain ⟨p1, p2, p3, p4, p5, p6⟩ := put_p (((((a.go (a.p + 1)).say "").stack [numT r.b 0]).go (((a.go (a.p + 1)).say "").stack [numT r.b 0]).p.succ).stack []) r.x r.b
    refine ⟨_, s1.trans s2, ⟨p6, ?_, p4, p5.trans hsl⟩, by rw [p2]; simp [AS.go, AS.stack, AS.say], p3⟩
    rw [put_d]
    show a.d.put _ _ = _
    rw [hd]
  · rename_i hb
    have s2 := steps_big (lo := lo) (K := K) (a := ((a.go (a.p + 1)).say "").stack [numT r.b 0]) (x := r.x) h2 rfl (by lia) ht
    exact ⟨_, s1.trans s2, ⟨rfl, hd, rfl, hsl⟩, by simp [AS.go, AS.stack, AS.say], rfl⟩
theorem does_jump {p q : Nat} {d : D} (h1 : c.ops[p]? = some (opJump q)) : Does lo K c p d 1 q d [] := fun a h => by
  obtain ⟨hp, hd, hs, hsl⟩ := h
  subst hp
  exact ⟨_, steps_jump (lo := lo) (K := K) h1 (Calm.ht ⟨rfl, hd, hs, hsl⟩), ⟨rfl, hd, hs, hsl⟩, by simp [AS.go], rfl⟩
theorem does_over {p q : Nat} {d : D} {r : Row} {lab : Int} (h1 : c.ops[p]? = some (opTest r.x.str r.l lab)) (h2 : c.ops[p + 1]? = some (opJump q)) (hv : r.l < d.get r.x) : Does lo K c p d 2 q d [] := fun a h => by
  have hg := get_d h r.x
  obtain ⟨hp, hd, hs, hsl⟩ := h
  subst hp
  have s1 := steps_yes (lo := lo) (K := K) h1 (by rw [hg]; exact hv) (Calm.ht ⟨rfl, hd, hs, hsl⟩)
  obtain ⟨a', s2, c2, r2, n2⟩ := does_jump (lo := lo) (K := K) (d := d) h2 (a.go (a.p + 1)) ⟨rfl, hd, hs, hsl⟩
  exact ⟨a', s1.trans s2, c2, r2, n2⟩
theorem does_go {p q : Nat} {d : D} {r : Row} (h1 : c.ops[p]? = some (opTest r.x.str r.l q)) (hv : ¬ r.l < d.get r.x) : Does lo K c p d 1 q d [] := fun a h => by
  have hg := get_d h r.x
  obtain ⟨hp, hd, hs, hsl⟩ := h
  subst hp
  exact ⟨_, steps_no (lo := lo) (K := K) h1 (by rw [hg]; exact hv) (Calm.ht ⟨rfl, hd, hs, hsl⟩), ⟨rfl, hd, hs, hsl⟩, by simp [AS.go], rfl⟩
def gkOf : Bool → Nat
  | true => 1
  | false => 3
structure Para (c : Cd) : Prop where
  at_ : ∃ p1 : Nat, c.begins = [.int 0, .int p1] ∧ c.ops[p1]? = some opDo ∧ c.ops[p1 + 1]? = some (opLeave 1)
theorem does_goal {p : Nat} {d : D} {g : Bool} (hP : Para c) (h1 : c.ops[p]? = some (goalOp g)) : Does lo K c p d (gkOf g) (p + 1) d [d.sn] := fun a h => by
  obtain ⟨hp, hd, hs, hsl⟩ := h
  subst hp
  have hsn : (a.A, a.B, a.C) = d.sn := by rw [← hd]; rfl
  cases g with
  | true => exact ⟨_, steps_do (lo := lo) (K := K) h1 (Calm.ht ⟨rfl, hd, hs, hsl⟩), ⟨rfl, hd, hs, hsl⟩, by simp [AS.go, AS.round, hsn], rfl⟩
  | false =>
    obtain ⟨p1, q1, q2, q3⟩ := hP.at_
    exact ⟨_, steps_perf (lo := lo) (K := K) h1 q1 q2 q3 (Calm.ht ⟨rfl, hd, hs, hsl⟩), ⟨rfl, hd, hs, hsl⟩, by simp [AS.go, AS.round, hsn], rfl⟩
def ACode (c : Cd) (g : Bool) : List Row → Nat → Nat → Prop
  | [], _, _ => False
  | [r], ck, ov => c.ops[ck]? = some (opTest r.x.str r.l (ck + 2 : Nat)) ∧ c.ops[ck + 1]? = some (opJump ov) ∧ c.ops[ck + 2]? = some (goalOp g) ∧ (∃ lab, c.ops[ck + 3]? = some (opPush r.s lab)) ∧ (∃ lab, c.ops[ck + 4]? = some (opPut r.x.str "+" lab)) ∧ c.ops[ck + 5]? = some (opJump ck)
  | r :: r2 :: rs, ck, ov => c.ops[ck]? = some (opTest r.x.str r.l (ck + 2 : Nat)) ∧ c.ops[ck + 1]? = some (opJump ov) ∧ ∃ ov2, ACode c g (r2 :: rs) (ck + 2) ov2 ∧ (∃ lab, c.ops[ov2]? = some (opPush r.s lab)) ∧ (∃ lab, c.ops[ov2 + 1]? = some (opPut r.x.str "+" lab)) ∧
      (∃ lab, c.ops[ov2 + 2]? = some (opPush r2.b lab)) ∧ c.ops[ov2 + 3]? = some (opPut r2.x.str "=" (ov2 + 4 : Nat)) ∧ c.ops[ov2 + 4]? = some (opJump ck)
theorem ahead_does {g : Bool} (hP : Para c) {rows : List Row} {d d' : D} {w : List (Int × Int × Int)} {k : Nat} (h : Ahead (gkOf g) rows d d' w k) : ∀ {ck ov : Nat}, ACode c g rows ck ov → Does lo K c ck d k ov d' w := by
  induction h with
  | @stop r rs d hv =>
    intro ck ov hc
    cases rs with
    | nil => exact does_over hc.1 hc.2.1 hv
    | cons r2 rs => exact does_over hc.1 hc.2.1 hv
  | @last r d d' w k hv hs _ ih =>
    intro ck ov hc
    obtain ⟨c1, c2, c3, ⟨_, c4⟩, ⟨_, c5⟩, c6⟩ := hc
    exact ((((does_go c1 hv).trans (does_goal hP c3)).trans (does_add c4 c5 hs)).trans ((does_jump c6).trans (ih ⟨c1, c2, c3, ⟨_, c4⟩, ⟨_, c5⟩, c6⟩))).eq (by lia) (by simp)
  | @step r r2 rs d d1 d' w1 w k1 k hv _ hs _ ih1 ih2 =>
    intro ck ov hc
    obtain ⟨c1, c2, ov2, c3, ⟨_, c4⟩, ⟨_, c5⟩, ⟨_, c6⟩, c7, c8⟩ := hc
    exact (((((does_go c1 hv).trans (ih1 c3)).trans (does_add c4 c5 hs)).trans (does_set c6 c7)).trans ((does_jump c8).trans (ih2 ⟨c1, c2, ov2, c3, ⟨_, c4⟩, ⟨_, c5⟩, ⟨_, c6⟩, c7, c8⟩))).eq (by lia) (by simp)
def SCode (c : Cd) : List Row → Nat → Prop
  | [], _ => True
  | r :: rs, p => (∃ lab, c.ops[p]? = some (opPush r.b lab)) ∧ c.ops[p + 1]? = some (opPut r.x.str "=" (p + 2 : Nat)) ∧ SCode c rs (p + 2)
theorem does_sets : ∀ {rs : List Row} {p : Nat} {d : D}, SCode c rs p → Does lo K c p d (2 * rs.length) (p + 2 * rs.length) (d.sets rs) []
  | [], p, d, _ => Does.refl
  | r :: rs, p, d, ⟨⟨_, h1⟩, h2, h3⟩ => by
    have := (does_set (lo := lo) (K := K) (d := d) h1 h2).trans (does_sets (d := d.set r) h3)
    rw [show p + 2 * (r :: rs).length = p + 2 + 2 * rs.length by simp; lia]
    exact this.eq (by simp; lia) rfl
def BCode (c : Cd) (g : Bool) : List Row → Nat → Nat → Prop
  | [], ag, q => c.ops[ag]? = some (goalOp g) ∧ q = ag + 1
  | r :: rs, ag, ov => ∃ bp, BCode c g rs ag bp ∧ c.ops[bp]? = some (opTest r.x.str r.l (bp + 2 : Nat)) ∧ c.ops[bp + 1]? = some (opJump ov) ∧ (∃ lab, c.ops[bp + 2]? = some (opPush r.s lab)) ∧ (∃ lab, c.ops[bp + 3]? = some (opPut r.x.str "+" lab)) ∧ SCode c rs (bp + 4) ∧
      c.ops[bp + 4 + 2 * rs.length]? = some (opJump ag)
theorem behind_does {g : Bool} (hP : Para c) {rows : List Row} {d d' : D} {w : List (Int × Int × Int)} {k : Nat} (h : Behind (gkOf g) rows d d' w k) : ∀ {ag ov : Nat}, BCode c g rows ag ov → Does lo K c ag d k ov d' w := by
  induction h with
  | nil =>
    intro ag ov hc
    obtain ⟨c1, rfl⟩ := hc
    exact does_goal hP c1
  | over _ hv ih =>
    intro ag ov hc
    obtain ⟨bp, c1, c2, c3, _⟩ := hc
    exact ((ih c1).trans (does_over c2 c3 hv)).eq rfl (by simp)
  | again _ hv hs _ ih1 ih2 =>
    intro ag ov hc
    obtain ⟨bp, c1, c2, c3, ⟨_, c4⟩, ⟨_, c5⟩, c6, c7⟩ := hc
    exact (((((ih1 c1).trans (does_go c2 hv)).trans (does_add c4 c5 hs)).trans (does_sets c6)).trans ((does_jump c7).trans (ih2 ⟨bp, c1, c2, c3, ⟨_, c4⟩, ⟨_, c5⟩, c6, c7⟩))).eq (by lia) (by simp)
end
theorem get_put (d : D) (x y : Nm) (v : Int) : (d.put x v).get y = if x = y then v else d.get y := by
  cases x <;> cases y <;> rfl
theorem get_add (d : D) (r : Row) (y : Nm) : (d.add r).get y = if r.x = y then d.get r.x + r.s else d.get y := by
  unfold D.add; rw [get_put]
structure RowOk (r : Row) : Prop where
  s0 : 1 ≤ r.s
  s1 : r.s ≤ 2
  l0 : -1 ≤ r.l
  l1 : r.l ≤ 6
  b0 : 0 ≤ r.b
def D.Ok (d : D) : Prop := ∀ x, 0 ≤ d.get x
theorem ok_add {d : D} {r : Row} (h : d.Ok) (hr : RowOk r) : (d.add r).Ok := fun y => by
  rw [get_add]; split
  · have := h r.x; have := hr.s0; lia
  · exact h y
theorem get_set_ne {d : D} {r : Row} {y : Nm} (h : r.x ≠ y) : (d.set r).get y = d.get y := by
  unfold D.set
  split
  · rw [get_put, if_neg h]
  · rfl
theorem ok_set {d : D} {r : Row} (h : d.Ok) (hr : RowOk r) : (d.set r).Ok := fun y => by
  unfold D.set
  split
  · rw [get_put]; split
    · exact hr.b0
    · exact h y
  · exact h y
theorem ok_sets : ∀ {rs : List Row} {d : D}, d.Ok → (∀ r ∈ rs, RowOk r) → (d.sets rs).Ok
  | [], d, h, _ => h
  | r :: rs, d, h, hr => ok_sets (rs := rs) (d := d.set r) (ok_set h (hr r List.mem_cons_self)) fun q hq => hr q (List.mem_cons_of_mem _ hq)
theorem get_sets_ne : ∀ {rs : List Row} {d : D} {y : Nm}, (∀ r ∈ rs, r.x ≠ y) → (d.sets rs).get y = d.get y
  | [], d, y, _ => rfl
  | r :: rs, d, y, h => by
    show ((d.set r).sets rs).get y = _
    rw [get_sets_ne fun r h' => h r (List.mem_cons_of_mem _ h'), get_set_ne (h r List.mem_cons_self)]
def costA : Nat → Nat
  | 0 => 0
  | 1 => 51
  | n + 2 => 7 * (6 + costA (n + 1)) + 2
def costB : Nat → Nat
  | 0 => 3
  | n + 1 => 7 * (costB n + (1 + 2 + 2 * n + 1)) + costB n + 2
def Tot (R : D → D → List (Int × Int × Int) → Nat → Prop) (ys : Nm → Prop) (C : Nat) (d : D) : Prop := ∃ d' w k, R d d' w k ∧ k ≤ C ∧ d'.Ok ∧ ∀ y, ys y → d'.get y = d.get y
section
variable {R : D → D → List (Int × Int × Int) → Nat → Prop} {ys : Nm → Prop} {C ce ct : Nat} {d : D} {x : Nm} {l : Int}
theorem Tot.mono {C' : Nat} (t : Tot R ys C d) (h : C ≤ C') : Tot R ys C' d := t.elim fun d' t => t.elim fun w t => t.elim fun k t => ⟨d', w, k, t.1, Nat.le_trans t.2.1 h, t.2.2⟩
theorem loop_total (h : ∀ d : D, d.Ok → ∀ {P : Prop}, (Tot R ys ce d → P) → (∀ d1 : D, d.get x ≤ l → d1.Ok → d.get x + 1 ≤ d1.get x → (∀ y, ys y → d1.get y = d.get y) → (∀ {d' w k}, R d1 d' w k → ∃ w' k', R d d' w' k' ∧ k' ≤ k + ct) → P) → P) (m : Nat) : ∀ d : D, d.Ok → l + 1 - d.get x ≤ m → Tot R ys (m * ct + ce) d := by
  induction m with
  | zero => exact fun d hd hm => h d hd (fun t => t.mono (Nat.le_add_left ..)) fun d1 h1 _ _ _ _ => absurd h1 (by lia)
  | succ m ih =>
    refine fun d hd hm => h d hd (fun t => t.mono (Nat.le_add_left ..)) fun d1 h1 hd1 h2 h3 h4 => ?_
    obtain ⟨d', w, k, a, b, c, e⟩ := ih d1 hd1 (by lia)
    obtain ⟨w', k', f, g⟩ := h4 a
    exact ⟨d', w', k', f, by rw [Nat.succ_mul]; lia, c, fun y hy => (e y hy).trans (h3 y hy)⟩
end
theorem room {r : Row} {v : Int} (h : RowOk r) (hv : ¬ r.l < v) : v + r.s ≤ 99 := by have := h.s1; have := h.l1; lia
theorem ahead_total {gk : Nat} (hgk : gk ≤ 3) (rows : List Row) : rows ≠ [] → (∀ r ∈ rows, RowOk r) → (rows.map Row.x).Nodup → ∀ d : D, d.Ok → Tot (Ahead gk rows) (fun y => ∀ r ∈ rows, r.x ≠ y) (costA rows.length) d := by
  induction rows with
  | nil => exact fun h => (h rfl).elim
  | cons r rs IH =>
    intro _ hr hn d hd
    have hrr := hr r (.head _)
    have h0 := hd r.x
    have h6 := hrr.l1
    have h1 := hrr.s0
    cases rs with
    | nil =>
      refine loop_total (x := r.x) (l := r.l) (ce := 2) (ct := 7) (fun d hd P f g => ?_) 7 d hd (by lia)
      by_cases hv : r.l < d.get r.x
      · exact f ⟨d, [], 2, .stop hv, Nat.le_refl _, hd, fun _ _ => rfl⟩
      · exact g (d.add r) (Int.not_lt.mp hv) (ok_add hd hrr) (by rw [get_add, if_pos rfl]; lia) (fun y hy => by rw [get_add, if_neg (hy r (.head _))]) fun h => ⟨_, _, .last hv (room hrr hv) h, by lia⟩
    | cons r2 rs =>
      have IH := IH nofun (fun q h => hr q (.tail _ h)) (List.nodup_cons.mp hn).2
      have hne : ∀ q ∈ r2 :: rs, q.x ≠ r.x := fun q hq e => (List.nodup_cons.mp hn).1 (List.mem_map.mpr ⟨q, hq, e⟩)
      have gr2 := hne r2 (.head _)
      refine loop_total (x := r.x) (l := r.l) (ce := 2) (ct := 6 + costA (r2 :: rs).length) (fun d hd P f g => ?_) 7 d hd (by lia)
      by_cases hv : r.l < d.get r.x
      · exact f ⟨d, [], 2, .stop hv, Nat.le_refl _, hd, fun _ _ => rfl⟩
      · obtain ⟨d1, w1, k1, g1, g2, g3, g4⟩ := IH d hd
        have ge := g4 r.x hne
        exact g ((d1.add r).set r2) (Int.not_lt.mp hv) (ok_set (ok_add g3 hrr) (hr r2 (.tail _ (.head _)))) (by rw [get_set_ne gr2, get_add, if_pos rfl, ge]; lia) (fun y hy => by rw [get_set_ne (hy r2 (.tail _ (.head _))), get_add, if_neg (hy r (.head _)), g4 y fun q hq => hy q (.tail _ hq)]) fun h => ⟨_, _, .step hv g1 (ge ▸ room hrr hv) h, by lia⟩
theorem behind_total {gk : Nat} (hgk : gk ≤ 3) (rows : List Row) : (∀ r ∈ rows, RowOk r) → (rows.map Row.x).Nodup → ∀ d : D, d.Ok → Tot (Behind gk rows) (fun y => ∀ r ∈ rows, r.x ≠ y) (costB rows.length) d := by
  induction rows with
  | nil => exact fun _ _ d hd => ⟨d, _, _, .nil, hgk, hd, fun _ _ => rfl⟩
  | cons r rs IH =>
    intro hr hn d hd
    have IH := IH (fun q h => hr q (.tail _ h)) (List.nodup_cons.mp hn).2
    have hne : ∀ q ∈ rs, q.x ≠ r.x := fun q hq e => (List.nodup_cons.mp hn).1 (List.mem_map.mpr ⟨q, hq, e⟩)
    have hrr := hr r (.head _)
    have h0 := hd r.x
    have h6 := hrr.l1
    have h1 := hrr.s0
    refine (loop_total (x := r.x) (l := r.l) (ce := costB rs.length + 2) (ct := costB rs.length + (1 + 2 + 2 * rs.length + 1)) (fun d hd P f g => ?_) 7 d hd (by lia)).mono (Nat.le_refl _)
    obtain ⟨d1, w1, k1, g1, g2, g3, g4⟩ := IH d hd
    have ge := g4 r.x hne
    by_cases hv : r.l < d1.get r.x
    · exact f ⟨d1, w1, _, .over g1 hv, Nat.add_le_add_right g2 2, g3, fun y hy => g4 y fun q hq => hy q (.tail _ hq)⟩
    · exact g ((d1.add r).sets rs) (ge ▸ Int.not_lt.mp hv) (ok_sets (ok_add g3 hrr) fun q h => hr q (.tail _ h)) (by rw [get_sets_ne hne, get_add, if_pos rfl, ge]; lia) (fun y hy => by rw [get_sets_ne fun q hq => hy q (.tail _ hq), get_add, if_neg (hy r (.head _)), g4 y fun q hq => hy q (.tail _ hq)]) fun h => ⟨_, _, .again g1 hv (room hrr hv) h, by lia⟩
section
variable {G : Pg} {F : Fs} {n : Nat} {fn : Fn} {q : Bool} {CL : List (Str × Nat)}
theorem blk_cons {d : Nat} {s : Stmt} {r : List Stmt} {ρ ρ1 : Loc} {b b1 : Sto} (h : stS G fn q (evS G (callF G F n) fn q deep) CL d s ρ b = some (.ok (.next, ρ1), b1)) :
    blkM G F n fn q CL d (s :: r) ρ b = blkM G F n fn q CL d r ρ1 b1 := by
  show M.bind _ _ b = _
  unfold M.bind
  rw [h]
  rfl
theorem blk_one {d : Nat} {s : Stmt} {r : List Stmt} {ρ ρ1 : Loc} {b b1 : Sto} (h : blkM G F n fn q CL d [s] ρ b = some (.ok (.next, ρ1), b1)) : blkM G F n fn q CL d (s :: r) ρ b = blkM G F n fn q CL d r ρ1 b1 := by
  obtain ⟨⟨fl, ρ2⟩, b2, e1, e2⟩ := bindM_some (show M.bind (stS G fn q (evS G (callF G F n) fn q deep) CL d s ρ) _ b = _ from h)
  cases fl with
  | next => cases e2; exact blk_cons e1
  | _ => cases e2
theorem blk_app {d : Nat} : ∀ {l r : List Stmt} {ρ ρ1 : Loc} {b b1 : Sto}, blkM G F n fn q CL d l ρ b = some (.ok (.next, ρ1), b1) → blkM G F n fn q CL d (l ++ r) ρ b = blkM G F n fn q CL d r ρ1 b1
  | [], r, ρ, ρ1, b, b1, h => by cases h; rfl
  | s :: l, r, ρ, ρ1, b, b1, h => by
    obtain ⟨⟨fl, ρ2⟩, b2, e1, e2⟩ := bindM_some (show M.bind (stS G fn q (evS G (callF G F n) fn q deep) CL d s ρ) _ b = _ from h)
    cases fl with
    | next =>
      rw [List.cons_append, blk_cons e1]
      exact blk_app e2
    | _ => cases e2
theorem st_blk {d : Nat} {s : Stmt} {ρ : Loc} {b b' : Sto} {p : Fl × Loc} (h : stS G fn q (evS G (callF G F n) fn q deep) CL d s ρ b = some (.ok p, b')) : blkM G F n fn q CL d [s] ρ b = some (.ok p, b') := by
  show M.bind _ _ b = _
  unfold M.bind
  rw [h]
  obtain ⟨fl, ρ'⟩ := p
  cases fl <;> rfl
theorem st_if {d : Nat} {s : Stmt} {c : Expr} {x y : List Stmt} {ρ : Loc} {b b1 : Sto} {v : Bool} (hp : planS fn q s = .ite c x y) (ht : tstsM G F n fn q CL c ρ b = some (.ok v, b1)) :
    stS G fn q (evS G (callF G F n) fn q deep) CL (d + 1) s ρ b = blkM G F n fn q CL d (cond v x y) ρ b1 := by
  show smdS G fn.sc q _ CL _ (planS fn q s) ρ b = _
  rw [hp]
  show M.bind (tstsM G F n fn q CL c ρ) _ b = _
  unfold M.bind
  rw [ht]
  cases v <;> rfl
theorem st_while {d : Nat} {s : Stmt} {c : Expr} {x : List Stmt} {ρ : Loc} {b : Sto} (hp : planS fn q s = .while_ c x) :
    stS G fn q (evS G (callF G F n) fn q deep) CL (d + 1) s ρ b = whileM (fun ρ => tstsM G F n fn q CL c ρ) (fun ρ => blkM G F n fn q CL d x ρ) turns ρ b := by
  show smdS G fn.sc q _ CL _ (planS fn q s) ρ b = _
  rw [hp]
  rfl
theorem while_go {mt : Loc → M Bool} {mb : Loc → M (Fl × Loc)} {k : Nat} {ρ ρ1 : Loc} {b b1 b2 : Sto} (ht : mt ρ b = some (.ok true, b1)) (hb : mb ρ b1 = some (.ok (.next, ρ1), b2)) : whileM mt mb (k + 1) ρ b = whileM mt mb k ρ1 b2 := by
  conv => lhs; unfold whileM
  unfold M.bind
  rw [show noErr (mt ρ) b = some (.ok true, b1) by unfold noErr; rw [ht]]
  show M.bind (noErr (mb ρ)) _ b1 = _
  unfold M.bind
  rw [show noErr (mb ρ) b1 = some (.ok (.next, ρ1), b2) by unfold noErr; rw [hb]]
theorem while_end {mt : Loc → M Bool} {mb : Loc → M (Fl × Loc)} {k : Nat} {ρ : Loc} {b b1 : Sto} (ht : mt ρ b = some (.ok false, b1)) : whileM mt mb (k + 1) ρ b = some (.ok (.next, ρ), b1) := by
  conv => lhs; unfold whileM
  unfold M.bind
  rw [show noErr (mt ρ) b = some (.ok false, b1) by unfold noErr; rw [ht]]
  rfl
theorem while_ret {mt : Loc → M Bool} {mb : Loc → M (Fl × Loc)} {k : Nat} {ρ ρ1 : Loc} {b b1 b2 : Sto} {y : V} (ht : mt ρ b = some (.ok true, b1)) (hb : mb ρ b1 = some (.ok (.ret y, ρ1), b2)) : whileM mt mb (k + 1) ρ b = some (.ok (.ret y, ρ1), b2) := by
  conv => lhs; unfold whileM
  unfold M.bind
  rw [show noErr (mt ρ) b = some (.ok true, b1) by unfold noErr; rw [ht]]
  show M.bind (noErr (mb ρ)) _ b1 = _
  unfold M.bind
  rw [show noErr (mb ρ) b1 = some (.ok (.ret y, ρ1), b2) by unfold noErr; rw [hb]]
  rfl
def expM' (G : Pg) (F : Fs) (n : Nat) (fn : Fn) (q : Bool) (CL : List (Str × Nat)) (d : Nat) (x : Expr) (ρ : Loc) : M V := (evS G (callF G F n) fn q d).val false fn.sc CL ρ x
theorem val_call {d : Nat} {x fe : Expr} {es : List Expr} {ρ : Loc} {b b1 b2 : Sto} {a : Addr} {vs : List V} {r : Except Addr V} (hp : planE q false x = .call fe es) (hf : expM' G F n fn q CL d fe ρ b = some (.ok (.glob a), b))
    (hs : evList (fun x => expM' G F n fn q CL d x ρ) es b = some (.ok vs, b1)) (hk : G.keep a = true) (hc : callF G F n q (.glob a) vs b1 = some (r, b2)) : expM' G F n fn q CL (d + 1) x ρ b = some (r, b2) := by
  show valS G (callF G F n) fn q _ false fn.sc CL ρ (planE q false x) b = _
  rw [hp]
  show M.bind (expM' G F n fn q CL d fe ρ) _ b = _
  unfold M.bind
  rw [hf]
  show callM G (callF G F n q) (.glob a) [] (evList (fun x => expM' G F n fn q CL d x ρ) es) b = _
  unfold callM M.bind
  rw [hs]
  show (if callable G (.glob a) b1 = true then callF G F n q (.glob a) ([] ++ vs) b1 else none) = _
  rw [if_pos (show callable G (.glob a) b1 = true from hk)]; exact hc
theorem st_expr {d : Nat} {s : Stmt} {x : Expr} {ρ : Loc} {b b1 : Sto} {y : V} (hp : planS fn q s = .expr x) (hx : expM' G F n fn q CL deep x ρ b = some (.ok y, b1)) : stS G fn q (evS G (callF G F n) fn q deep) CL (d + 1) s ρ b = some (.ok (.next, ρ), b1) := by
  show smdS G fn.sc q _ CL _ (planS fn q s) ρ b = _
  rw [hp]
  show M.bind (expM' G F n fn q CL deep x ρ) _ b = _
  unfold M.bind
  rw [hx]
  rfl
theorem st_asn {d : Nat} {s : Stmt} {z : Str} {x : Expr} {ρ ρ1 : Loc} {b b1 b2 : Sto} {y : V} (hp : planS fn q s = .asN z x) (hx : expM' G F n fn q CL deep x ρ b = some (.ok y, b1)) (hs : storeM fn.sc CL z y ρ b1 = some (.ok ρ1, b2)) : stS G fn q (evS G (callF G F n) fn q deep) CL (d + 1) s ρ b = some (.ok (.next, ρ1), b2) := by
  show smdS G fn.sc q _ CL _ (planS fn q s) ρ b = _
  rw [hp]
  show M.bind (expM' G F n fn q CL deep x ρ) _ b = _
  unfold M.bind
  rw [hx]
  show M.bind (storeM fn.sc CL z y ρ) _ b1 = _
  unfold M.bind
  rw [hs]
  rfl
theorem exps_cons {f : Expr → M V} {x : Expr} {r : List Expr} {b b1 b2 : Sto} {y : V} {l : List V} (hx : f x b = some (.ok y, b1)) (hr : evList f r b1 = some (.ok l, b2)) : evList f (x :: r) b = some (.ok (y :: l), b2) := by
  show M.bind (f x) _ b = _
  unfold M.bind
  rw [hx]
  show M.bind (evList f r) _ b1 = _
  unfold M.bind
  rw [hr]
  rfl
theorem call_plain {a : Addr} {g : Fn} {k : Nat} {args : List V} {b b' : Sto} {ρ : Loc} {fl : Fl} {ρ' : Loc} (h : F.fns a = some g) (hd : g.dfl = []) (hc : (cellsFrom 0 g.sc.names []).map (·.1) = []) (hl : args.length = g.names.length)
    (hρ : bindLV g.sc (g.names.zip args) [] = ρ) (hb : blkM G F k g q [] deep g.body ρ b = some (.ok (fl, ρ'), b')) : callF G F (k + 1) q (.glob a) args b = some (.ok (retOf fl), b') := by
  unfold callF
  dsimp only
  rw [h]
  show fnM g (bodyM G (callF G F k) g q) args b = _
  unfold fnM
  rw [if_pos (by rw [hd]; simp; lia)]
  simp only [hd, hc, List.drop_nil, List.append_nil, clV, hρ]
  have : cellsV [] (bindCV g.sc (g.names.zip args) []) = [] := rfl
  rw [this, List.append_nil]
  have hb : bodyM G (callF G F k) g q [] ρ b = some (.ok (fl, ρ'), b') := hb
  rw [hb]
  cases fl <;> rfl
end
set_option genCtorIdx true in
inductive Lv where
  | l11
  | l12
  | l22
  | l13
  | l23
  | l33
noncomputable def Lv.n : Lv → Nat
  | .l11 => 1
  | .l12 => 2
  | .l22 => 2
  | .l13 => 3
  | .l23 => 3
  | .l33 => 3
noncomputable def Lv.i : Lv → Nat
  | .l11 => 0
  | .l12 => 0
  | .l22 => 1
  | .l13 => 0
  | .l23 => 1
  | .l33 => 2
noncomputable def rowsOf (n : Nat) (r1 r2 r3 : Row) : List Row := [⟨.A, r1.b, r1.s, r1.l⟩, ⟨.B, r2.b, r2.s, r2.l⟩, ⟨.C, r3.b, r3.s, r3.l⟩].take n
def Lv.suf (L : Lv) (r1 r2 r3 : Row) : List Row := (rowsOf L.n r1 r2 r3).drop L.i
def Lv.cur (L : Lv) (r1 r2 r3 : Row) : Row := (L.suf r1 r2 r3).headD r1
def Lv.nxt (L : Lv) (r1 r2 r3 : Row) : Row := ((L.suf r1 r2 r3).drop 1).headD r1
def Lv.down : Lv → Lv
  | .l12 => .l22
  | .l13 => .l23
  | .l23 => .l33
  | L => L
def Lv.last : Lv → Bool
  | .l11 | .l22 | .l33 => true
  | _ => false
def rowR (r : Row) : V := .tup [s_ r.x.str, .int r.b, .int r.s, .int r.l]
def dicO (N : V) (d : D) : O := .sdict (dicV N d.A d.B d.C)
def refSeg (N : V) (d : D) (rows : List Row) (l : List V) : Sto := [dicO N d, .list (rows.map rowR), .list l]
def rhoA (i : Nat) : Loc := [(S "amounts", .hnd 0), (S "rows", .hnd 1), (S "level", .int i), (S "seen_rounds", .hnd 2)]
def whA : Stmt := nth f793.body 0
def ifA : Stmt := nth (bodyOf whA) 0
def elseA : List Stmt := elseOf ifA
def setsA : List Stmt := elseA.drop 1
def whB : Stmt := nth f800.body 0
def ifB : Stmt := nth (bodyOf whB) 0
def restB : List Stmt := (bodyOf whB).drop 1
def rhoB (i : Nat) : Option V → Loc
  | none => [(S "amounts", .hnd 0), (S "rows", .hnd 1), (S "level", .int i), (S "seen_rounds", .hnd 2)]
  | some o => [(S "amounts", .hnd 0), (S "rows", .hnd 1), (S "level", .int i), (S "seen_rounds", .hnd 2), (S "row", o)]
def D.setV (d : D) (r : Row) (v : Bool) : D := match v with
  | true => d.put r.x r.b
  | false => d
theorem setV_eq {d : D} {r : Row} {v : Bool} (h : decide (r.b ≤ 99) = v) : d.setV r v = d.set r := by
  subst h
  unfold D.set
  by_cases h : r.b ≤ 99
  · rw [if_pos h, decide_eq_true h]; rfl
  · rw [if_neg h, decide_eq_false h]; rfl
section
variable (lo : List Str) (K : Params → Frag)
theorem xa_test (n : Nat) (L : Lv) (N : V) (d : D) (r1 r2 r3 : Row) (l : List V) : tstsX (GG lo K) FF (n + 5) f793 true [] (testOf whA) (rhoA L.i) ⟨refSeg N d (rowsOf L.n r1 r2 r3) l, [], [], True⟩ =
    some (decide (d.get (L.cur r1 r2 r3).x ≤ (L.cur r1 r2 r3).l), ⟨refSeg N d (rowsOf L.n r1 r2 r3) l, [], [], True⟩) := by
  cases L <;> kernel_rfl
theorem xa_last (n : Nat) (L : Lv) (hL : L.last = true) (N : V) (d : D) (r1 r2 r3 : Row) (l : List V) : blkX (GG lo K) FF (n + 5) f793 true [] 19 (bodyOf whA) (rhoA L.i) ⟨refSeg N d (rowsOf L.n r1 r2 r3) l, [(3, .b true), (7, .b true)], [], True⟩ =
    some ((.next, rhoA L.i), ⟨refSeg N (d.add (L.cur r1 r2 r3)) (rowsOf L.n r1 r2 r3) (l ++ [.hnd 3]) ++ [dicO N d], [], [], decide (d.get (L.cur r1 r2 r3).x + (L.cur r1 r2 r3).s ≤ 99) = true ∧ Nat.ble l.length sizeLine = true ∧ True⟩) := by
  cases L <;> first | (cases hL; done) | kernel_rfl
theorem xa_if (n : Nat) (L : Lv) (hL : L.last = false) (N : V) (d : D) (r1 r2 r3 : Row) (l : List V) : tstsX (GG lo K) FF (n + 5) f793 true [] (testOf ifA) (rhoA L.i) ⟨refSeg N d (rowsOf L.n r1 r2 r3) l, [], [], True⟩ =
    some (false, ⟨refSeg N d (rowsOf L.n r1 r2 r3) l, [], [], True⟩) := by
  cases L <;> first | (cases hL; done) | kernel_rfl
theorem xa_args (n : Nat) (L : Lv) (hL : L.last = false) (N : V) (d : D) (r1 r2 r3 : Row) (l : List V) : expsX (GG lo K) FF (n + 5) f793 true [] (argsOf (valOf (nth elseA 0))) (rhoA L.i) ⟨refSeg N d (rowsOf L.n r1 r2 r3) l, [], [], True⟩ =
    some ([.hnd 0, .hnd 1, .int L.down.i, .hnd 2], ⟨refSeg N d (rowsOf L.n r1 r2 r3) l, [], [], True⟩) := by
  cases L <;> first | (cases hL; done) | kernel_rfl
theorem xa_sets (n : Nat) (L : Lv) (hL : L.last = false) (v : Bool) (N : V) (d : D) (r1 r2 r3 : Row) (l : List V) : blkX (GG lo K) FF (n + 5) f793 true [] 18 setsA (rhoA L.i) ⟨refSeg N d (rowsOf L.n r1 r2 r3) l, [(7, .b true), (6, .b v)], [], True⟩ =
    some ((.next, rhoA L.i), ⟨refSeg N ((d.add (L.cur r1 r2 r3)).setV (L.nxt r1 r2 r3) v) (rowsOf L.n r1 r2 r3) l, [], [], decide ((L.nxt r1 r2 r3).b ≤ 99) = v ∧ decide (d.get (L.cur r1 r2 r3).x + (L.cur r1 r2 r3).s ≤ 99) = true ∧ True⟩) := by
  cases L <;> first | (cases hL; done) | (cases v <;> kernel_rfl)
theorem xb_append (n : Nat) (L : Lv) (hL : L.last = true) (o : Option V) (N : V) (d : D) (r1 r2 r3 : Row) (l : List V) : blkX (GG lo K) FF (n + 5) f800 true [] 19 [ifB] (rhoB L.i o) ⟨refSeg N d (rowsOf L.n r1 r2 r3) l, [(3, .b true)], [], True⟩ =
    some ((.next, rhoB L.i o), ⟨refSeg N d (rowsOf L.n r1 r2 r3) (l ++ [.hnd 3]) ++ [dicO N d], [], [], Nat.ble l.length sizeLine = true ∧ True⟩) := by
  cases L <;> first | (cases hL; done) | (cases o <;> kernel_rfl)
theorem xb_if (n : Nat) (L : Lv) (hL : L.last = false) (o : Option V) (N : V) (d : D) (r1 r2 r3 : Row) (l : List V) : tstsX (GG lo K) FF (n + 5) f800 true [] (testOf ifB) (rhoB L.i o) ⟨refSeg N d (rowsOf L.n r1 r2 r3) l, [], [], True⟩ =
    some (false, ⟨refSeg N d (rowsOf L.n r1 r2 r3) l, [], [], True⟩) := by
  cases L <;> first | (cases hL; done) | (cases o <;> kernel_rfl)
theorem xb_args (n : Nat) (L : Lv) (hL : L.last = false) (o : Option V) (N : V) (d : D) (r1 r2 r3 : Row) (l : List V) : expsX (GG lo K) FF (n + 5) f800 true [] (argsOf (valOf (nth (elseOf ifB) 0))) (rhoB L.i o) ⟨refSeg N d (rowsOf L.n r1 r2 r3) l, [], [], True⟩ =
    some ([.hnd 0, .hnd 1, .int L.down.i, .hnd 2], ⟨refSeg N d (rowsOf L.n r1 r2 r3) l, [], [], True⟩) := by
  cases L <;> first | (cases hL; done) | (cases o <;> kernel_rfl)
theorem mb_true (n : Nat) (ρ : Loc) (b : Sto) : tstsM (GG lo K) FF (n + 5) f800 true [] (testOf whB) ρ b = some (.ok true, b) := by kernel_rfl
theorem xb_over (n : Nat) (L : Lv) (o : Option V) (N : V) (d : D) (r1 r2 r3 : Row) (l : List V) : blkX (GG lo K) FF (n + 5) f800 true [] 19 restB (rhoB L.i o) ⟨refSeg N d (rowsOf L.n r1 r2 r3) l, [(6, .b true)], [], True⟩ =
    some ((.ret .none, rhoB L.i o), ⟨refSeg N d (rowsOf L.n r1 r2 r3) l, [], [], decide ((L.cur r1 r2 r3).l < d.get (L.cur r1 r2 r3).x) = true ∧ True⟩) := by
  cases L <;> cases o <;> kernel_rfl
def garB (L : Lv) (r1 r2 r3 : Row) : Sto := [.list [rowR (L.cur r1 r2 r3)], .list (((L.suf r1 r2 r3).drop 1).map rowR)]
def lastB (L : Lv) (r1 r2 r3 : Row) : V := rowR ((L.suf r1 r2 r3).getLastD r1)
theorem xb_again0 (n : Nat) (L : Lv) (hL : L.last = true) (o : Option V) (N : V) (d : D) (r1 r2 r3 : Row) (l : List V) : blkX (GG lo K) FF (n + 5) f800 true [] 19 restB (rhoB L.i o) ⟨refSeg N d (rowsOf L.n r1 r2 r3) l, [(6, .b false), (6, .b true)], [], True⟩ =
    some ((.next, rhoB L.i (some (lastB L r1 r2 r3))), ⟨refSeg N (d.add (L.cur r1 r2 r3)) (rowsOf L.n r1 r2 r3) l ++ garB L r1 r2 r3, [], [], decide (d.get (L.cur r1 r2 r3).x + (L.cur r1 r2 r3).s ≤ 99) = true ∧ decide ((L.cur r1 r2 r3).l < d.get (L.cur r1 r2 r3).x) = false ∧ True⟩) := by
  cases L <;> first | (cases hL; done) | (cases o <;> kernel_rfl)
def Lv.two : Lv → Bool
  | .l13 => true
  | _ => false
theorem xb_again1 (n : Nat) (L : Lv) (hL : L.last = false) (hL2 : L.two = false) (v : Bool) (o : Option V) (N : V) (d : D) (r1 r2 r3 : Row) (l : List V) : blkX (GG lo K) FF (n + 5) f800 true [] 19 restB (rhoB L.i o) ⟨refSeg N d (rowsOf L.n r1 r2 r3) l, [(6, .b false), (6, .b true), (5, .b v)], [], True⟩ =
    some ((.next, rhoB L.i (some (lastB L r1 r2 r3))), ⟨refSeg N ((d.add (L.cur r1 r2 r3)).setV (L.nxt r1 r2 r3) v) (rowsOf L.n r1 r2 r3) l ++ garB L r1 r2 r3, [], [], decide ((L.nxt r1 r2 r3).b ≤ 99) = v ∧ decide (d.get (L.cur r1 r2 r3).x + (L.cur r1 r2 r3).s ≤ 99) = true ∧ decide ((L.cur r1 r2 r3).l < d.get (L.cur r1 r2 r3).x) = false ∧ True⟩) := by
  cases L <;> first | (cases hL; done) | (cases hL2; done) | (cases o <;> cases v <;> kernel_rfl)
theorem xb_again2 (n : Nat) (v v' : Bool) (o : Option V) (N : V) (d : D) (r1 r2 r3 : Row) (l : List V) : blkX (GG lo K) FF (n + 5) f800 true [] 19 restB (rhoB 0 o) ⟨refSeg N d (rowsOf 3 r1 r2 r3) l, [(6, .b false), (6, .b true), (5, .b v), (cond v 5 4, .b v')], [], True⟩ =
    some ((.next, rhoB 0 (some (lastB .l13 r1 r2 r3))), ⟨refSeg N (((d.add (Lv.cur .l13 r1 r2 r3)).setV (Lv.nxt .l13 r1 r2 r3) v).setV (Lv.nxt .l23 r1 r2 r3) v') (rowsOf 3 r1 r2 r3) l ++ garB .l13 r1 r2 r3, [], [], decide ((Lv.nxt .l23 r1 r2 r3).b ≤ 99) = v' ∧ decide ((Lv.nxt .l13 r1 r2 r3).b ≤ 99) = v ∧ decide (d.get (Lv.cur .l13 r1 r2 r3).x + (Lv.cur .l13 r1 r2 r3).s ≤ 99) = true ∧ decide ((Lv.cur .l13 r1 r2 r3).l < d.get (Lv.cur .l13 r1 r2 r3).x) = false ∧ True⟩) := by
  cases o <;> cases v <;> cases v' <;> kernel_rfl
end
def calleeOf : Expr → Expr
  | .Call f _ _ _ => f
  | _ => default
structure RefAt (b : Sto) (am rw sn : Nat) (N : V) (d : D) (rows : List Row) (l : List V) : Prop where
  n1 : am ≠ rw
  n2 : am ≠ sn
  n3 : rw ≠ sn
  a : b[am]? = some (dicO N d)
  r : b[rw]? = some (.list (rows.map rowR))
  s : b[sn]? = some (.list l)
theorem rows_flat (e : Nat → Nat) (rows : List Row) : V.mps e (rows.map rowR) = rows.map rowR := by
  rw [mps_map, List.map_map]
  exact List.map_congr_left fun r _ => rfl
theorem dic_mp (e : Nat → Nat) (N : V) (d : D) : (dicO N d).mp e = dicO (N.mp e) d := rfl
section
variable {b b' : Sto} {am rw sn : Nat} {N : V} {d d' : D} {rows : List Row} {l l' : List V} {new : Sto}
theorem three : ([am, rw, sn] : List Nat).length ≤ far := by unfold far; simp
theorem RefAt.in_ (R : RefAt b am rw sn N d rows l) : In b [am, rw, sn] (refSeg (N.mp up) d rows (V.mps up l)) := by
  refine In.of (by simp [R.n1, R.n2, R.n3]) trivial ⟨?_, ?_, ?_, trivial⟩
  · rw [dic_mp, mp_up three]; exact R.a
  · show _ = some (O.list _); rw [rows_flat]; exact R.r
  · show _ = some (O.list _); rw [mps_up three]; exact R.s
theorem RefAt.next (R : RefAt b am rw sn N d rows l) (X : Out2 [am, rw, sn] (refSeg (N.mp up) d rows (V.mps up l)) b (refSeg (N.mp up) d' rows l' ++ new) b') : RefAt b' am rw sn N d' rows (V.mps (eof [am, rw, sn] b.length) l') := by
  refine ⟨R.n1, R.n2, R.n3, ?_, ?_, ?_⟩
  · have := X.get 0 _ rfl
    rw [dic_mp, mp_up three] at this; exact this
  · have := X.get 1 _ rfl
    have h : b'[rw]? = some (O.list _) := this
    rw [rows_flat] at h; exact h
  · exact X.get 2 _ rfl
theorem RefAt.same (R : RefAt b am rw sn N d rows l) (X : Out2 [am, rw, sn] (refSeg (N.mp up) d rows (V.mps up l)) b (refSeg (N.mp up) d' rows (V.mps up l) ++ new) b') : RefAt b' am rw sn N d' rows l := by
  have := R.next X
  rw [mps_up three] at this; exact this
theorem RefAt.lt (R : RefAt b am rw sn N d rows l) {k : Nat} (h : b.length ≤ k) : k ∉ [am, rw, sn] := by
  have h1 := lt_of_get R.a; have h2 := lt_of_get R.r; have h3 := lt_of_get R.s
  simp only [List.mem_cons, List.not_mem_nil, or_false]
  lia
variable {lo : List Str} {K : Params → Frag} {f : Fn} {n : Nat} {ρ ρ' r r' : Loc} {ds : List (Nat × Dec)} {cs P : Prop} {a' : Sto}
theorem RefAt.run {α β : Type} {mp : (Nat → Nat) → α → β} {m : XM α} {m' : (Nat → Nat) → M β} {y : α} (R : RefAt b am rw sn N d rows l) (T : ∀ N e, TrX (GG lo K) FF N e (mp e) m (m' e))
    (h : m ⟨refSeg (N.mp up) d rows (V.mps up l), ds, [], True⟩ = some (y, ⟨a', [], [], cs⟩)) (ha : a' = refSeg (N.mp up) d' rows (V.mps up l) ++ new) (hl : new.length ≤ 9) (hc : cs)
    (k : ∀ b', m' (eof [am, rw, sn] b.length) b = some (.ok (mp (eof [am, rw, sn] b.length) y), b') → RefAt b' am rw sn N d' rows l → Keep [am, rw, sn] b b' → P) : P := by
  subst ha
  obtain ⟨b', e, X⟩ := R.in_.run T h hc (fun p hp => nomatch hp) (by unfold far; simp [refSeg]; lia)
  exact k b' e (R.same X) X.keep
theorem RefAt.blk {d0 : Nat} {ss : List Stmt} {fl fl' : Fl} (R : RefAt b am rw sn N d rows l) (h : blkX (GG lo K) FF n f true [] d0 ss ρ ⟨refSeg (N.mp up) d rows (V.mps up l), ds, [], True⟩ = some ((fl, ρ'), ⟨a', [], [], cs⟩))
    (e1 : mpP (eof [am, rw, sn] b.length) ρ = r) (e2 : fl.mp (eof [am, rw, sn] b.length) = fl') (e3 : mpP (eof [am, rw, sn] b.length) ρ' = r') (ha : a' = refSeg (N.mp up) d' rows (V.mps up l) ++ new) (hl : new.length ≤ 9) (hc : cs)
    (k : ∀ b', blkM (GG lo K) FF n f true [] d0 ss r b = some (.ok (fl', r'), b') → RefAt b' am rw sn N d' rows l → Keep [am, rw, sn] b b' → P) : P := by
  subst e1; subst e2; subst e3
  exact R.run (mp := mpF) (m' := fun e => blkM (GG lo K) FF n f true [] d0 ss (mpP e ρ)) (fun N e => blk_tr G0_plain _ _ _ [] _ _ _) h ha hl hc k
theorem RefAt.tst {x : Expr} {v : Bool} (R : RefAt b am rw sn N d rows l) (h : tstsX (GG lo K) FF n f true [] x ρ ⟨refSeg (N.mp up) d rows (V.mps up l), [], [], True⟩ = some (v, ⟨refSeg (N.mp up) d rows (V.mps up l), [], [], True⟩))
    (e1 : mpP (eof [am, rw, sn] b.length) ρ = r) (k : ∀ b', tstsM (GG lo K) FF n f true [] x r b = some (.ok v, b') → RefAt b' am rw sn N d rows l → Keep [am, rw, sn] b b' → P) : P := by
  subst e1
  exact R.run (mp := fun _ => id) (new := []) (m' := fun e => tstsM (GG lo K) FF n f true [] x (mpP e ρ)) (fun N e => tsts_tr G0_plain _ _ _ [] _ _) h rfl (Nat.zero_le _) trivial k
theorem RefAt.exps {x : List Expr} {ys vs : List V} (R : RefAt b am rw sn N d rows l) (h : expsX (GG lo K) FF n f true [] x ρ ⟨refSeg (N.mp up) d rows (V.mps up l), [], [], True⟩ = some (ys, ⟨refSeg (N.mp up) d rows (V.mps up l), [], [], True⟩))
    (e1 : mpP (eof [am, rw, sn] b.length) ρ = r) (e2 : V.mps (eof [am, rw, sn] b.length) ys = vs) (k : ∀ b', expsM (GG lo K) FF n f true [] x r b = some (.ok vs, b') → RefAt b' am rw sn N d rows l → Keep [am, rw, sn] b b' → P) : P := by
  subst e1; subst e2
  exact R.run (mp := V.mps) (new := []) (m' := fun e => expsM (GG lo K) FF n f true [] x (mpP e ρ)) (fun N e => exps_tr G0_plain _ _ _ [] _ _) h rfl (Nat.zero_le _) trivial k
end
def rhoAr (am rw sn : Nat) (i : Nat) : Loc := [(S "amounts", .hnd am), (S "rows", .hnd rw), (S "level", .int i), (S "seen_rounds", .hnd sn)]
theorem rhoA_mp (am rw sn n i : Nat) : mpP (eof [am, rw, sn] n) (rhoA i) = rhoAr am rw sn i := rfl
def Lv.rem : Lv → Nat
  | .l11 | .l22 | .l33 => 0
  | .l12 | .l23 => 1
  | .l13 => 2
section
variable {lo : List Str} {K : Params → Frag}
def loopA (lo : List Str) (K : Params → Frag) (m f : Nat) (ρ : Loc) : M (Fl × Loc) := whileM (fun ρ => tstsM (GG lo K) FF m f793 true [] (testOf whA) ρ) (fun ρ => blkM (GG lo K) FF m f793 true [] 19 (bodyOf whA) ρ) f ρ
def Fresh (b : Sto) (hs : List V) : Prop := ∀ k, V.hnd k ∈ hs → b.length ≤ k
theorem Fresh.nil {b : Sto} : Fresh b [] := fun k h => by cases h
theorem Fresh.more {b b' : Sto} {hs : List V} (h : Fresh b' hs) (hl : b.length ≤ b'.length) : Fresh b hs := fun k hk => Nat.le_trans hl (h k hk)
theorem Fresh.cons {b : Sto} {hs : List V} {k : Nat} (h : Fresh b hs) (hk : b.length ≤ k) : Fresh b (.hnd k :: hs) := fun i hi => by
  rcases List.mem_cons.mp hi with e | hi
  · cases e; exact hk
  · exact h i hi
theorem Fresh.append {b : Sto} {hs hs' : List V} (h : Fresh b hs) (h' : Fresh b hs') : Fresh b (hs ++ hs') := fun i hi => by
  rcases List.mem_append.mp hi with hi | hi
  · exact h i hi
  · exact h' i hi
def RefDone (b : Sto) (am rw sn : Nat) (N : V) (rows : List Row) (l : List V) (d' : D) (w : List (Int × Int × Int)) (b' : Sto) : Prop := ∃ hs, RefAt b' am rw sn N d' rows (l ++ hs) ∧ HeardAt b' [am, rw, sn] N hs w ∧ Keep [am, rw, sn] b b' ∧ Fresh b hs
section
variable {b b' b1 : Sto} {am rw sn : Nat} {N : V} {d d' d1 : D} {rows : List Row} {l : List V} {w : List (Int × Int × Int)} {P : Prop}
theorem RefDone.elim (h : RefDone b am rw sn N rows l d w b') (k : ∀ hs, RefAt b' am rw sn N d rows (l ++ hs) → HeardAt b' [am, rw, sn] N hs w → Keep [am, rw, sn] b b' → Fresh b hs → P) : P := Exists.elim h fun hs h => k hs h.1 h.2.1 h.2.2.1 h.2.2.2
theorem RefDone.nil (R : RefAt b' am rw sn N d rows l) (k : Keep [am, rw, sn] b b') : RefDone b am rw sn N rows l d [] b' := ⟨[], (List.append_nil l).symm ▸ R, .nil, k, .nil⟩
theorem RefDone.pre (k : Keep [am, rw, sn] b b1) (h : RefDone b1 am rw sn N rows l d w b') : RefDone b am rw sn N rows l d w b' := h.elim fun hs R H k' F => ⟨hs, R, H, k.trans k', F.more k.1⟩
theorem RefDone.comp (h : RefDone b am rw sn N rows l d w b') (k : ∀ l1, RefAt b' am rw sn N d rows l1 → l1.length = l.length + w.length → (∀ {d2 : D} {w2 : List (Int × Int × Int)} {b2 b3 : Sto}, Keep [am, rw, sn] b' b2 → RefDone b2 am rw sn N rows l1 d2 w2 b3 → RefDone b am rw sn N rows l d2 (w ++ w2) b3) → P) : P :=
  h.elim fun hs R H k1 F => k _ R (by rw [List.length_append, H.length]) fun k2 h2 => h2.elim fun hs2 R2 H2 k3 F2 => ⟨hs ++ hs2, List.append_assoc l hs hs2 ▸ R2, HeardAt.append H2 (H.keep (k2.trans k3)), (k1.trans k2).trans k3, F.append (F2.more (k1.trans k2).1)⟩
theorem RefAt.heard (R : RefAt b am rw sn N d rows l) (X : Out2 [am, rw, sn] (refSeg (N.mp up) d rows (V.mps up l)) b (refSeg (N.mp up) d' rows (V.mps up l ++ [.hnd 3]) ++ [dicO (N.mp up) d1]) b') : RefDone b am rw sn N rows l d' [d1.sn] b' := by
  have R2 := R.next X
  have hh : V.mps (eof [am, rw, sn] b.length) [.hnd 3] = [.hnd b.length] := by
    simp only [V.mps, V.mp]; rw [eof_new (by simp) (by unfold far; lia)]; simp
  rw [mps_append, mps_up three, hh] at R2
  have hn := new_at (new := [dicO (N.mp up) d1]) (show ([am, rw, sn] : List Nat).length = (refSeg (N.mp up) d' rows (V.mps up l ++ [.hnd 3])).length from rfl) X (by unfold far; simp [refSeg]) 0 _ rfl
  rw [dic_mp, mp_up three, Nat.add_zero] at hn
  exact ⟨[.hnd b.length], R2, .cons (R.lt (Nat.le_refl _)) hn .nil, X.keep, Fresh.nil.cons (Nat.le_refl _)⟩
theorem RefAt.blkH {f : Fn} {n d0 : Nat} {ss : List Stmt} {ρ r : Loc} {ds : List (Nat × Dec)} {cs : Prop} (R : RefAt b am rw sn N d rows l) (h : blkX (GG lo K) FF n f true [] d0 ss ρ ⟨refSeg (N.mp up) d rows (V.mps up l), ds, [], True⟩ = some ((.next, ρ), ⟨refSeg (N.mp up) d' rows (V.mps up l ++ [.hnd 3]) ++ [dicO (N.mp up) d1], [], [], cs⟩))
    (e1 : mpP (eof [am, rw, sn] b.length) ρ = r) (hc : cs) (k : ∀ b', blkM (GG lo K) FF n f true [] d0 ss r b = some (.ok (.next, r), b') → RefDone b am rw sn N rows l d' [d1.sn] b' → P) : P := by
  subst e1
  obtain ⟨b', e, X⟩ := R.in_.run (mp := mpF) (m' := fun e => blkM (GG lo K) FF n f true [] d0 ss (mpP e ρ)) (fun N e => blk_tr G0_plain _ _ _ [] _ _ _) h hc (fun p hp => nomatch hp) (by unfold far; simp [refSeg])
  exact k b' e (R.heard X)
end
theorem a_while : planS f793 true whA = .while_ (testOf whA) (bodyOf whA) := by kernel_rfl
theorem a_body : bodyOf whA = [ifA] := by kernel_rfl
theorem a_fbody : f793.body = [whA] := by kernel_rfl
theorem a_ite : planS f793 true ifA = .ite (testOf ifA) (bodyOf ifA) elseA := by kernel_rfl
theorem a_else : elseA = nth elseA 0 :: setsA := by kernel_rfl
theorem a_expr : planS f793 true (nth elseA 0) = .expr (valOf (nth elseA 0)) := by kernel_rfl
theorem a_call : planE true false (valOf (nth elseA 0)) = .call (calleeOf (valOf (nth elseA 0))) (argsOf (valOf (nth elseA 0))) := by kernel_rfl
theorem a_name (n : Nat) (ρ : Loc) (b : Sto) : expM' (GG lo K) FF n f793 true [] 19 (calleeOf (valOf (nth elseA 0))) ρ b = some (.ok (.glob 793), b) := by kernel_rfl
theorem a_fn : FF.fns 793 = some f793 := by kernel_rfl
theorem a_cells : (cellsFrom 0 f793.sc.names []).map (·.1) = [] := by kernel_rfl
theorem a_bind (x y z u : V) : bindLV f793.sc (f793.names.zip [x, y, z, u]) [] = [(S "amounts", x), (S "rows", y), (S "level", z), (S "seen_rounds", u)] := by kernel_rfl
theorem keep_mem {a : Addr} (h : keepL.contains a = true) : (GG lo K).keep a = true := h
theorem a_enter {k : Nat} {b b' : Sto} {am rw sn i : Nat} (h : loopA lo K k turns (rhoAr am rw sn i) b = some (.ok (.next, rhoAr am rw sn i), b')) : callF (GG lo K) FF (k + 1) true (.glob 793) [.hnd am, .hnd rw, .int i, .hnd sn] b = some (.ok .none, b') := by
  refine call_plain (fl := .next) (ρ' := rhoAr am rw sn i) a_fn rfl a_cells (by kernel_rfl) (a_bind _ _ _ _) ?_
  rw [a_fbody]
  refine st_blk ?_
  show stS (GG lo K) f793 true (evS (GG lo K) (callF (GG lo K) FF k) f793 true deep) [] (19 + 1) whA _ b = _
  rw [st_while a_while]
  exact h
theorem suf_cur {L : Lv} {r1 r2 r3 r : Row} {rs : List Row} (h : L.suf r1 r2 r3 = r :: rs) : L.cur r1 r2 r3 = r := by unfold Lv.cur; rw [h]; rfl
theorem suf_nxt {L : Lv} {r1 r2 r3 r r' : Row} {rs : List Row} (h : L.suf r1 r2 r3 = r :: r' :: rs) : L.nxt r1 r2 r3 = r' := by unfold Lv.nxt; rw [h]; rfl
theorem suf_last {L : Lv} {r1 r2 r3 r : Row} (h : L.suf r1 r2 r3 = [r]) : L.last = true := by cases L <;> first | rfl | (simp [Lv.suf, rowsOf, Lv.n, Lv.i] at h)
theorem suf_more {L : Lv} {r1 r2 r3 r r' : Row} {rs : List Row} (h : L.suf r1 r2 r3 = r :: r' :: rs) : L.last = false ∧ L.down.suf r1 r2 r3 = r' :: rs ∧ L.rem = L.down.rem + 1 ∧ L.down.n = L.n := by
  cases L <;> first | (simp [Lv.suf, rowsOf, Lv.n, Lv.i] at h; done) | (simp [Lv.suf, rowsOf, Lv.n, Lv.i] at h; obtain ⟨_, rfl, rfl⟩ := h; exact ⟨rfl, rfl, rfl, rfl⟩)
theorem setV_dec {d : D} {r : Row} : d.setV r (decide (r.b ≤ 99)) = d.set r := setV_eq rfl
theorem ahead_len {gk : Nat} {rows : List Row} {d d' : D} {w : List (Int × Int × Int)} {k : Nat} (h : Ahead gk rows d d' w k) : w.length ≤ k := by
  induction h with
  | stop => exact Nat.zero_le _
  | last _ _ _ ih => rw [List.length_cons]; lia
  | step _ _ _ _ ih1 ih2 => rw [List.length_append]; lia
section
variable {b b1 b2 b3 b4 b5 : Sto} {am rw sn i m : Nat} {N : V} {d d1 d' : D} {l vs : List V} {L : Lv} {r r' r1 r2 r3 : Row} {rs : List Row} {w w1 : List (Int × Int × Int)} {k k1 : Nat} {P : Prop}
theorem a_tst {v : Bool} (R : RefAt b am rw sn N d (rowsOf L.n r1 r2 r3) l) (hv : decide (d.get (L.cur r1 r2 r3).x ≤ (L.cur r1 r2 r3).l) = v) (k : ∀ b', tstsM (GG lo K) FF (m + 5) f793 true [] (testOf whA) (rhoAr am rw sn L.i) b = some (.ok v, b') → RefAt b' am rw sn N d (rowsOf L.n r1 r2 r3) l → Keep [am, rw, sn] b b' → P) : P := by
  subst hv
  exact R.tst (xa_test lo K m L (N.mp up) d r1 r2 r3 (V.mps up l)) (rhoA_mp ..) k
theorem a_blk (e2 : tstsM (GG lo K) FF m f793 true [] (testOf ifA) (rhoAr am rw sn i) b1 = some (.ok false, b2)) (e3 : expsM (GG lo K) FF m f793 true [] (argsOf (valOf (nth elseA 0))) (rhoAr am rw sn i) b2 = some (.ok vs, b3))
    (e4 : callF (GG lo K) FF m true (.glob 793) vs b3 = some (.ok .none, b4)) (e5 : blkM (GG lo K) FF m f793 true [] 18 setsA (rhoAr am rw sn i) b4 = some (.ok (.next, rhoAr am rw sn i), b5)) : blkM (GG lo K) FF m f793 true [] 19 (bodyOf whA) (rhoAr am rw sn i) b1 = some (.ok (.next, rhoAr am rw sn i), b5) := by
  rw [a_body]
  refine st_blk ?_
  rw [st_if (d := 18) a_ite e2]
  show blkM (GG lo K) FF m f793 true [] 18 elseA _ b2 = _
  rw [a_else, blk_cons (st_expr (d := 17) a_expr (val_call (d := 19) a_call (a_name _ _ _) e3 (keep_mem (by kernel_rfl)) e4))]
  exact e5
def WA (lo : List Str) (K : Params → Frag) (rows : List Row) (d d' : D) (w : List (Int × Int × Int)) (k : Nat) : Prop := ∀ {L : Lv} {r1 r2 r3 : Row}, L.suf r1 r2 r3 = rows → ∀ {n f : Nat} {b : Sto} {am rw sn : Nat} {N : V} {l : List V}, k ≤ f → k ≤ 4000 → l.length + k ≤ 10000 →
    RefAt b am rw sn N d (rowsOf L.n r1 r2 r3) l → ∀ {P : Prop}, (∀ b', loopA lo K (n + L.rem + 5) f (rhoAr am rw sn L.i) b = some (.ok (.next, rhoAr am rw sn L.i), b') → RefDone b am rw sn N (rowsOf L.n r1 r2 r3) l d' w b' → P) → P
theorem aw_stop (hv : r.l < d.get r.x) : WA lo K (r :: rs) d d [] 2 := by
  intro L r1 r2 r3 hL n f b am rw sn N l hf hk hl R P c
  cases f with
  | zero => lia
  | succ f => exact a_tst (v := false) R (by rw [suf_cur hL]; exact decide_eq_false (by lia)) fun b1 e1 R1 k1 => c b1 (while_end e1) (.nil R1 k1)
theorem aw_last {gk : Nat} (hv : ¬ r.l < d.get r.x) (hs : d.get r.x + r.s ≤ 99) (ih : WA lo K [r] (d.add r) d' w k) : WA lo K [r] d d' (d.sn :: w) (1 + gk + 3 + k) := by
  intro L r1 r2 r3 hL n f b am rw sn N l hf hk hl R P c
  cases f with
  | zero => lia
  | succ f =>
    refine a_tst (lo := lo) (K := K) (m := n + L.rem) (v := true) R (by rw [suf_cur hL]; exact decide_eq_true (by lia)) fun b1 e1 R1 k1 => R1.blkH (xa_last lo K (n + L.rem) L (suf_last hL) (N.mp up) d r1 r2 r3 (V.mps up l)) (rhoA_mp ..) ⟨by rw [suf_cur hL]; exact decide_eq_true hs, Nat.ble_eq_true_of_le (by rw [mps_length]; unfold sizeLine; lia), trivial⟩ fun b2 e2 D => ?_
    rw [suf_cur hL] at D
    exact D.comp fun l1 R2 h2 mk => ih hL (by lia) (by lia) (by rw [h2, List.length_singleton]; lia) R2 fun b3 e3 D3 => c b3 ((while_go e1 e2).trans e3) (.pre k1 (mk .refl D3))
theorem aw_step (hv : ¬ r.l < d.get r.x) (hw : w1.length ≤ k1) (ih1 : WA lo K (r' :: rs) d d1 w1 k1) (hs : d1.get r.x + r.s ≤ 99) (ih2 : WA lo K (r :: r' :: rs) ((d1.add r).set r') d' w k) : WA lo K (r :: r' :: rs) d d' (w1 ++ w) (1 + k1 + 5 + k) := by
  intro L r1 r2 r3 hL n f b am rw sn N l hf hk hl R P c
  obtain ⟨hlast, hdown, hrem, hdn⟩ := suf_more hL
  cases f with
  | zero => lia
  | succ f =>
    refine a_tst (lo := lo) (K := K) (m := n + L.rem) (v := true) R (by rw [suf_cur hL]; exact decide_eq_true (by lia)) fun b1 e1 R1 q1 => R1.tst (xa_if lo K (n + L.rem) L hlast (N.mp up) d r1 r2 r3 (V.mps up l)) (rhoA_mp ..) fun b2 e2 R2 q2 => R2.exps (vs := [.hnd am, .hnd rw, .int L.down.i, .hnd sn]) (xa_args lo K (n + L.rem) L hlast (N.mp up) d r1 r2 r3 (V.mps up l)) (rhoA_mp ..) rfl fun b3 e3 R3 q3 => ?_
    rw [← hdn] at R3
    refine ih1 hdown (n := n) (f := turns) (by unfold turns; lia) (by lia) (by lia) R3 fun b4 e4 D4 => ?_
    rw [hdn] at D4
    refine D4.comp fun l1 R4 h4 mk => R4.blk (xa_sets lo K (n + L.rem) L hlast (decide (r'.b ≤ 99)) (N.mp up) d1 r1 r2 r3 (V.mps up l1)) (rhoA_mp ..) rfl (rhoA_mp ..) (List.append_nil _).symm (Nat.zero_le _) ⟨by rw [suf_nxt hL], by rw [suf_cur hL]; exact decide_eq_true hs, trivial⟩ fun b5 e5 R5 q5 => ?_
    rw [suf_nxt hL, suf_cur hL, setV_dec] at R5
    exact ih2 hL (by lia) (by lia) (by lia) R5 fun b6 e6 D6 => c b6 ((while_go e1 (a_blk e2 e3 (by rw [hrem]; exact a_enter e4) e5)).trans e6) (.pre ((q1.trans q2).trans q3) (mk q5 D6))
end
theorem ahead_ref {gk : Nat} {rows : List Row} {d d' : D} {w : List (Int × Int × Int)} {k : Nat} (h : Ahead gk rows d d' w k) : WA lo K rows d d' w k := by
  induction h with
  | stop hv => exact aw_stop hv
  | last hv hs _ ih => exact aw_last hv hs ih
  | step hv h hs _ ih1 ih2 => exact aw_step hv (ahead_len h) ih1 hs ih2
end
def rhoBr (am rw sn : Nat) (i : Nat) : Option V → Loc
  | none => [(S "amounts", .hnd am), (S "rows", .hnd rw), (S "level", .int i), (S "seen_rounds", .hnd sn)]
  | some o => [(S "amounts", .hnd am), (S "rows", .hnd rw), (S "level", .int i), (S "seen_rounds", .hnd sn), (S "row", o)]
theorem rhoB_mp (am rw sn n i : Nat) (o : Option V) : mpP (eof [am, rw, sn] n) (rhoB i o) = rhoBr am rw sn i (o.map (V.mp (eof [am, rw, sn] n))) := by cases o <;> rfl
theorem rhoB_up (am rw sn n i : Nat) (o : Option V) : mpP (eof [am, rw, sn] n) (rhoB i (o.map (V.mp up))) = rhoBr am rw sn i o := by
  rw [rhoB_mp]
  cases o with
  | none => rfl
  | some y => simp only [Option.map_some, mp_up three]
section
variable {lo : List Str} {K : Params → Frag}
def loopB (lo : List Str) (K : Params → Frag) (m f : Nat) (ρ : Loc) : M (Fl × Loc) := whileM (fun ρ => tstsM (GG lo K) FF m f800 true [] (testOf whB) ρ) (fun ρ => blkM (GG lo K) FF m f800 true [] 19 (bodyOf whB) ρ) f ρ
theorem b_while : planS f800 true whB = .while_ (testOf whB) (bodyOf whB) := by kernel_rfl
theorem b_body : bodyOf whB = ifB :: restB := by kernel_rfl
theorem b_fbody : f800.body = [whB] := by kernel_rfl
theorem b_ite : planS f800 true ifB = .ite (testOf ifB) (bodyOf ifB) (elseOf ifB) := by kernel_rfl
theorem b_else : elseOf ifB = [nth (elseOf ifB) 0] := by kernel_rfl
theorem b_expr : planS f800 true (nth (elseOf ifB) 0) = .expr (valOf (nth (elseOf ifB) 0)) := by kernel_rfl
theorem b_call : planE true false (valOf (nth (elseOf ifB) 0)) = .call (calleeOf (valOf (nth (elseOf ifB) 0))) (argsOf (valOf (nth (elseOf ifB) 0))) := by kernel_rfl
theorem b_name (n : Nat) (ρ : Loc) (b : Sto) : expM' (GG lo K) FF n f800 true [] 19 (calleeOf (valOf (nth (elseOf ifB) 0))) ρ b = some (.ok (.glob 800), b) := by kernel_rfl
theorem b_fn : FF.fns 800 = some f800 := by kernel_rfl
theorem b_cells : (cellsFrom 0 f800.sc.names []).map (·.1) = [] := by kernel_rfl
theorem b_bind (x y z u : V) : bindLV f800.sc (f800.names.zip [x, y, z, u]) [] = [(S "amounts", x), (S "rows", y), (S "level", z), (S "seen_rounds", u)] := by kernel_rfl
theorem b_enter {k : Nat} {b b' : Sto} {am rw sn i : Nat} {o : Option V} (h : loopB lo K k turns (rhoBr am rw sn i none) b = some (.ok (.ret .none, rhoBr am rw sn i o), b')) : callF (GG lo K) FF (k + 1) true (.glob 800) [.hnd am, .hnd rw, .int i, .hnd sn] b = some (.ok .none, b') := by
  refine call_plain (fl := .ret .none) (ρ' := rhoBr am rw sn i o) b_fn rfl b_cells (by kernel_rfl) (b_bind _ _ _ _) ?_
  rw [b_fbody]
  refine st_blk ?_
  show stS (GG lo K) f800 true (evS (GG lo K) (callF (GG lo K) FF k) f800 true deep) [] (19 + 1) whB _ b = _
  rw [st_while b_while]
  exact h
def WB (lo : List Str) (K : Params → Frag) (rows : List Row) (d d' : D) (w : List (Int × Int × Int)) (k : Nat) : Prop := ∀ {L : Lv} {r1 r2 r3 : Row}, L.suf r1 r2 r3 = rows → ∀ {n f : Nat} {b : Sto} {am rw sn : Nat} {N : V} {l : List V} {o : Option V}, k ≤ f → k ≤ 4000 → l.length + k ≤ 10000 →
    RefAt b am rw sn N d (rowsOf L.n r1 r2 r3) l → ∀ {P : Prop}, (∀ b' o', loopB lo K (n + L.rem + 5) f (rhoBr am rw sn L.i o) b = some (.ok (.ret .none, rhoBr am rw sn L.i o'), b') → RefDone b am rw sn N (rowsOf L.n r1 r2 r3) l d' w b' → P) → P
section
variable {b b1 b2 b3 b4 : Sto} {am rw sn i m n gk : Nat} {N : V} {d d1 d' : D} {l vs : List V} {L : Lv} {r r1 r2 r3 : Row} {rs : List Row} {w w1 : List (Int × Int × Int)} {k k1 : Nat} {o : Option V} {P : Prop}
theorem b_blk (e2 : tstsM (GG lo K) FF m f800 true [] (testOf ifB) (rhoBr am rw sn i o) b1 = some (.ok false, b2)) (e3 : expsM (GG lo K) FF m f800 true [] (argsOf (valOf (nth (elseOf ifB) 0))) (rhoBr am rw sn i o) b2 = some (.ok vs, b3))
    (e4 : callF (GG lo K) FF m true (.glob 800) vs b3 = some (.ok .none, b4)) : blkM (GG lo K) FF m f800 true [] 19 [ifB] (rhoBr am rw sn i o) b1 = some (.ok (.next, rhoBr am rw sn i o), b4) := by
  refine st_blk ?_
  rw [st_if (d := 18) b_ite e2]
  show blkM (GG lo K) FF m f800 true [] 18 (elseOf ifB) _ b2 = _
  rw [b_else, blk_cons (st_expr (d := 17) b_expr (val_call (d := 19) b_call (b_name _ _ _) e3 (keep_mem (by kernel_rfl)) e4))]
  rfl
theorem behind_nil (h : Behind gk [] d d1 w k) : d = d1 ∧ w = [d.sn] := by cases h; exact ⟨rfl, rfl⟩
theorem b_stage (h : Behind gk rs d d1 w k) (ih : WB lo K rs d d1 w k) (hL : L.suf r1 r2 r3 = r :: rs) (hk : k ≤ 4000) (hl : l.length + k ≤ 10000) (h1 : l.length ≤ sizeLine) (R : RefAt b am rw sn N d (rowsOf L.n r1 r2 r3) l)
    (c : ∀ b', blkM (GG lo K) FF (n + L.rem + 5) f800 true [] 19 [ifB] (rhoBr am rw sn L.i o) b = some (.ok (.next, rhoBr am rw sn L.i o), b') → RefDone b am rw sn N (rowsOf L.n r1 r2 r3) l d1 w b' → P) : P := by
  cases rs with
  | nil =>
    rw [← (behind_nil h).1, (behind_nil h).2] at c
    exact R.blkH (xb_append lo K (n + L.rem) L (suf_last hL) (o.map (V.mp up)) (N.mp up) d r1 r2 r3 (V.mps up l)) (rhoB_up ..) ⟨Nat.ble_eq_true_of_le ((mps_length l).symm ▸ h1), trivial⟩ c
  | cons r' rs =>
    obtain ⟨hlast, hdown, hrem, hdn⟩ := suf_more hL
    refine R.tst (xb_if lo K (n + L.rem) L hlast (o.map (V.mp up)) (N.mp up) d r1 r2 r3 (V.mps up l)) (rhoB_up ..) fun b2 e2 R2 q2 => R2.exps (vs := [.hnd am, .hnd rw, .int L.down.i, .hnd sn]) (xb_args lo K (n + L.rem) L hlast (o.map (V.mp up)) (N.mp up) d r1 r2 r3 (V.mps up l)) (rhoB_up ..) rfl fun b3 e3 R3 q3 => ?_
    rw [← hdn] at R3
    exact ih hdown (n := n) (f := turns) (o := none) (Nat.le_trans hk (by decide)) hk hl R3 fun b4 o4 e4 D4 => c b4 (b_blk e2 e3 (by rw [hrem]; exact b_enter e4)) (.pre (q2.trans q3) (hdn ▸ D4))
def Lv.len : Lv → Nat
  | .l11 => 1
  | .l12 => 2
  | .l22 => 1
  | .l13 => 3
  | .l23 => 2
  | .l33 => 1
theorem suf_len {L : Lv} {r1 r2 r3 : Row} {l : List Row} (h : L.suf r1 r2 r3 = l) : L.len = l.length := h ▸ by cases L <;> rfl
theorem lvTwo {L : Lv} (h : L.len = 2) : L.two = false := by cases L <;> first | rfl | exact nomatch h
theorem lvThree {L : Lv} {m : Nat} (h : L.len = m + 3) : L = .l13 := by cases L <;> first | rfl | (unfold Lv.len at h; lia)
theorem lvNil {L : Lv} (h : L.len = 0) : False := by cases L <;> exact nomatch h
theorem b_fin {ds : List (Nat × Dec)} {cs : Prop} (R : RefAt b am rw sn N d (rowsOf L.n r1 r2 r3) l) (c : ∀ b' o', blkM (GG lo K) FF (n + 5) f800 true [] 19 restB (rhoBr am rw sn L.i o) b = some (.ok (.next, rhoBr am rw sn L.i o'), b') → RefAt b' am rw sn N d' (rowsOf L.n r1 r2 r3) l → Keep [am, rw, sn] b b' → P)
    (h : blkX (GG lo K) FF (n + 5) f800 true [] 19 restB (rhoB L.i (o.map (V.mp up))) ⟨refSeg (N.mp up) d (rowsOf L.n r1 r2 r3) (V.mps up l), ds, [], True⟩ = some ((.next, rhoB L.i (some (lastB L r1 r2 r3))), ⟨refSeg (N.mp up) d1 (rowsOf L.n r1 r2 r3) (V.mps up l) ++ garB L r1 r2 r3, [], [], cs⟩)) (hd : d1 = d') (hc : cs) : P := by
  subst hd
  exact R.blk h (rhoB_up ..) rfl (rhoB_mp ..) rfl (by simp [garB]) hc fun b2 e2 => c b2 _ e2
theorem b_again (hL : L.suf r1 r2 r3 = r :: rs) (hv : ¬ r.l < d.get r.x) (hs : d.get r.x + r.s ≤ 99) (R : RefAt b am rw sn N d (rowsOf L.n r1 r2 r3) l)
    (c : ∀ b' o', blkM (GG lo K) FF (n + 5) f800 true [] 19 restB (rhoBr am rw sn L.i o) b = some (.ok (.next, rhoBr am rw sn L.i o'), b') → RefAt b' am rw sn N ((d.add r).sets rs) (rowsOf L.n r1 r2 r3) l → Keep [am, rw, sn] b b' → P) : P := by
  have h1 := decide_eq_true hs
  have h2 := decide_eq_false hv
  have hr := suf_cur hL
  subst hr
  cases rs with
  | nil => exact b_fin R c (xb_again0 lo K n L (suf_last hL) (o.map (V.mp up)) (N.mp up) d r1 r2 r3 (V.mps up l)) rfl ⟨h1, h2, trivial⟩
  | cons r' rs =>
    have hn := suf_nxt hL
    subst hn
    cases rs with
    | nil => exact b_fin R c (xb_again1 lo K n L (suf_more hL).1 (lvTwo (suf_len hL)) _ (o.map (V.mp up)) (N.mp up) d r1 r2 r3 (V.mps up l)) (congrArg (fun d : D => d) setV_dec) ⟨rfl, h1, h2, trivial⟩
    | cons r'' rs =>
      have h3 : L = .l13 := lvThree (suf_len hL)
      subst h3
      have hn := suf_nxt (suf_more hL).2.1
      have hrs : rs = [] := List.length_eq_zero_iff.mp (Nat.add_right_cancel (m := 3) (suf_len hL).symm)
      subst hrs
      subst hn
      exact b_fin R c (xb_again2 lo K n _ _ (o.map (V.mp up)) (N.mp up) d r1 r2 r3 (V.mps up l)) (by rw [setV_dec, setV_dec]; rfl) ⟨rfl, rfl, h1, h2, trivial⟩
theorem bw_over (hg : w.length ≤ k) (h : Behind gk rs d d1 w k) (hv : r.l < d1.get r.x) (ih : WB lo K rs d d1 w k) : WB lo K (r :: rs) d d1 w (k + 2) := by
  intro L r1 r2 r3 hL n f b am rw sn N l o hf hk hl R P c
  cases f with
  | zero => lia
  | succ f =>
    refine b_stage (n := n) (o := o) h ih hL (by lia) (by lia) (by unfold sizeLine; lia) R fun b1 e1 D1 => D1.comp fun l1 R1 h1 mk => R1.blk (xb_over lo K (n + L.rem) L (o.map (V.mp up)) (N.mp up) d1 r1 r2 r3 (V.mps up l1)) (rhoB_up ..) rfl (rhoB_up ..) (List.append_nil _).symm (Nat.zero_le _) ⟨by rw [suf_cur hL]; exact decide_eq_true hv, trivial⟩ fun b2 e2 R2 q2 => c b2 o (while_ret (mb_true lo K _ _ _) (by rw [b_body, blk_one e1]; exact e2)) ?_
    exact List.append_nil w ▸ mk q2 (.nil R2 .refl)
theorem bw_again (hg : w1.length ≤ k1) (h : Behind gk rs d d1 w1 k1) (hv : ¬ r.l < d1.get r.x) (hs : d1.get r.x + r.s ≤ 99) (ih1 : WB lo K rs d d1 w1 k1) (ih2 : WB lo K (r :: rs) ((d1.add r).sets rs) d' w k) : WB lo K (r :: rs) d d' (w1 ++ w) (k1 + (1 + 2 + 2 * rs.length + 1) + k) := by
  intro L r1 r2 r3 hL n f b am rw sn N l o hf hk hl R P c
  cases f with
  | zero => lia
  | succ f =>
    exact b_stage (n := n) (o := o) h ih1 hL (by lia) (by lia) (by unfold sizeLine; lia) R fun b1 e1 D1 => D1.comp fun l1 R1 h1 mk => b_again (n := n + L.rem) (o := o) hL hv hs R1 fun b2 o2 e2 R2 q2 => ih2 hL (by lia) (by lia) (by lia) R2 fun b3 o3 e3 D3 => c b3 o3 ((while_go (mb_true lo K _ _ _) (by rw [b_body, blk_one e1]; exact e2)).trans e3) (mk q2 D3)
theorem behind_len (hg : 1 ≤ gk) (h : Behind gk rs d d1 w k) : w.length ≤ k := by
  induction h with
  | nil => exact hg
  | over _ _ ih => lia
  | again _ _ _ _ ih1 ih2 => rw [List.length_append]; lia
theorem behind_ref (hg : 1 ≤ gk) (h : Behind gk rs d d1 w k) : WB lo K rs d d1 w k := by
  induction h with
  | nil => exact fun hL => (lvNil (suf_len hL)).elim
  | over h hv ih => exact bw_over (behind_len hg h) h hv ih
  | again h hv hs _ ih1 ih2 => exact bw_again (behind_len hg h) h hv hs ih1 ih2
end
end
def Shape.isTimes : Shape → Bool
  | .times => true
  | _ => false
def Runs (lo : List Str) (K : Params → Frag) (g : Bool) (sh : Shape) (N : V) (d d' : D) (w : List (Int × Int × Int)) : Prop := ∃ k, k ≤ 3990 ∧ ∀ a : AS, Calm a 0 d → a.N = N → a.log = [] → a.rounds = [] →
  ∃ a', Steps lo K (cdOf g sh) a k a' ∧ a'.p = (codeOf g sh).length ∧ a'.d = d' ∧ a'.rounds = w ∧ a'.N = N ∧ (∀ q, a'.slots ≠ .tab q) ∧ (sh.isTimes = true → a'.log = [s_ "asked"])
section
variable {lo : List Str} {K : Params → Frag}
theorem para (g : Bool) (sh : Shape) : Para (cdOf g sh) := by
  refine ⟨(codeOf g sh).length + 2, rfl, ?_, ?_⟩
  · show (codeOf g sh ++ tailOps)[_]? = _
    rw [List.getElem?_append_right (by lia), Nat.add_sub_cancel_left]; rfl
  · show (codeOf g sh ++ tailOps)[_]? = _
    rw [List.getElem?_append_right (by lia), show (codeOf g sh).length + 2 + 1 - (codeOf g sh).length = 3 by lia]; rfl
theorem runs_of {g : Bool} {sh : Shape} {N : V} {d d' : D} {w : List (Int × Int × Int)} {k : Nat} (hk : k ≤ 3990) (hs : sh.isTimes = false) (h : Does lo K (cdOf g sh) 0 d k (codeOf g sh).length d' w) : Runs lo K g sh N d d' w := by
  refine ⟨k, hk, fun a hc hN hl hr => ?_⟩
  obtain ⟨a', s, c, r, n⟩ := h a hc
  exact ⟨a', s, c.p, c.d, by rw [r, hr]; rfl, by rw [n, hN], c.ht, fun e => by rw [hs] at e; cases e⟩
theorem gk_le (g : Bool) : gkOf g ≤ 3 ∧ 1 ≤ gkOf g := by cases g <;> exact ⟨by decide, by decide⟩
theorem runs_once (g : Bool) (N : V) (d : D) : Runs lo K g .once N d d [d.sn] := by
  refine runs_of (k := gkOf g) (by have := gk_le g; lia) rfl ?_
  exact does_goal (para g .once) rfl
theorem runs_ahead1 (g : Bool) (N : V) (d : D) (l : Int) (h : l < d.A) : Runs lo K g (.ahead1 l) N d d [] :=
  runs_of (k := 2) (by lia) rfl (does_over (r := ⟨.A, 0, 0, l⟩) (p := 0) (q := 4) rfl rfl h)
theorem does_yes {c : Cd} {p : Nat} {d : D} {r : Row} {lab : Int} (h1 : c.ops[p]? = some (opTest r.x.str r.l lab)) (hv : r.l < d.get r.x) : Does lo K c p d 1 (p + 1) d [] := fun a h => by
  have hg := get_d h r.x
  obtain ⟨hp, hd, hs, hsl⟩ := h
  subst hp
  exact ⟨_, steps_yes (lo := lo) (K := K) h1 (by rw [hg]; exact hv) (Calm.ht ⟨rfl, hd, hs, hsl⟩), ⟨rfl, hd, hs, hsl⟩, by simp [AS.go], rfl⟩
theorem runs_behind1 (g : Bool) (N : V) (d : D) (l : Int) (h : l < d.A) : Runs lo K g (.behind1 l) N d d [d.sn] := by
  refine runs_of (k := gkOf g + 1) (by have := gk_le g; lia) rfl ?_
  exact ((does_goal (para g (.behind1 l)) (p := 0) rfl).trans (does_yes (r := ⟨.A, 0, 0, l⟩) (p := 1) rfl h)).eq rfl rfl
theorem runs_vary0 {g : Bool} {rows : List Row} {N : V} {d d' : D} {w : List (Int × Int × Int)} {k : Nat} (h : Ahead (gkOf g) rows (d.sets rows) d' w k) (hk : k ≤ 3900) (hn : rows.length ≤ 3) (hS : SCode (cdOf g (.vary false rows)) rows 0) (hA : ACode (cdOf g (.vary false rows)) g rows (2 * rows.length) (codeOf g (.vary false rows)).length) :
    Runs lo K g (.vary false rows) N d d' w := by
  refine runs_of (k := 2 * rows.length + k) (by lia) rfl ?_
  have h1 := does_sets (lo := lo) (K := K) (d := d) hS
  rw [Nat.zero_add] at h1
  exact (h1.trans (ahead_does (para g _) h hA)).eq rfl (by simp)
theorem runs_vary1 {g : Bool} {rows : List Row} {N : V} {d d' : D} {w : List (Int × Int × Int)} {k : Nat} (h : Behind (gkOf g) rows (d.sets rows) d' w k) (hk : k ≤ 3900) (hn : rows.length ≤ 3) (hS : SCode (cdOf g (.vary true rows)) rows 0) (hB : BCode (cdOf g (.vary true rows)) g rows (2 * rows.length) (codeOf g (.vary true rows)).length) :
    Runs lo K g (.vary true rows) N d d' w := by
  refine runs_of (k := 2 * rows.length + k) (by lia) rfl ?_
  have h1 := does_sets (lo := lo) (K := K) (d := d) hS
  rw [Nat.zero_add] at h1
  exact (h1.trans (behind_does (para g _) h hB)).eq rfl (by simp)
theorem scode1 {g aft : Bool} (r : Row) : SCode (cdOf g (.vary aft [r])) [r] 0 := by cases aft <;> exact ⟨⟨_, rfl⟩, rfl, trivial⟩
theorem scode2 {g aft : Bool} (r r2 : Row) : SCode (cdOf g (.vary aft [r, r2])) [r, r2] 0 := by cases aft <;> exact ⟨⟨_, rfl⟩, rfl, ⟨_, rfl⟩, rfl, trivial⟩
theorem scode3 {g aft : Bool} (r r2 r3 : Row) : SCode (cdOf g (.vary aft [r, r2, r3])) [r, r2, r3] 0 := by cases aft <;> exact ⟨⟨_, rfl⟩, rfl, ⟨_, rfl⟩, rfl, ⟨_, rfl⟩, rfl, trivial⟩
theorem acode1 {g : Bool} (r : Row) : ACode (cdOf g (.vary false [r])) g [r] 2 8 := ⟨rfl, rfl, rfl, ⟨_, rfl⟩, ⟨_, rfl⟩, rfl⟩
theorem acode2 {g : Bool} (r r2 : Row) : ACode (cdOf g (.vary false [r, r2])) g [r, r2] 4 17 := ⟨rfl, rfl, 12, ⟨rfl, rfl, rfl, ⟨_, rfl⟩, ⟨_, rfl⟩, rfl⟩, ⟨_, rfl⟩, ⟨_, rfl⟩, ⟨_, rfl⟩, rfl, rfl⟩
theorem acode3 {g : Bool} (r r2 r3 : Row) : ACode (cdOf g (.vary false [r, r2, r3])) g [r, r2, r3] 6 26 :=
  ⟨rfl, rfl, 21, ⟨rfl, rfl, 16, ⟨rfl, rfl, rfl, ⟨_, rfl⟩, ⟨_, rfl⟩, rfl⟩, ⟨_, rfl⟩, ⟨_, rfl⟩, ⟨_, rfl⟩, rfl, rfl⟩, ⟨_, rfl⟩, ⟨_, rfl⟩, ⟨_, rfl⟩, rfl, rfl⟩
theorem bcode1 {g : Bool} (r : Row) : BCode (cdOf g (.vary true [r])) g [r] 2 8 := ⟨3, ⟨rfl, rfl⟩, rfl, rfl, ⟨_, rfl⟩, ⟨_, rfl⟩, trivial, rfl⟩
theorem bcode2 {g : Bool} (r r2 : Row) : BCode (cdOf g (.vary true [r, r2])) g [r, r2] 4 17 := ⟨10, ⟨5, ⟨rfl, rfl⟩, rfl, rfl, ⟨_, rfl⟩, ⟨_, rfl⟩, trivial, rfl⟩, rfl, rfl, ⟨_, rfl⟩, ⟨_, rfl⟩, ⟨⟨_, rfl⟩, rfl, trivial⟩, rfl⟩
theorem bcode3 {g : Bool} (r r2 r3 : Row) : BCode (cdOf g (.vary true [r, r2, r3])) g [r, r2, r3] 6 28 :=
  ⟨19, ⟨12, ⟨7, ⟨rfl, rfl⟩, rfl, rfl, ⟨_, rfl⟩, ⟨_, rfl⟩, trivial, rfl⟩, rfl, rfl, ⟨_, rfl⟩, ⟨_, rfl⟩, ⟨⟨_, rfl⟩, rfl, trivial⟩, rfl⟩, rfl, rfl, ⟨_, rfl⟩, ⟨_, rfl⟩, ⟨⟨_, rfl⟩, rfl, ⟨_, rfl⟩, rfl, trivial⟩, rfl⟩
theorem runs_ahead {g : Bool} {n : Nat} (hn : 1 ≤ n ∧ n ≤ 3) {r1 r2 r3 : Row} {N : V} {d d' : D} {w : List (Int × Int × Int)} {k : Nat} (h : Ahead (gkOf g) (rowsOf n r1 r2 r3) (d.sets (rowsOf n r1 r2 r3)) d' w k) (hk : k ≤ 3900) : Runs lo K g (.vary false (rowsOf n r1 r2 r3)) N d d' w := by
  match n, hn with
  | 1, _ => exact runs_vary0 h hk (by simp [rowsOf]) (scode1 _) (acode1 _)
  | 2, _ => exact runs_vary0 h hk (by simp [rowsOf]) (scode2 _ _) (acode2 _ _)
  | 3, _ => exact runs_vary0 h hk (by simp [rowsOf]) (scode3 _ _ _) (acode3 _ _ _)
theorem runs_behind {g : Bool} {n : Nat} (hn : 1 ≤ n ∧ n ≤ 3) {r1 r2 r3 : Row} {N : V} {d d' : D} {w : List (Int × Int × Int)} {k : Nat} (h : Behind (gkOf g) (rowsOf n r1 r2 r3) (d.sets (rowsOf n r1 r2 r3)) d' w k) (hk : k ≤ 3900) : Runs lo K g (.vary true (rowsOf n r1 r2 r3)) N d d' w := by
  match n, hn with
  | 1, _ => exact runs_vary1 h hk (by simp [rowsOf]) (scode1 _) (bcode1 _)
  | 2, _ => exact runs_vary1 h hk (by simp [rowsOf]) (scode2 _ _) (bcode2 _ _)
  | 3, _ => exact runs_vary1 h hk (by simp [rowsOf]) (scode3 _ _ _) (bcode3 _ _ _)
theorem times_loop {g : Bool} {d : D} : ∀ (m : Nat) (a : AS) (v : Int), a.p = 2 → a.d = d → a.stk = [] → a.slots = .idict [(0, .int v)] → v.toNat = m → ∃ a', Steps lo K (cdOf g .times) a (m * (2 + gkOf g) + 1) a' ∧ a'.p = 5 ∧ a'.d = d ∧ a'.rounds = a.rounds ++ List.replicate m d.sn ∧ a'.N = a.N ∧ (∀ q, a'.slots ≠ .tab q) ∧ a'.log = a.log
  | 0, a, v, hp, hd, hs, hsl, hm => by
    refine ⟨a.go 5, (show Steps lo K (cdOf g .times) a (0 * (2 + gkOf g) + 1) _ from by rw [Nat.zero_mul, Nat.zero_add]; exact steps_less0 (lo := lo) (K := K) (c := cdOf g .times) (a := a) (x := v) (lab := 5) (by rw [hp]; rfl) (by lia) hsl), rfl, hd, by simp [AS.go], rfl, fun q z => ?_, rfl⟩
    rw [show (a.go 5).slots = a.slots from rfl, hsl] at z; cases z
  | m + 1, a, v, hp, hd, hs, hsl, hm => by
    have s1 := steps_less (lo := lo) (K := K) (c := cdOf g .times) (a := a) (x := v) (lab := 5) (by rw [hp]; rfl) (by lia) hsl
    have hsn : (a.A, a.B, a.C) = d.sn := by rw [← hd]; rfl
    have ht : ∀ q, ((a.go (a.p + 1)).slot (.idict [(0, .int (v - 1))])).slots ≠ .tab q := fun q z => by cases z
    have s2 : Steps lo K (cdOf g .times) ((a.go (a.p + 1)).slot (.idict [(0, .int (v - 1))])) (gkOf g) ((((a.go (a.p + 1)).slot (.idict [(0, .int (v - 1))])).round).go 4) := by
      have h3 : ((a.go (a.p + 1)).slot (.idict [(0, .int (v - 1))])).p = 3 := by simp [AS.go, AS.slot, hp]
      cases g with
      | true =>
        have := steps_do (lo := lo) (K := K) (c := cdOf true .times) (a := (a.go (a.p + 1)).slot (.idict [(0, .int (v - 1))])) (by rw [h3]; rfl) ht
        rw [h3] at this; exact this
      | false =>
        obtain ⟨p1, q1, q2, q3⟩ := (para false .times).at_
        have := steps_perf (lo := lo) (K := K) (c := cdOf false .times) (a := (a.go (a.p + 1)).slot (.idict [(0, .int (v - 1))])) (by rw [h3]; rfl) q1 q2 q3 ht
        rw [h3] at this; exact this
    have s3 := steps_jump (lo := lo) (K := K) (c := cdOf g .times) (a := (((a.go (a.p + 1)).slot (.idict [(0, .int (v - 1))])).round).go 4) (lab := 2) rfl ht
    obtain ⟨a', s4, e1, e2, e3, e4, e5, e6⟩ := times_loop m (((((a.go (a.p + 1)).slot (.idict [(0, .int (v - 1))])).round).go 4).go 2) (v - 1) rfl hd hs rfl (by lia)
    refine ⟨a', ?_, e1, e2, ?_, e4, e5, e6⟩
    · have := ((s1.trans s2).trans s3).trans s4
      rw [show (m + 1) * (2 + gkOf g) + 1 = 1 + gkOf g + 1 + (m * (2 + gkOf g) + 1) by rw [Nat.succ_mul]; lia]
      exact this
    · rw [e3]
      show (a.rounds ++ [(a.A, a.B, a.C)]) ++ _ = _
      rw [hsn, List.append_assoc]; rfl
def wholeOf (x : Int) : Bool → Int
  | false => x
  | true => if x < 0 then -((-x).fdiv 10) else x.fdiv 10
def scaleOf : Bool → Int
  | false => 0
  | true => 1
theorem runs_times {g : Bool} {d : D} {x : Int} {sc : Bool} {m : Nat} (hx : x.natAbs < 100) (hm : (wholeOf x sc).toNat = m) (hm2 : m ≤ 10) : Runs lo K g .times (numT x (scaleOf sc)) d d (List.replicate m d.sn) := by
  have hg := gk_le g
  refine ⟨2 + (m * (2 + gkOf g) + 1), ?_, fun a hc hN hl hr => ?_⟩
  · have : m * (2 + gkOf g) ≤ 10 * 5 := Nat.mul_le_mul hm2 (by lia)
    lia
  · obtain ⟨hp, hd, hs, hsl⟩ := hc
    have s1 := steps_pushN (lo := lo) (K := K) (c := cdOf g .times) (a := a) (by rw [hp]; rfl) hs (Calm.ht ⟨hp, hd, hs, hsl⟩)
    have key : ∃ a2, Steps lo K (cdOf g .times) (((a.go (a.p + 1)).say "asked").stack [a.N]) 1 a2 ∧ a2.p = 2 ∧ a2.d = d ∧ a2.stk = [] ∧ a2.slots = .idict [(0, .int (wholeOf x sc))] ∧ a2.rounds = [] ∧ a2.N = a.N ∧ a2.log = [s_ "asked"] := by
      cases sc with
      | false => exact ⟨_, steps_count0 (x := x) (by simp only [AS.stack, AS.say, AS.go, hp]; rfl) (by rw [hN]; rfl) (by lia) hsl, by simp [AS.stack, AS.say, AS.go, AS.slot, hp], hd, rfl, rfl, hr, rfl, by simp [AS.stack, AS.say, AS.go, AS.slot, hl]⟩
      | true => exact ⟨_, steps_count1 (x := x) (by simp only [AS.stack, AS.say, AS.go, hp]; rfl) (by rw [hN]; rfl) hsl, by simp [AS.stack, AS.say, AS.go, AS.slot, hp], hd, rfl, rfl, hr, rfl, by simp [AS.stack, AS.say, AS.go, AS.slot, hl]⟩
    obtain ⟨a2, s2, f1, f2, f3, f4, f5, f6, f7⟩ := key
    obtain ⟨a', s4, e1, e2, e3, e4, e5, e6⟩ := times_loop (lo := lo) (K := K) (g := g) m a2 _ f1 f2 f3 f4 hm
    exact ⟨a', (s1.trans s2).trans s4, e1, e2, by rw [e3, f5]; rfl, by rw [e4, f6, hN], e5, fun _ => by rw [e6, f7]⟩
end
def cellsO (zs : List Int) : O := .list (zs.map V.int)
def cellsJ (n : Nat) (zs : List Int) : O := .list (V.mps (jof [0, 1] n) (zs.map V.int))
theorem cellsJ_eq (n : Nat) (zs : List Int) : cellsJ n zs = cellsO zs := by
  unfold cellsJ cellsO
  rw [mps_map, List.map_map]
  exact congrArg O.list (List.map_congr_left fun z _ => rfl)
def orcC (many spot rest : Int) (zs : List Int) (n : Nat) (cells : O) : Prop := (V.mps (jof [0, 1] n) [.hnd 0, .int many], [penO spot rest, cellsO zs].map (O.mp (jof [0, 1] n))) = ([.hnd 0, .int many], [penO spot rest, cells])
theorem orcC_ok {many spot rest : Int} {zs : List Int} {n : Nat} {cells : O} (h : cells = cellsO zs) : orcC many spot rest zs n cells := by
  subst h
  show (_, _) = (_, _)
  have : (cellsO zs).mp (jof [0, 1] n) = cellsO zs := cellsJ_eq n zs
  simp only [List.map_cons, List.map_nil, this]
  rfl
abbrev dr (many s r d s' r' : Int) (zs : List Int) : Orc × List Nat := (drawOrc many s r d s' r' zs, [0, 1])
def loopSeg (s r : Int) (zs : List Int) (N : V) (d : D) (rows : List Row) (l : List V) : Sto := [penO s r, cellsO zs, dicO N d, .list (rows.map rowR), .list l]
def rhoL (p am rw sn : Nat) : Loc := [(S "pen", .hnd p), (S "amounts", .hnd am), (S "rows", .hnd rw), (S "seen_rounds", .hnd sn)]
def rhoL2 (p am rw sn : Nat) (x : Int) (aft : Bool) : Loc := rhoL p am rw sn ++ [(S "way", .int x), (S "is_after", .bool aft)]
def rhoL3 (p am rw sn : Nat) (x : Int) (aft : Bool) (row : V) : Loc := rhoL p am rw sn ++ [(S "way", .int x), (S "is_after", .bool aft), (S "row", row)]
def ifL : Stmt := nth f812.body 5
def armL : Bool → List Stmt
  | true => bodyOf ifL
  | false => elseOf ifL
def rows0 (n : Nat) (r1 r2 r3 : Row) : Row := ((rowsOf n r1 r2 r3).getLastD r1)
section
variable (lo : List Str) (K : Params → Frag)
def llR (n : Nat) (st : Sto) (ds : List (Nat × Dec)) (dc : List (Orc × List Nat)) := callX (GG lo K) FF (n + 12) true (.glob 812) [.hnd 0, .hnd 2, .hnd 3, .hnd 4] ⟨st, ds, dc, True⟩
def appN : Nat → Nat → List V → List V
  | _, 0, l => l
  | k, r + 1, l => appN (k + 1) r (l ++ [.hnd k])
def szC : Nat → Nat → List V → Prop → Prop
  | _, 0, _, c => c
  | k, r + 1, l, c => szC (k + 1) r (l ++ [.hnd k]) (Nat.ble l.length sizeLine = true ∧ c)
def nought : V := .tup [.int 0, .int 0]
theorem ll_once (n : Nat) (s r s1 r1 x : Int) (zs : List Int) (N : V) (d : D) (rows : List Row) (l : List V) : llR lo K n (loopSeg s r zs N d rows l) [(1, .b true), (0, .b true)] [dr 5 s r x s1 r1 zs] =
    some (loopV .once, ⟨[penO s1 r1, cellsJ 5 zs, dicO N d, .list (rows.map rowR), .list (l ++ [.hnd 5]), dicO N d], [], [], Nat.ble l.length sizeLine = true ∧ (x == 0) = true ∧ orcC 5 s r zs 5 (cellsO zs) ∧ True⟩) := by kernel_rfl
def rngC (a : Int) (st : Sto) (m : Nat) : Prop := (callB true (.ty "range") [.int (if 0 > a then 0 else a)] st).map (·.1) = some (.rng 0 m 1)
theorem ll_times1 (n m : Nat) (hm : m < 5) (s r s1 r1 s2 r2 x y : Int) (zs : List Int) (N : V) (d : D) (rows : List Row) (l : List V) :
    llR lo K n (loopSeg s r zs N d rows l) ([(1, .b false), (1, .b true), (6, .b false), (8, .v (.rng 0 m 1))] ++ List.replicate m (0, .b true)) [dr 5 s r x s1 r1 zs, dr 60 s1 r1 y s2 r2 zs] =
    some (loopV .times, ⟨[penO s2 r2, cellsJ 5 zs, dicO (numT (y - 15) 1) d, .list (rows.map rowR), .list (appN 5 m l)] ++ List.replicate m (dicO (numT (y - 15) 1) d), [], [],
      szC 5 m l (rngC ((y - 15).fdiv 10) [penO s2 r2, cellsJ 5 zs, dicO (numT (y - 15) 1) d, .list (rows.map rowR), .list l] m ∧ ((y - 15).fmod 10 == 0) = false ∧ orcC 60 s1 r1 zs 5 (cellsJ 5 zs) ∧ (x == 1) = true ∧ (x == 0) = false ∧ orcC 5 s r zs 5 (cellsO zs) ∧ True)⟩) := by
  match m, hm with
  | 0, _ => kernel_rfl
  | 1, _ => kernel_rfl
  | 2, _ => kernel_rfl
  | 3, _ => kernel_rfl
  | 4, _ => kernel_rfl
theorem ll_times0 (n m : Nat) (hm : m < 5) (s r s1 r1 s2 r2 x y : Int) (zs : List Int) (N : V) (d : D) (rows : List Row) (l : List V) :
    llR lo K n (loopSeg s r zs N d rows l) ([(1, .b false), (1, .b true), (6, .b true), (12, .v (.rng 0 m 1))] ++ List.replicate m (0, .b true)) [dr 5 s r x s1 r1 zs, dr 60 s1 r1 y s2 r2 zs] =
    some (loopV .times, ⟨[penO s2 r2, cellsJ 5 zs, dicO (numT ((y - 15).fdiv 10) 0) d, .list (rows.map rowR), .list (appN 5 m l)] ++ List.replicate m (dicO (numT ((y - 15).fdiv 10) 0) d), [], [],
      szC 5 m l (rngC (((y - 15).fdiv 10).fdiv 1) [penO s2 r2, cellsJ 5 zs, dicO (numT ((y - 15).fdiv 10) 0) d, .list (rows.map rowR), .list l] m ∧ ((y - 15).fmod 10 == 0) = true ∧ orcC 60 s1 r1 zs 5 (cellsJ 5 zs) ∧ (x == 1) = true ∧ (x == 0) = false ∧ orcC 5 s r zs 5 (cellsO zs) ∧ True)⟩) := by
  match m, hm with
  | 0, _ => kernel_rfl
  | 1, _ => kernel_rfl
  | 2, _ => kernel_rfl
  | 3, _ => kernel_rfl
  | 4, _ => kernel_rfl
theorem ll_until1 (n : Nat) (s r s1 r1 s2 r2 s3 r3 x y z : Int) (zs : List Int) (N : V) (d : D) (rows : List Row) (l : List V) :
    llR lo K n (loopSeg s r zs N d rows l) [(1, .b false), (1, .b false), (2, .b true), (11, .b true), (5, .b true)] [dr 5 s r x s1 r1 zs, dr 2 s1 r1 y s2 r2 zs, dr 2 s2 r2 z s3 r3 zs] =
    some (.tup [s_ "until", .bool (y == 1), condV "A" (d.A - 1 + z)], ⟨[penO s3 r3, cellsJ 5 zs, dicO nought d, .list (rows.map rowR), .list l], [], [],
      decide (d.A - 1 + z < d.A) = true ∧ (!(y == 1)) = true ∧ orcC 2 s2 r2 zs 5 (cellsJ 5 zs) ∧ (x == 2) = true ∧ orcC 2 s1 r1 zs 5 (cellsJ 5 zs) ∧ (x == 1) = false ∧ (x == 0) = false ∧ orcC 5 s r zs 5 (cellsO zs) ∧ True⟩) := by kernel_rfl
theorem ll_until2 (n : Nat) (s r s1 r1 s2 r2 s3 r3 x y z : Int) (zs : List Int) (N : V) (d : D) (rows : List Row) (l : List V) :
    llR lo K n (loopSeg s r zs N d rows l) [(1, .b false), (1, .b false), (2, .b true), (11, .b false), (1, .b true)] [dr 5 s r x s1 r1 zs, dr 2 s1 r1 y s2 r2 zs, dr 2 s2 r2 z s3 r3 zs] =
    some (loopV (.behind1 (-50)), ⟨[penO s3 r3, cellsJ 5 zs, dicO nought d, .list (rows.map rowR), .list (l ++ [.hnd 5]), dicO nought d], [], [],
      Nat.ble l.length sizeLine = true ∧ (!(y == 1)) = false ∧ orcC 2 s2 r2 zs 5 (cellsJ 5 zs) ∧ (x == 2) = true ∧ orcC 2 s1 r1 zs 5 (cellsJ 5 zs) ∧ (x == 1) = false ∧ (x == 0) = false ∧ orcC 5 s r zs 5 (cellsO zs) ∧ True⟩) := by kernel_rfl
theorem ll_until3 (n : Nat) (s r s1 r1 s2 r2 s3 r3 x y z : Int) (zs : List Int) (N : V) (d : D) (rows : List Row) (l : List V) :
    llR lo K n (loopSeg s r zs N d rows l) [(1, .b false), (1, .b false), (2, .b true), (11, .b true), (5, .b false), (1, .b true)] [dr 5 s r x s1 r1 zs, dr 2 s1 r1 y s2 r2 zs, dr 2 s2 r2 z s3 r3 zs] =
    some (loopV (.behind1 (-50)), ⟨[penO s3 r3, cellsJ 5 zs, dicO nought d, .list (rows.map rowR), .list (l ++ [.hnd 5]), dicO nought d], [], [],
      Nat.ble l.length sizeLine = true ∧ decide (d.A - 1 + z < d.A) = false ∧ (!(y == 1)) = true ∧ orcC 2 s2 r2 zs 5 (cellsJ 5 zs) ∧ (x == 2) = true ∧ orcC 2 s1 r1 zs 5 (cellsJ 5 zs) ∧ (x == 1) = false ∧ (x == 0) = false ∧ orcC 5 s r zs 5 (cellsO zs) ∧ True⟩) := by kernel_rfl
theorem ll_pre (n : Nat) (s r s1 r1 s2 r2 x y : Int) (zs : List Int) (N : V) (d : D) (rows : List Row) (l : List V) :
    blkX (GG lo K) FF (n + 11) f812 true [] 20 (f812.body.take 5) (rhoL 0 2 3 4) ⟨loopSeg s r zs N d rows l, [(1, .b false), (1, .b false), (2, .b false)], [dr 5 s r x s1 r1 zs, dr 2 s1 r1 y s2 r2 zs], True⟩ =
    some ((.next, rhoL2 0 2 3 4 x (y == 1)), ⟨[penO s2 r2, cellsJ 5 zs, dicO N d, .list (rows.map rowR), .list l], [], [], (x == 2) = false ∧ orcC 2 s1 r1 zs 5 (cellsJ 5 zs) ∧ (x == 1) = false ∧ (x == 0) = false ∧ orcC 5 s r zs 5 (cellsO zs) ∧ True⟩) := by kernel_rfl
theorem ll_test (n p : Nat) (x : Int) (aft : Bool) (N : V) (d : D) (rows : List Row) (l : List V) : tstsX (GG lo K) FF (n + 11) f812 true [] (testOf ifL) (rhoL2 p 0 1 2 x aft) ⟨refSeg N d rows l, [], [], True⟩ = some (aft, ⟨refSeg N d rows l, [], [], True⟩) := by kernel_rfl
def setsV (d : D) : List Row → List Bool → D
  | r :: rs, v :: vs => setsV (d.setV r v) rs vs
  | _, _ => d
def setsC : List Row → List Bool → Prop → Prop
  | r :: rs, v :: vs, c => setsC rs vs (decide (r.b ≤ 99) = v ∧ c)
  | _, _, c => c
def setsD : Nat → List Bool → List (Nat × Dec)
  | _, [] => []
  | k, v :: vs => (k, .b v) :: setsD (cond v 5 4) vs
theorem ll_set1 (n p : Nat) (x : Int) (aft v1 : Bool) (N : V) (d : D) (r1 r2 r3 : Row) (l : List V) : blkX (GG lo K) FF (n + 11) f812 true [] 19 [nth (armL aft) 0] (rhoL2 p 0 1 2 x aft) ⟨refSeg N d (rowsOf 1 r1 r2 r3) l, setsD 4 [v1], [], True⟩ =
    some ((.next, rhoL3 p 0 1 2 x aft (rowR (rows0 1 r1 r2 r3))), ⟨refSeg N (setsV d (rowsOf 1 r1 r2 r3) [v1]) (rowsOf 1 r1 r2 r3) l, [], [], setsC (rowsOf 1 r1 r2 r3) [v1] True⟩) := by
  cases aft <;> cases v1 <;> kernel_rfl
theorem ll_set2 (n p : Nat) (x : Int) (aft v1 v2 : Bool) (N : V) (d : D) (r1 r2 r3 : Row) (l : List V) : blkX (GG lo K) FF (n + 11) f812 true [] 19 [nth (armL aft) 0] (rhoL2 p 0 1 2 x aft) ⟨refSeg N d (rowsOf 2 r1 r2 r3) l, setsD 4 [v1, v2], [], True⟩ =
    some ((.next, rhoL3 p 0 1 2 x aft (rowR (rows0 2 r1 r2 r3))), ⟨refSeg N (setsV d (rowsOf 2 r1 r2 r3) [v1, v2]) (rowsOf 2 r1 r2 r3) l, [], [], setsC (rowsOf 2 r1 r2 r3) [v1, v2] True⟩) := by
  cases aft <;> cases v1 <;> cases v2 <;> kernel_rfl
theorem ll_set3 (n p : Nat) (x : Int) (aft v1 v2 v3 : Bool) (N : V) (d : D) (r1 r2 r3 : Row) (l : List V) : blkX (GG lo K) FF (n + 11) f812 true [] 19 [nth (armL aft) 0] (rhoL2 p 0 1 2 x aft) ⟨refSeg N d (rowsOf 3 r1 r2 r3) l, setsD 4 [v1, v2, v3], [], True⟩ =
    some ((.next, rhoL3 p 0 1 2 x aft (rowR (rows0 3 r1 r2 r3))), ⟨refSeg N (setsV d (rowsOf 3 r1 r2 r3) [v1, v2, v3]) (rowsOf 3 r1 r2 r3) l, [], [], setsC (rowsOf 3 r1 r2 r3) [v1, v2, v3] True⟩) := by
  cases aft <;> cases v1 <;> cases v2 <;> cases v3 <;> kernel_rfl
theorem ll_args (n p : Nat) (x : Int) (aft : Bool) (row : V) (N : V) (d : D) (rows : List Row) (l : List V) : expsX (GG lo K) FF (n + 11) f812 true [] (argsOf (valOf (nth (armL aft) 1))) (rhoL3 p 0 1 2 x aft row) ⟨refSeg N d rows l, [], [], True⟩ =
    some ([.hnd 0, .hnd 1, .int 0, .hnd 2], ⟨refSeg N d rows l, [], [], True⟩) := by cases aft <;> kernel_rfl
theorem ll_ret (n p : Nat) (x : Int) (aft : Bool) (row : V) (N : V) (d : D) (m : Nat) (hm : 1 ≤ m ∧ m ≤ 3) (r1 r2 r3 : Row) (l : List V) : blkX (GG lo K) FF (n + 11) f812 true [] 20 (f812.body.drop 6) (rhoL3 p 0 1 2 x aft row) ⟨refSeg N d (rowsOf m r1 r2 r3) l, [], [], True⟩ =
    some ((.ret (loopV (.vary aft (rowsOf m r1 r2 r3))), rhoL3 p 0 1 2 x aft row ++ [(S "told", .hnd 3)]), ⟨refSeg N d (rowsOf m r1 r2 r3) l ++ [.list ((rowsOf m r1 r2 r3).map rowV)], [], [], True⟩) := by
  match m, hm with
  | 1, _ => kernel_rfl
  | 2, _ => kernel_rfl
  | 3, _ => kernel_rfl
end
theorem ahead_less {rows : List Row} {d d' : D} {w : List (Int × Int × Int)} {k : Nat} (h : Ahead 3 rows d d' w k) : ∃ k', Ahead 1 rows d d' w k' ∧ k' ≤ k := by
  induction h with
  | stop hv => exact ⟨2, .stop hv, Nat.le_refl _⟩
  | last hv hs _ ih =>
    obtain ⟨k', h1, h2⟩ := ih
    exact ⟨_, .last hv hs h1, by lia⟩
  | step hv _ hs _ ih1 ih2 =>
    obtain ⟨k1, h1, h2⟩ := ih1
    obtain ⟨k2, h3, h4⟩ := ih2
    exact ⟨_, .step hv h1 hs h3, by lia⟩
theorem behind_less {rows : List Row} {d d' : D} {w : List (Int × Int × Int)} {k : Nat} (h : Behind 3 rows d d' w k) : ∃ k', Behind 1 rows d d' w k' ∧ k' ≤ k := by
  induction h with
  | nil => exact ⟨1, .nil, by lia⟩
  | over _ hv ih =>
    obtain ⟨k', h1, h2⟩ := ih
    exact ⟨_, .over h1 hv, by lia⟩
  | again _ hv hs _ ih1 ih2 =>
    obtain ⟨k1, h1, h2⟩ := ih1
    obtain ⟨k2, h3, h4⟩ := ih2
    exact ⟨_, .again h1 hv hs h3, by lia⟩
structure LoopAt (b : Sto) (p c am rw sn : Nat) (s r : Int) (zs : List Int) (N : V) (d : D) (rows : List Row) (l : List V) : Prop where
  nd : ([p, c, am, rw, sn] : List Nat).Nodup
  p : b[p]? = some (.list [.hnd c, .int s, .int r])
  c : b[c]? = some (cellsO zs)
  a : b[am]? = some (dicO N d)
  r : b[rw]? = some (.list (rows.map rowR))
  s : b[sn]? = some (.list l)
section
variable {b b' : Sto} {p c am rw sn : Nat} {s r s' r' : Int} {zs : List Int} {N N' : V} {d d' : D} {rows : List Row} {l l' : List V} {new : Sto}
theorem five : ([p, c, am, rw, sn] : List Nat).length ≤ far := by unfold far; simp
theorem cells_mp (e : Nat → Nat) (zs : List Int) : (cellsO zs).mp e = cellsO zs := by
  unfold cellsO
  rw [O.mp, mps_map, List.map_map]
  exact congrArg O.list (List.map_congr_left fun z _ => rfl)
theorem LoopAt.ref (R : LoopAt b p c am rw sn s r zs N d rows l) : RefAt b am rw sn N d rows l := by
  have := R.nd
  simp only [List.nodup_cons, List.mem_cons, List.not_mem_nil, or_false, not_or] at this
  exact ⟨this.2.2.1.1, this.2.2.1.2, this.2.2.2.1, R.a, R.r, R.s⟩
theorem LoopAt.in_ (R : LoopAt b p c am rw sn s r zs N d rows l) : In b [p, c, am, rw, sn] (loopSeg s r zs (N.mp up) d rows (V.mps up l)) := by
  refine In.of R.nd trivial ⟨R.p, ?_, ?_, ?_, ?_, trivial⟩
  · rw [cells_mp]; exact R.c
  · rw [dic_mp, mp_up five]; exact R.a
  · show _ = some (O.list _); rw [rows_flat]; exact R.r
  · show _ = some (O.list _); rw [mps_up five]; exact R.s
theorem LoopAt.next {a : Sto} {cs : O} (R : LoopAt b p c am rw sn s r zs N d rows l) (hc : cs = cellsO zs) (X : Out2 [p, c, am, rw, sn] a b ([penO s' r', cs, dicO N' d', .list (rows.map rowR), .list l'] ++ new) b') : LoopAt b' p c am rw sn s' r' zs (N'.mp (eof [p, c, am, rw, sn] b.length)) d' rows (V.mps (eof [p, c, am, rw, sn] b.length) l') := by
  subst hc
  refine ⟨R.nd, X.get 0 _ rfl, ?_, ?_, ?_, ?_⟩
  · have := X.get 1 _ rfl
    rw [cells_mp] at this; exact this
  · have := X.get 2 _ rfl
    rw [dic_mp] at this; exact this
  · have := X.get 3 _ rfl
    have h : b'[rw]? = some (O.list _) := this
    rw [rows_flat] at h; exact h
  · exact X.get 4 _ rfl
theorem appN_eq : ∀ (m k : Nat) (l : List V), appN k m l = l ++ (List.range' k m).map V.hnd
  | 0, k, l => by simp [appN]
  | m + 1, k, l => by rw [appN, appN_eq m]; simp [List.range'_succ]
theorem szC_of : ∀ (m k : Nat) (l : List V) {c : Prop}, c → l.length + m ≤ 1000 → szC k m l c
  | 0, k, l, c, h, _ => h
  | m + 1, k, l, c, h, hl => szC_of m (k + 1) _ ⟨Nat.ble_eq_true_of_le (by unfold sizeLine; lia), h⟩ (by simp; lia)
theorem range_mp {jl : List Nat} {n : Nat} (hf : jl.length + 100 ≤ far) : ∀ (m k : Nat), m + k ≤ 50 → V.mps (eof jl n) ((List.range' (jl.length + k) m).map V.hnd) = (List.range' (n + k) m).map V.hnd
  | 0, k, _ => rfl
  | m + 1, k, h => by
    have e : eof jl n (jl.length + k) = n + k := by rw [eof_new (by lia) (by lia)]; lia
    rw [List.range'_succ, List.map_cons, V.mps, V.mp, e, show jl.length + k + 1 = jl.length + (k + 1) by lia, range_mp hf m (k + 1) (by lia), List.range'_succ]
    rfl
theorem heard_range {jl : List Nat} {N : V} {x : Int × Int × Int} : ∀ (m k : Nat), (∀ i, i < m → b[k + i]? = some (.sdict (dicV N x.1 x.2.1 x.2.2)) ∧ k + i ∉ jl) → HeardAt b jl N ((List.range' k m).map V.hnd) (List.replicate m x)
  | 0, k, _ => .nil
  | m + 1, k, h => .cons (h 0 (by lia)).2 (h 0 (by lia)).1 <| heard_range m (k + 1) fun i hi => by
      have := h (i + 1) (by lia)
      rw [show k + 1 + i = k + (i + 1) by lia]; exact this
end
def Coded (lo : List Str) (K : Params → Frag) (sh : Shape) : Prop := ∀ n g, compSays lo K n g sh
section
variable (lo : List Str) (K : Params → Frag)
theorem coded_rows {m : Nat} (hm : 1 ≤ m ∧ m ≤ 3) (aft : Bool) (r1 r2 r3 : Row) : Coded lo K (.vary aft (rowsOf m r1 r2 r3)) := by
  intro n g
  match m, hm, aft with
  | 1, _, false => exact comp_v1 lo K n g _
  | 2, _, false => exact comp_v2 lo K n g _ _
  | 3, _, false => exact comp_v3 lo K n g _ _ _
  | 1, _, true => exact comp_w1 lo K n g _
  | 2, _, true => exact comp_w2 lo K n g _ _
  | 3, _, true => exact comp_w3 lo K n g _ _ _
end
theorem flat_rows : ∀ rows : List Row, flatVs (rows.map rowV) = true
  | [] => rfl
  | ⟨x, _, _, _⟩ :: rs => by
    rw [List.map_cons, flatVs, flat_rows rs, Bool.and_true]
    cases x <;> rfl
theorem flat_loop (sh : Shape) : flatV (loopV sh) = true := by
  cases sh with
  | once => rfl
  | times => rfl
  | ahead1 l => rfl
  | behind1 l => rfl
  | vary aft rows =>
    unfold loopV
    simp only [flatV, flatVs, flat_rows]
    rfl
inductive LoopRes (lo : List Str) (K : Params → Frag) (n : Nat) (b : Sto) (p c am rw sn : Nat) (s : Int) (zs : List Int) (rows : List Row) (d : D) : Prop
  | mk {b' : Sto} {sh : Shape} {u v : Int} {d' : D} {w : List (Int × Int × Int)} {s' r' : Int} {hs : List V} (e : callF (GG lo K) FF (n + 12) true (.glob 812) [.hnd p, .hnd am, .hnd rw, .hnd sn] b = some (.ok (loopV sh), b')) (R : LoopAt b' p c am rw sn s' r' zs (numT u v) d' rows hs) (H : HeardAt b' [p, c, am, rw, sn] (numT u v) hs w) (F : Fresh b hs)
    (k : Keep [p, c, am, rw, sn] b b') (s0 : s ≤ s') (s1 : s' ≤ s + 3) (r0 : 0 ≤ r') (runs : ∀ g, Runs lo K g sh (numT u v) d d' w) (cd : Coded lo K sh) (wl : w.length ≤ 4000) : LoopRes lo K n b p c am rw sn s zs rows d
theorem oN {G : Pg} {F : Fs} : ∀ q ∈ ([] : List (Orc × List Nat)), OrcOk G F q.1 := fun _ h => absurd h List.not_mem_nil
theorem oC {G : Pg} {F : Fs} {p : Orc × List Nat} {l : List (Orc × List Nat)} (h : OrcOk G F p.1) (t : ∀ q ∈ l, OrcOk G F q.1) : ∀ q ∈ p :: l, OrcOk G F q.1 := List.forall_mem_cons.mpr ⟨h, t⟩
theorem beq_t {x y : Int} (h : x = y) : (x == y) = true := beq_iff_eq.mpr h
theorem beq_f {x y : Int} (h : x ≠ y) : (x == y) = false := beq_eq_false_iff_ne.mpr h
theorem tm1 {q : Int} (h : q ≤ 4) : q.toNat < 5 := by lia
theorem tm2 {q : Int} (a : -50 ≤ q) (b : q ≤ 50) : q.natAbs < 100 := by lia
theorem tmA {y : Int} (h0 : 0 ≤ y) (h1 : y < 60) : ((y - 15).fdiv 10).toNat < 5 ∧ ((y - 15).fdiv 10).natAbs < 100 ∧ (y - 15).natAbs < 100 := by
  have a := Int.mul_fdiv_add_fmod (y - 15) 10
  have b := Int.fmod_nonneg_of_pos (y - 15) (show (0:Int) < 10 by decide)
  have c := Int.fmod_lt_of_pos (y - 15) (show (0:Int) < 10 by decide)
  generalize (y - 15).fdiv 10 = q at *
  exact ⟨tm1 (by lia), tm2 (by lia) (by lia), tm2 (by lia) (by lia)⟩
theorem tmB {y : Int} : (wholeOf y true).toNat = (y.fdiv 10).toNat := by
  show (if y < 0 then -((-y).fdiv 10) else y.fdiv 10).toNat = _
  have h1 := Int.mul_fdiv_add_fmod y 10
  have h2 := Int.fmod_lt_of_pos y (show (0:Int) < 10 by decide)
  split
  · have := Int.fdiv_nonneg (a := -y) (b := 10) (by lia) (by decide)
    have := Int.fmod_nonneg_of_pos y (show (0:Int) < 10 by decide)
    lia
  · rfl
theorem rng_of {a : Int} {st : Sto} {m : Nat} (h : a.toNat = m) : rngC a st m := by
  unfold rngC callB
  have : (if 0 > a then 0 else a) = (m : Int) := by split <;> lia
  rw [this]; rfl
section
variable {lo : List Str} {K : Params → Frag} {n : Nat} {b b' a' : Sto} {p c am rw sn : Nat} {s r s1 r1 s2 r2 s3 r3 x y z : Int} {zs : List Int} {d : D} {rows : List Row} {ds : List (Nat × Dec)} {dc : List (Orc × List Nat)} {cs P : Prop}
theorem ll_run {v : V} (R : LoopAt b p c am rw sn s r zs nought d rows []) (h : llR lo K n (loopSeg s r zs nought d rows []) ds dc = some (v, ⟨a', [], [], cs⟩)) (hc : cs) (ho : ∀ q ∈ dc, OrcOk (GG lo K) FF q.1) (hy : flatV v = true) (hl : a'.length ≤ 100)
    (k : ∀ b', callF (GG lo K) FF (n + 12) true (.glob 812) [.hnd p, .hnd am, .hnd rw, .hnd sn] b = some (.ok v, b') → Out2 [p, c, am, rw, sn] (loopSeg s r zs nought d rows []) b a' b' → P) : P := by
  obtain ⟨b', e, X⟩ := R.in_.run (mp := V.mp) (m := callX (GG lo K) FF (n + 12) true (.glob 812) [.hnd 0, .hnd 2, .hnd 3, .hnd 4]) (m' := fun e => callF (GG lo K) FF (n + 12) true (.glob 812) (V.mps e [.hnd 0, .hnd 2, .hnd 3, .hnd 4]))
    (fun N e => callX_tr G0_plain (n + 12) true (.glob 812) _) h hc ho (by unfold far; lia)
  exact k b' (flat_mp hy (e := eof [p, c, am, rw, sn] b.length) ▸ e) X
theorem LoopAt.off {l : List V} {N : V} (R : LoopAt b p c am rw sn s r zs N d rows l) {k : Nat} (h : b.length ≤ k) : k ∉ [p, c, am, rw, sn] := by
  have h1 := lt_of_get R.p; have h2 := lt_of_get R.c; have h3 := lt_of_get R.a; have h4 := lt_of_get R.r; have h5 := lt_of_get R.s
  clear R
  simp only [List.mem_cons, List.not_mem_nil, or_false]
  lia
theorem noted {u v : Int} {m : Nat} (R : LoopAt b p c am rw sn s r zs nought d rows []) (hm : m ≤ 10)
    (X : Out2 [p, c, am, rw, sn] (loopSeg s r zs nought d rows []) b ([penO s1 r1, cellsJ 5 zs, dicO (numT u v) d, .list (rows.map rowR), .list ((List.range' 5 m).map V.hnd)] ++ List.replicate m (dicO (numT u v) d)) b')
    (k : LoopAt b' p c am rw sn s1 r1 zs (numT u v) d rows ((List.range' b.length m).map V.hnd) → HeardAt b' [p, c, am, rw, sn] (numT u v) ((List.range' b.length m).map V.hnd) (List.replicate m d.sn) → Fresh b ((List.range' b.length m).map V.hnd) → P) : P := by
  have R2 := R.next (cellsJ_eq 5 zs) X
  have hrm : V.mps (eof [p, c, am, rw, sn] b.length) ((List.range' 5 m).map V.hnd) = _ := range_mp (jl := [p, c, am, rw, sn]) (by unfold far; simp) m 0 (by lia)
  rw [hrm] at R2
  refine k R2 (heard_range m _ fun i hi => ⟨new_at (jl := [p, c, am, rw, sn]) (a' := [penO s1 r1, cellsJ 5 zs, dicO (numT u v) d, .list (rows.map rowR), .list ((List.range' 5 m).map V.hnd)]) (new := List.replicate m (dicO (numT u v) d)) rfl X (by unfold far; simp; lia) i (dicO (numT u v) d) (by simp [hi]), R.off (by lia)⟩) fun k hk => ?_
  obtain ⟨z, hz, e⟩ := List.mem_map.mp hk
  exact sInj (congrArg V.hnd? e) ▸ (List.mem_range'_1.mp hz).1
theorem small_once (R : LoopAt b p c am rw sn s r zs nought d rows []) (D1 : Drawn 5 s r x s1 r1) (o1 : OrcOk (GG lo K) FF (drawOrc 5 s r x s1 r1 zs)) (x0 : x = 0) : LoopRes lo K n b p c am rw sn s zs rows d :=
  ll_run R (ll_once lo K n s r s1 r1 x zs nought d rows []) ⟨rfl, beq_t x0, orcC_ok rfl, trivial⟩ (oC o1 oN) rfl (Nat.le_of_ble_eq_true rfl) fun b' e X => noted (m := 1) (u := 0) (v := 0) R (by decide) X fun R2 H F =>
    .mk (sh := .once) e R2 H F X.keep D1.s0 (Int.le_trans D1.s1 (by lia)) D1.r0 (fun g => runs_once g nought d) (fun n g => comp_once lo K n g) (Nat.le_of_ble_eq_true rfl)
theorem small_behind (R : LoopAt b p c am rw sn s r zs nought d rows []) (h : llR lo K n (loopSeg s r zs nought d rows []) ds dc = some (loopV (.behind1 (-50)), ⟨[penO s3 r3, cellsJ 5 zs, dicO nought d, .list (rows.map rowR), .list [.hnd 5], dicO nought d], [], [], cs⟩)) (hc : cs) (ho : ∀ q ∈ dc, OrcOk (GG lo K) FF q.1)
    (s0 : s ≤ s3) (s1 : s3 ≤ s + 3) (r0 : 0 ≤ r3) (hA : 0 ≤ d.A) : LoopRes lo K n b p c am rw sn s zs rows d :=
  ll_run R h hc ho rfl (Nat.le_of_ble_eq_true rfl) fun b' e X => noted (m := 1) (u := 0) (v := 0) R (by decide) X fun R2 H F =>
    .mk (sh := .behind1 (-50)) e R2 H F X.keep s0 s1 r0 (fun g => runs_behind1 g nought d (-50) (by lia)) (fun n g => comp_behind1 lo K n g _) (Nat.le_of_ble_eq_true rfl)
theorem small_until (hz : zs.length ≤ 63) (h0 : 0 ≤ s1) (h1 : s1 ≤ 901) (hr : 0 ≤ r1) (g0 : s ≤ s1) (g1 : s1 ≤ s + 1) (hA : 0 ≤ d.A) (R : LoopAt b p c am rw sn s r zs nought d rows []) (o1 : OrcOk (GG lo K) FF (drawOrc 5 s r x s1 r1 zs)) (x0 : (x == 0) = false) (x1 : (x == 1) = false) (x2 : (x == 2) = true) : LoopRes lo K n b p c am rw sn s zs rows d := by
  obtain ⟨y, s2, r2, D2, o2⟩ := draw_ok (lo := lo) (K := K) zs hz (many := 2) (spot := s1) (rest := r1) h0 (by lia) hr (by decide) (by decide)
  have e2 := D2.s0; have e3 := D2.s1
  obtain ⟨z, s3, r3, D3, o3⟩ := draw_ok (lo := lo) (K := K) zs hz (many := 2) (spot := s2) (rest := r2) (by lia) (by lia) D2.r0 (by decide) (by decide)
  have q0 : s ≤ s3 := by have := D3.s0; lia
  have q1 : s3 ≤ s + 3 := by have := D3.s1; lia
  have ho := oC (p := dr 5 s r x s1 r1 zs) (l := [dr 2 s1 r1 y s2 r2 zs, dr 2 s2 r2 z s3 r3 zs]) o1 (oC o2 (oC o3 oN))
  have hc : orcC 2 s2 r2 zs 5 (cellsJ 5 zs) ∧ (x == 2) = true ∧ orcC 2 s1 r1 zs 5 (cellsJ 5 zs) ∧ (x == 1) = false ∧ (x == 0) = false ∧ orcC 5 s r zs 5 (cellsO zs) ∧ True := ⟨orcC_ok (cellsJ_eq 5 zs), x2, orcC_ok (cellsJ_eq 5 zs), x1, x0, orcC_ok rfl, trivial⟩
  cases hy : (y == 1) with
  | true => exact small_behind R (ll_until2 lo K n s r s1 r1 s2 r2 s3 r3 x y z zs nought d rows []) ⟨rfl, congrArg not hy, hc⟩ ho q0 q1 D3.r0 hA
  | false =>
    by_cases hb : d.A - 1 + z < d.A
    · refine ll_run R (ll_until1 lo K n s r s1 r1 s2 r2 s3 r3 x y z zs nought d rows []) ⟨decide_eq_true hb, congrArg not hy, hc⟩ ho rfl (Nat.le_of_ble_eq_true rfl) fun b' e X => ?_
      rw [hy] at e
      exact .mk (sh := .ahead1 (d.A - 1 + z)) (u := 0) (v := 0) e (R.next (new := []) (cellsJ_eq 5 zs) X) .nil .nil X.keep q0 q1 D3.r0 (fun g => runs_ahead1 g nought d _ hb) (fun n g => comp_ahead1 lo K n g _) (Nat.zero_le _)
    · exact small_behind R (ll_until3 lo K n s r s1 r1 s2 r2 s3 r3 x y z zs nought d rows []) ⟨rfl, decide_eq_false hb, congrArg not hy, hc⟩ ho q0 q1 D3.r0 hA
theorem times_fin {m : Nat} {u : Int} {sc : Bool} (R : LoopAt b p c am rw sn s r zs nought d rows []) (hm : m < 5) (hu : u.natAbs < 100) (hw : (wholeOf u sc).toNat = m) (s0 : s ≤ s2) (s1 : s2 ≤ s + 3) (r0 : 0 ≤ r2)
    (h : llR lo K n (loopSeg s r zs nought d rows []) ds dc = some (loopV .times, ⟨[penO s2 r2, cellsJ 5 zs, dicO (numT u (scaleOf sc)) d, .list (rows.map rowR), .list (appN 5 m [])] ++ List.replicate m (dicO (numT u (scaleOf sc)) d), [], [], cs⟩)) (hc : cs) (ho : ∀ q ∈ dc, OrcOk (GG lo K) FF q.1) : LoopRes lo K n b p c am rw sn s zs rows d := by
  rw [appN_eq, List.nil_append] at h
  exact ll_run R h hc ho rfl (by simp; lia) fun b' e X => noted R (by lia) X fun R2 H F => .mk (sh := .times) e R2 H F X.keep s0 s1 r0 (fun g => runs_times hu hw (by lia)) (fun n g => comp_times lo K n g) (by rw [List.length_replicate]; lia)
theorem small_times (hz : zs.length ≤ 63) (h0 : 0 ≤ s1) (h1 : s1 ≤ 901) (hr : 0 ≤ r1) (g0 : s ≤ s1) (g1 : s1 ≤ s + 1) (R : LoopAt b p c am rw sn s r zs nought d rows []) (o1 : OrcOk (GG lo K) FF (drawOrc 5 s r x s1 r1 zs)) (x0 : (x == 0) = false) (x1 : (x == 1) = true) : LoopRes lo K n b p c am rw sn s zs rows d := by
  obtain ⟨y, s2, r2, D2, o2⟩ := draw_ok (lo := lo) (K := K) zs hz (many := 60) (spot := s1) (rest := r1) h0 (by lia) hr (by decide) (by decide)
  obtain ⟨b1, b2, b3⟩ := tmA D2.d0 D2.d1
  have q0 := Int.le_trans g0 D2.s0
  have q1 : s2 ≤ s + 3 := by have := D2.s1; lia
  have hc : orcC 60 s1 r1 zs 5 (cellsJ 5 zs) ∧ (x == 1) = true ∧ (x == 0) = false ∧ orcC 5 s r zs 5 (cellsO zs) ∧ True := ⟨orcC_ok (cellsJ_eq 5 zs), x1, x0, orcC_ok rfl, trivial⟩
  have hs : ([] : List V).length + ((y - 15).fdiv 10).toNat ≤ 1000 := by show 0 + _ ≤ _; lia
  cases hq : ((y - 15).fmod 10 == 0) with
  | true => exact times_fin (sc := false) R b1 b2 rfl q0 q1 D2.r0 (ll_times0 lo K n _ b1 s r s1 r1 s2 r2 x y zs nought d rows []) (szC_of _ _ _ ⟨rng_of (by rw [Int.fdiv_one]), hq, hc⟩ hs) (oC o1 (oC o2 oN))
  | false => exact times_fin (sc := true) R b1 b3 tmB q0 q1 D2.r0 (ll_times1 lo K n _ b1 s r s1 r1 s2 r2 x y zs nought d rows []) (szC_of _ _ _ ⟨rng_of rfl, hq, hc⟩ hs) (oC o1 (oC o2 oN))
end
noncomputable def lv0 : Nat → Lv
  | 1 => .l11
  | 2 => .l12
  | _ => .l13
theorem M3 {P : Nat → Prop} {m : Nat} (h : 1 ≤ m ∧ m ≤ 3) (a : P 1) (b : P 2) (c : P 3) : P m := by
  rcases (by lia : m = 1 ∨ m = 2 ∨ m = 3) with e | e | e <;> rw [e] <;> assumption
theorem lv0_ok {m : Nat} (hm : 1 ≤ m ∧ m ≤ 3) (r1 r2 r3 : Row) : (lv0 m).n = m ∧ (lv0 m).i = 0 ∧ (lv0 m).suf r1 r2 r3 = rowsOf m r1 r2 r3 ∧ (lv0 m).rem ≤ 2 := M3 (P := fun m => (lv0 m).n = m ∧ (lv0 m).i = 0 ∧ (lv0 m).suf r1 r2 r3 = rowsOf m r1 r2 r3 ∧ (lv0 m).rem ≤ 2) hm ⟨rfl, rfl, rfl, by decide⟩ ⟨rfl, rfl, rfl, by decide⟩ ⟨rfl, rfl, rfl, by decide⟩
theorem rows_nd {m : Nat} (hm : 1 ≤ m ∧ m ≤ 3) (r1 r2 r3 : Row) : ((rowsOf m r1 r2 r3).map Row.x).Nodup := M3 (P := fun m => ((rowsOf m r1 r2 r3).map Row.x).Nodup) hm (show [Nm.A].Nodup by decide) (show [Nm.A, Nm.B].Nodup by decide) (show [Nm.A, Nm.B, Nm.C].Nodup by decide)
theorem rows_len {m : Nat} (hm : 1 ≤ m ∧ m ≤ 3) (r1 r2 r3 : Row) : (rowsOf m r1 r2 r3).length = m := M3 (P := fun m => (rowsOf m r1 r2 r3).length = m) hm rfl rfl rfl
theorem costs {m : Nat} (hm : 1 ≤ m ∧ m ≤ 3) : costA m ≤ 3900 ∧ costB m ≤ 3900 := M3 (P := fun m => costA m ≤ 3900 ∧ costB m ≤ 3900) hm ⟨by decide, by decide⟩ ⟨by decide, by decide⟩ ⟨by decide, by decide⟩
def vsOf (rows : List Row) : List Bool := rows.map fun r => decide (r.b ≤ 99)
theorem setsV_eq : ∀ (rows : List Row) (d : D), setsV d rows (vsOf rows) = d.sets rows
  | [], d => rfl
  | r :: rs, d => by
    show setsV (d.setV r (decide (r.b ≤ 99))) rs (vsOf rs) = _
    rw [setV_dec, setsV_eq rs]; rfl
theorem setsC_ok : ∀ (rows : List Row) {c : Prop}, c → setsC rows (vsOf rows) c
  | [], c, h => h
  | r :: rs, c, h => setsC_ok rs ⟨rfl, h⟩
section
variable {lo : List Str} {K : Params → Frag}
theorem l_fn : FF.fns 812 = some f812 := by kernel_rfl
theorem l_cells : (cellsFrom 0 f812.sc.names []).map (·.1) = [] := by kernel_rfl
theorem l_bind (x y z u : V) : bindLV f812.sc (f812.names.zip [x, y, z, u]) [] = [(S "pen", x), (S "amounts", y), (S "rows", z), (S "seen_rounds", u)] := by kernel_rfl
theorem l_body : f812.body = f812.body.take 5 ++ (ifL :: f812.body.drop 6) := by kernel_rfl
theorem l_ite : planS f812 true ifL = .ite (testOf ifL) (armL true) (armL false) := by kernel_rfl
theorem l_arm (aft : Bool) : armL aft = [nth (armL aft) 0, nth (armL aft) 1] := by cases aft <;> kernel_rfl
theorem l_expr (aft : Bool) : planS f812 true (nth (armL aft) 1) = .expr (valOf (nth (armL aft) 1)) := by cases aft <;> kernel_rfl
theorem l_call (aft : Bool) : planE true false (valOf (nth (armL aft) 1)) = .call (calleeOf (valOf (nth (armL aft) 1))) (argsOf (valOf (nth (armL aft) 1))) := by cases aft <;> kernel_rfl
def goA : Bool → Addr
  | true => 800
  | false => 793
theorem l_name (aft : Bool) (n : Nat) (ρ : Loc) (b : Sto) : expM' (GG lo K) FF n f812 true [] 19 (calleeOf (valOf (nth (armL aft) 1))) ρ b = some (.ok (.glob (goA aft)), b) := by cases aft <;> kernel_rfl
theorem rho2_mp (am rw sn n p : Nat) (x : Int) (aft : Bool) : mpP (eof [am, rw, sn] n) (rhoL2 (up p) 0 1 2 x aft) = rhoL2 p am rw sn x aft := by
  show [(S "pen", V.hnd (eof [am, rw, sn] n (up p))), _, _, _, _, _] = _
  rw [eof_up three]; rfl
theorem rho3_mp (am rw sn n p : Nat) (x : Int) (aft : Bool) (row : V) (h : flatV row = true) : mpP (eof [am, rw, sn] n) (rhoL3 (up p) 0 1 2 x aft row) = rhoL3 p am rw sn x aft row := by
  show [(S "pen", V.hnd (eof [am, rw, sn] n (up p))), _, _, _, _, _, (S "row", row.mp _)] = _
  rw [eof_up three, flat_mp h]; rfl
theorem row_flat (r : Row) : flatV (rowR r) = true := by obtain ⟨x, _, _, _⟩ := r; cases x <;> rfl
variable {n p am rw sn m : Nat} {x : Int} {aft : Bool} {b : Sto} {N : V} {d d' : D} {r1 r2 r3 : Row} {rows : List Row} {l : List V} {P : Prop}
theorem l_set {ds : List (Nat × Dec)} (R : RefAt b am rw sn N d (rowsOf m r1 r2 r3) l)
    (c : ∀ b', blkM (GG lo K) FF (n + 11) f812 true [] 19 [nth (armL aft) 0] (rhoL2 p am rw sn x aft) b = some (.ok (.next, rhoL3 p am rw sn x aft (rowR (rows0 m r1 r2 r3))), b') → RefAt b' am rw sn N (d.sets (rowsOf m r1 r2 r3)) (rowsOf m r1 r2 r3) l → Keep [am, rw, sn] b b' → P)
    (h : blkX (GG lo K) FF (n + 11) f812 true [] 19 [nth (armL aft) 0] (rhoL2 (up p) 0 1 2 x aft) ⟨refSeg (N.mp up) d (rowsOf m r1 r2 r3) (V.mps up l), ds, [], True⟩ =
      some ((.next, rhoL3 (up p) 0 1 2 x aft (rowR (rows0 m r1 r2 r3))), ⟨refSeg (N.mp up) (setsV d (rowsOf m r1 r2 r3) (vsOf (rowsOf m r1 r2 r3))) (rowsOf m r1 r2 r3) (V.mps up l), [], [], setsC (rowsOf m r1 r2 r3) (vsOf (rowsOf m r1 r2 r3)) True⟩)) : P := by
  rw [setsV_eq] at h
  exact R.blk h (rho2_mp ..) rfl (rho3_mp _ _ _ _ _ _ _ _ (row_flat _)) (List.append_nil _).symm (Nat.zero_le _) (setsC_ok _ trivial) c
theorem l_sets (hm : 1 ≤ m ∧ m ≤ 3) (R : RefAt b am rw sn N d (rowsOf m r1 r2 r3) l)
    (c : ∀ b', blkM (GG lo K) FF (n + 11) f812 true [] 19 [nth (armL aft) 0] (rhoL2 p am rw sn x aft) b = some (.ok (.next, rhoL3 p am rw sn x aft (rowR (rows0 m r1 r2 r3))), b') → RefAt b' am rw sn N (d.sets (rowsOf m r1 r2 r3)) (rowsOf m r1 r2 r3) l → Keep [am, rw, sn] b b' → P) : P := by
  rcases (by lia : m = 1 ∨ m = 2 ∨ m = 3) with e | e | e <;> subst e
  · exact l_set R c (ll_set1 lo K n (up p) x aft _ (N.mp up) d r1 r2 r3 (V.mps up l))
  · exact l_set R c (ll_set2 lo K n (up p) x aft _ _ (N.mp up) d r1 r2 r3 (V.mps up l))
  · exact l_set R c (ll_set3 lo K n (up p) x aft _ _ _ (N.mp up) d r1 r2 r3 (V.mps up l))
theorem l_go (hm : 1 ≤ m ∧ m ≤ 3) (hd : d.Ok) (hrow : ∀ q ∈ rowsOf m r1 r2 r3, RowOk q) (R : RefAt b am rw sn N (d.sets (rowsOf m r1 r2 r3)) (rowsOf m r1 r2 r3) [])
    (c : ∀ b5 d' w, callF (GG lo K) FF (n + 11) true (.glob (goA aft)) [.hnd am, .hnd rw, .int 0, .hnd sn] b = some (.ok .none, b5) → RefDone b am rw sn N (rowsOf m r1 r2 r3) [] d' w b5 → w.length ≤ 4000 → (∀ g, Runs lo K g (.vary aft (rowsOf m r1 r2 r3)) N d d' w) → P) : P := by
  obtain ⟨hln, hli, hls, hlr⟩ := lv0_ok hm r1 r2 r3
  have hdok : (d.sets (rowsOf m r1 r2 r3)).Ok := ok_sets hd hrow
  have hlen := rows_len hm r1 r2 r3
  obtain ⟨cA, cB⟩ := costs hm
  have hnn : n + 11 = n + 5 - (lv0 m).rem + (lv0 m).rem + 5 + 1 := by lia
  have R : RefAt b am rw sn N (d.sets (rowsOf m r1 r2 r3)) (rowsOf (lv0 m).n r1 r2 r3) [] := by rw [hln]; exact R
  cases aft with
  | false =>
    obtain ⟨d', w, k, hA, hk, _⟩ := ahead_total (gk := 3) (by decide) _ (fun e => by rw [e] at hlen; have : 0 = m := hlen; lia) hrow (rows_nd hm r1 r2 r3) _ hdok
    rw [hlen] at hk
    have hw := ahead_len hA
    refine ahead_ref (lo := lo) (K := K) hA hls (n := n + 5 - (lv0 m).rem) (f := turns) (by unfold turns; lia) (by lia) (by show 0 + k ≤ _; lia) R fun b5 g1 g2 => c b5 d' w ?_ (by rw [hln] at g2; exact g2) (by lia) fun g => ?_
    · rw [hnn]
      have := a_enter g1; rw [hli] at this; exact this
    · cases g with
      | false => exact runs_ahead hm hA (by lia)
      | true =>
        obtain ⟨k', hA', hk'⟩ := ahead_less hA
        exact runs_ahead hm hA' (by lia)
  | true =>
    obtain ⟨d', w, k, hA, hk, _⟩ := behind_total (gk := 3) (by decide) _ hrow (rows_nd hm r1 r2 r3) _ hdok
    rw [hlen] at hk
    have hw := behind_len (by decide) hA
    refine behind_ref (lo := lo) (K := K) (by decide) hA hls (n := n + 5 - (lv0 m).rem) (f := turns) (o := none) (by unfold turns; lia) (by lia) (by show 0 + k ≤ _; lia) R fun b5 o5 g1 g2 => c b5 d' w ?_ (by rw [hln] at g2; exact g2) (by lia) fun g => ?_
    · rw [hnn]
      have := b_enter g1; rw [hli] at this; exact this
    · cases g with
      | false => exact runs_behind hm hA (by lia)
      | true =>
        obtain ⟨k', hA', hk'⟩ := behind_less hA
        exact runs_behind hm hA' (by lia)
theorem l_ret (hm : 1 ≤ m ∧ m ≤ 3) {row : V} (hr : flatV row = true) (R : RefAt b am rw sn N d (rowsOf m r1 r2 r3) l)
    (c : ∀ b' ρ', blkM (GG lo K) FF (n + 11) f812 true [] 20 (f812.body.drop 6) (rhoL3 p am rw sn x aft row) b = some (.ok (.ret (loopV (.vary aft (rowsOf m r1 r2 r3))), ρ'), b') → RefAt b' am rw sn N d (rowsOf m r1 r2 r3) l → Keep [am, rw, sn] b b' → P) : P :=
  R.blk (ll_ret lo K n (up p) x aft row (N.mp up) d m hm r1 r2 r3 (V.mps up l)) (rho3_mp _ _ _ _ _ _ _ _ hr) (congrArg Fl.ret (flat_mp (flat_loop _))) rfl rfl (Nat.le_of_ble_eq_true rfl) trivial fun b' => c b' _
theorem l_blk {m : Nat} {ρ ρ2 : Loc} {b1 b2 b3 b4 b5 : Sto} {vs : List V} (f2 : tstsM (GG lo K) FF m f812 true [] (testOf ifL) ρ b1 = some (.ok aft, b2)) (f3 : blkM (GG lo K) FF m f812 true [] 19 [nth (armL aft) 0] ρ b2 = some (.ok (.next, ρ2), b3))
    (f4 : expsM (GG lo K) FF m f812 true [] (argsOf (valOf (nth (armL aft) 1))) ρ2 b3 = some (.ok vs, b4)) (f5 : callF (GG lo K) FF m true (.glob (goA aft)) vs b4 = some (.ok .none, b5)) : stS (GG lo K) f812 true (evS (GG lo K) (callF (GG lo K) FF m) f812 true deep) [] (19 + 1) ifL ρ b1 = some (.ok (.next, ρ2), b5) := by
  rw [st_if (d := 19) l_ite f2]
  have ha : (bif aft then armL true else armL false) = armL aft := by cases aft <;> rfl
  rw [ha, l_arm, blk_one f3, blk_cons (st_expr (d := 18) (l_expr aft) (val_call (d := 19) (l_call aft) (l_name aft _ _ _) f4 (keep_mem (by cases aft <;> kernel_rfl)) f5))]
  rfl
theorem l_fun {ρ ρ2 ρ' : Loc} {v : V} {b1 b5 b6 : Sto} {k : Nat} (f1 : blkM (GG lo K) FF k f812 true [] 20 (f812.body.take 5) (rhoL p am rw sn) b = some (.ok (.next, ρ), b1)) (f2 : stS (GG lo K) f812 true (evS (GG lo K) (callF (GG lo K) FF k) f812 true deep) [] (19 + 1) ifL ρ b1 = some (.ok (.next, ρ2), b5))
    (f6 : blkM (GG lo K) FF k f812 true [] 20 (f812.body.drop 6) ρ2 b5 = some (.ok (.ret v, ρ'), b6)) : callF (GG lo K) FF (k + 1) true (.glob 812) [.hnd p, .hnd am, .hnd rw, .hnd sn] b = some (.ok v, b6) := by
  refine call_plain (k := k) (fl := .ret v) (ρ' := ρ') l_fn rfl l_cells (by kernel_rfl) (l_bind _ _ _ _) ?_
  rw [l_body]
  exact (blk_app (d := 20) f1).trans ((blk_cons f2).trans f6)
theorem LoopAt.of_ref {b' : Sto} {p c : Nat} {s r : Int} {zs : List Int} {N' : V} {l' : List V} (R : LoopAt b p c am rw sn s r zs N d rows l) (k : Keep [am, rw, sn] b b') (R' : RefAt b' am rw sn N' d' rows l') : LoopAt b' p c am rw sn s r zs N' d' rows l' := by
  have nd := List.nodup_cons.mp R.nd
  exact ⟨R.nd, k.2 _ _ (fun h => nd.1 (List.mem_cons_of_mem _ h)) R.p, k.2 _ _ (List.nodup_cons.mp nd.2).1 R.c, R'.a, R'.r, R'.s⟩
theorem loop_vary {p c : Nat} {s r x s1 rr : Int} {zs : List Int} (hm : 1 ≤ m ∧ m ≤ 3) (hz : zs.length ≤ 63) (h0 : 0 ≤ s1) (h1 : s1 ≤ 901) (hr : 0 ≤ rr) (g0 : s ≤ s1) (g1 : s1 ≤ s + 1) (hd : d.Ok) (hrow : ∀ q ∈ rowsOf m r1 r2 r3, RowOk q)
    (R : LoopAt b p c am rw sn s r zs nought d (rowsOf m r1 r2 r3) []) (o1 : OrcOk (GG lo K) FF (drawOrc 5 s r x s1 rr zs)) (x0 : (x == 0) = false) (x1 : (x == 1) = false) (x2 : (x == 2) = false) : LoopRes lo K n b p c am rw sn s zs (rowsOf m r1 r2 r3) d := by
  obtain ⟨y, s2, q2, D2, o2⟩ := draw_ok (lo := lo) (K := K) zs hz (many := 2) (spot := s1) (rest := rr) h0 (by lia) hr (by decide) (by decide)
  have e2 := Int.le_trans g0 D2.s0
  have e3 : s2 ≤ s + 3 := by have := D2.s1; lia
  obtain ⟨b1, f1, X1⟩ := R.in_.run (mp := mpF) (m' := fun e => blkM (GG lo K) FF (n + 11) f812 true [] 20 (f812.body.take 5) (mpP e (rhoL 0 2 3 4))) (fun N e => blk_tr G0_plain _ _ _ [] _ _ _) (ll_pre lo K n s r s1 rr s2 q2 x y zs nought d (rowsOf m r1 r2 r3) [])
    ⟨x2, orcC_ok (cellsJ_eq 5 zs), x1, x0, orcC_ok rfl, trivial⟩ (oC (p := dr 5 s r x s1 rr zs) o1 (oC (p := dr 2 s1 rr y s2 q2 zs) o2 oN)) (by unfold far; simp)
  have R1 : LoopAt b1 p c am rw sn s2 q2 zs nought d (rowsOf m r1 r2 r3) [] := R.next (new := []) (cellsJ_eq 5 zs) X1
  refine R1.ref.tst (r := rhoL2 p am rw sn x (y == 1)) (ll_test lo K n (up p) x (y == 1) nought d (rowsOf m r1 r2 r3) []) (rho2_mp ..) fun b2 f2 R2 k2 => l_sets (lo := lo) (K := K) (n := n) (p := p) (x := x) (aft := (y == 1)) hm R2 fun b3 f3 R3 k3 =>
    R3.exps (vs := [.hnd am, .hnd rw, .int 0, .hnd sn]) (ll_args lo K n (up p) x (y == 1) (rowR (rows0 m r1 r2 r3)) nought _ (rowsOf m r1 r2 r3) []) (rho3_mp _ _ _ _ _ _ _ _ (row_flat _)) rfl fun b4 f4 R4 k4 => l_go (lo := lo) (K := K) (n := n) (aft := (y == 1)) hm hd hrow R4 fun b5 d' w f5 D5 hw hruns => D5.elim fun hs R5 H5 k5 F5 =>
    l_ret (lo := lo) (K := K) (n := n) (p := p) (x := x) (aft := (y == 1)) hm (row_flat (rows0 m r1 r2 r3)) R5 fun b6 ρ' f6 R6 k6 => ?_
  have kA := (k2.trans k3).trans k4
  have kk := (kA.trans k5).trans k6
  have RR := R1.of_ref kk R6
  refine .mk (sh := .vary (y == 1) (rowsOf m r1 r2 r3)) (u := 0) (v := 0) (l_fun f1 (l_blk f2 f3 f4 f5) f6) RR ((H5.keep k6).off fun k hk => ?_) (F5.more (Nat.le_trans X1.keep.1 kA.1)) (X1.keep.trans (kk.more fun k h => .tail _ (.tail _ h))) e2 e3 D2.r0 hruns (coded_rows lo K hm _ r1 r2 r3) hw
  obtain ⟨z, hz⟩ := (H5.keep k6).all k hk
  intro h
  rcases List.mem_cons.mp h with e | h
  · rw [e] at hz; exact O.noConfusion (sInj (RR.p.symm.trans hz))
  · rcases List.mem_cons.mp h with e | h
    · rw [e] at hz; exact O.noConfusion (sInj (RR.c.symm.trans hz))
    · exact R4.lt (F5 k hk) h
end
def preSeg (c : Cd) (N : V) (d : D) : Sto :=
  [codeO' c, deedsO 2 3 4 5, lamOb 0 [(S "heard", 7), (S "first", 6)], lamOb 1 [(S "first", 6)], lamOb 2 [(S "log", 8), (S "first", 6)], lamOb 3 [(S "log", 8), (S "first", 6)], cellO 9, cellO 10, cellO 11, dicO N d, .list [], .list []]
def rhoR0 : Loc := [(S "code", .hnd 0), (S "deeds", .hnd 1), (S "limit", .int 4000)]
noncomputable def piM : List Nat := [12, 0, 1, 13, 16, 2, 3, 4, 5, 14, 6, 7, 8, 9, 10, 11, 15, 17]
def newM : Sto := [.inst 548 [(S "code", .hnd 0), (S "deeds", .hnd 1), (S "place", .int 0), (S "stack", .hnd 13), (S "frames", .hnd 16), (S "key", s_ ""), (S "word", s_ "")], .list [], frameO (-1) (-1) 15, .sdict [], .list [.hnd 14], .sdict tableV]
def rhoR1 : Loc := [(S "code", .hnd 0), (S "deeds", .hnd 1), (S "limit", .int 4000), (S "machine", .hnd 12), (S "table", .hnd 17), (S "steps", .int 0)]
section
variable (lo : List Str) (K : Params → Frag)
theorem rc_pre (n : Nat) (c : Cd) (N : V) (d : D) : blkX (GG lo K) FF (n + 15) f664 true [] 20 (f664.body.take 3) rhoR0 ⟨preSeg c N d, [], [], True⟩ = some ((.next, rhoR1), ⟨preSeg c N d ++ newM, [], [], True⟩) := by kernel_rfl
theorem rc_test (n : Nat) (t : MT) (s : Int) (o : V) : tstsX (GG lo K) FF (n + 15) f664 true [] (testOf whS) (rhoX s (some o)) ⟨seg t "stop", [], [], True⟩ = some (false, ⟨seg t "stop", [], [], True⟩) := by kernel_rfl
theorem rc_ret (n : Nat) (t : MT) (s : Int) (o : V) : blkX (GG lo K) FF (n + 15) f664 true [] 20 (f664.body.drop 4) (rhoX s (some o)) ⟨seg t "stop", [], [], True⟩ = some ((.ret (s_ "stop"), rhoX s (some o)), ⟨seg t "stop", [], [], True⟩) := by kernel_rfl
end
section
variable {lo : List Str} {K : Params → Frag}
theorem r_fn : FF.fns 664 = some f664 := by kernel_rfl
theorem r_cells : (cellsFrom 0 f664.sc.names []).map (·.1) = [] := by kernel_rfl
theorem r_bind (x y z : V) : bindLV f664.sc (f664.names.zip [x, y, z]) [] = [(S "code", x), (S "deeds", y), (S "limit", z)] := by kernel_rfl
theorem r_body : f664.body = f664.body.take 3 ++ (whS :: f664.body.drop 4) := by kernel_rfl
theorem r_while : planS f664 true whS = .while_ (testOf whS) (bodyOf whS) := by kernel_rfl
def jlOf (jp : List Nat) (n : Nat) : List Nat := piM.map (eof jp n)
theorem mp_nil (e : Nat → Nat) (d : D) (N : V) (h : flatV N = true) : (dicO N d).mp e = dicO N d := by rw [dic_mp, flat_mp h]
theorem lie_start {b b' : Sto} {jp : List Nat} {c : Cd} {N : V} {d : D} (hin : In b jp (preSeg c N d)) (X : Out2 jp (preSeg c N d) b (preSeg c N d ++ newM) b') (hf : flatV N = true) (hc : flatVs c.ops = true ∧ flatVs c.begins = true) :
    Lie b' (jlOf jp b.length) ⟨c.ops, c.begins, 0, [], N, d.A, d.B, d.C, [], [], S "", .sdict []⟩ "" := by
  have hS := hin.sim (N := 18) (by show 12 ≤ 18; decide) (by unfold far; decide)
  have h1 := X.get 0 _ rfl
  have hco : (codeO' c).mp (eof jp b.length) = codeO' c := by
    simp only [codeO', O.mp, mpP, List.map_cons, List.map_nil, V.mp, flat_mps hc.1, flat_mps hc.2]
  rw [hco] at h1
  have h13 := X.get 9 _ rfl
  rw [mp_nil _ _ _ hf] at h13
  obtain ⟨g1, g2, g3⟩ := hold_at (b := b') (jlOf jp b.length) (a := segE (fun i => (jlOf jp b.length).getD i 0) ⟨c.ops, c.begins, 0, [], N, d.A, d.B, d.C, [], [], S "", .sdict []⟩ "") ⟨X.get 12 _ rfl, h1, X.get 1 _ rfl, X.get 13 _ rfl, X.get 16 _ rfl, X.get 2 _ rfl, X.get 3 _ rfl, X.get 4 _ rfl, X.get 5 _ rfl, X.get 14 _ rfl, X.get 6 _ rfl, X.get 7 _ rfl, X.get 8 _ rfl, h13, X.get 10 _ rfl, X.get 11 _ rfl, X.get 15 _ rfl, X.get 17 _ rfl, trivial⟩
  refine ⟨rfl, List.Pairwise.map _ (fun a b h => h) (List.Pairwise.imp_of_mem (R := fun a b => a ≠ b) (fun hx hy hne he => ?_) (show piM.Nodup by decide)), g2, g3, fun q h => O.noConfusion h⟩
  have lt18 : ∀ z ∈ piM, z < 18 := by decide
  exact hne (hS.inj _ _ (lt18 _ hx) (lt18 _ hy) he)
theorem flat_app : ∀ {a b : List V}, flatVs a = true → flatVs b = true → flatVs (a ++ b) = true
  | [], b, _, h => h
  | x :: a, b, h, h' => by
    rw [flatVs, Bool.and_eq_true] at h
    rw [List.cons_append, flatVs, h.1, flat_app h.2 h']; rfl
theorem flat_of_all : ∀ {l : List V}, (∀ y ∈ l, flatV y = true) → flatVs l = true
  | [], _ => rfl
  | y :: r, h => by rw [flatVs, h y List.mem_cons_self, flat_of_all fun y hy => h y (List.mem_cons_of_mem _ hy)]; rfl
end
theorem flat_code (g : Bool) (sh : Shape) : flatVs (codeOf g sh) = true ∧ (codeOf g sh).length ≤ 100 := by
  cases sh with
  | vary aft rows => rcases rows with _ | ⟨r, _ | ⟨r2, _ | ⟨r3, _ | ⟨r4, rows⟩⟩⟩⟩ <;> cases aft <;> cases g <;> exact ⟨rfl, Nat.le_of_ble_eq_true rfl⟩
  | _ => cases g <;> exact ⟨rfl, Nat.le_of_ble_eq_true rfl⟩
theorem flat_cd (g : Bool) (sh : Shape) : flatVs (cdOf g sh).ops = true ∧ flatVs (cdOf g sh).begins = true := ⟨flat_app (flat_code g sh).1 rfl, rfl⟩
section
variable {lo : List Str} {K : Params → Frag}
theorem Lie.run {α β : Type} {mp : (Nat → Nat) → α → β} {m : XM α} {m' : (Nat → Nat) → M β} {y : α} {ds : List (Nat × Dec)} {cs P : Prop} {b : Sto} {jl : List Nat} {t t' : MT} {w w' : String} (L : Lie b jl t w) (T : ∀ N e, TrX (GG lo K) FF N e (mp e) m (m' e)) (h : m ⟨seg (t.mp up) w, ds, [], True⟩ = some (y, ⟨seg t' w', [], [], cs⟩)) (hc : cs)
    (hs : ∀ q, t'.slots ≠ .tab q) (k : ∀ b', m' (eof jl b.length) b = some (.ok (mp (eof jl b.length) y), b') → Lie b' jl (t'.mp (eof jl b.length)) w' → Keep jl b b' → P) : P := by
  obtain ⟨b', e, X⟩ := L.in_.run T h hc oN (by rw [seg_len]; exact far18)
  exact k b' e (Lie.next (new := []) L (by rw [List.append_nil]; exact X) hs) X.keep
section
variable {n k : Nat} {c : Cd} {b b1 b2 b4 b5 : Sto} {jl jp : List Nat} {a : AS} {heard : List V} {key : Str} {o : Option V} {P : Prop}
theorem run_stop (L : Lie b2 jl (a.mt c heard key) "") (hop : c.ops[a.p]? = some (opStop "stop")) (hcl : c.ops.length ≤ 1000) (hk : (k : Int) < 4000) (hsl : ∀ q, a.slots ≠ .tab q)
    (f : ∀ b3 b4 b5, itMm lo K n (rhoE (fun i => jl.getD i 0) k o) b2 = some (.ok (.next, rhoE (fun i => jl.getD i 0) (k + 1) (some (opStop "stop"))), b3) → tstsM (GG lo K) FF (n + 15) f664 true [] (testOf whS) (rhoE (fun i => jl.getD i 0) (k + 1) (some (opStop "stop"))) b3 = some (.ok false, b4) →
      blkM (GG lo K) FF (n + 15) f664 true [] 20 (f664.body.drop 4) (rhoE (fun i => jl.getD i 0) (k + 1) (some (opStop "stop"))) b4 = some (.ok (.ret (s_ "stop"), rhoE (fun i => jl.getD i 0) (k + 1) (some (opStop "stop"))), b5) → Lie b5 jl ((a.mt c heard key).go (a.p + 1)) "stop" → Keep jl b2 b5 → P) : P := by
  have hsl2 : ∀ q, ((a.mt c heard key).mp up).slots ≠ .tab q := fun q hq => hsl q (omp_tab.mp hq)
  refine L.run (mp := mpF) (m := itX lo K n (rhoX k (o.map (V.mp up)))) (m' := fun e => itMm lo K n (mpP e (rhoX k (o.map (V.mp up))))) (fun N e => it_tr n _) (st_stop lo K n ((a.mt c heard key).mp up) k c.ops.length (o.map (V.mp up))) (fet_of hop rfl hk hcl trivial) hsl2 fun b3 e3 L3 k3 => ?_
  have e3 : itMm lo K n (mpP (eof jl b2.length) (rhoX k (o.map (V.mp up)))) b2 = some (.ok (.next, mpP (eof jl b2.length) (rhoX (k + 1) (some (opStop "stop")))), b3) := e3
  rw [rho_up L.len, rho_some L.len _ rfl] at e3
  have e4 : ((((a.mt c heard key).mp up).go (((a.mt c heard key).mp up).place + 1)).mp (eof jl b2.length)) = (a.mt c heard key).go (a.p + 1) := congrArg (fun t : MT => t.go (a.p + 1)) (mt_back L.len (a.mt c heard key))
  rw [e4] at L3
  refine L3.run (mp := fun _ => id) (m' := fun e => tstsM (GG lo K) FF (n + 15) f664 true [] (testOf whS) (mpP e (rhoX (k + 1) (some (opStop "stop"))))) (fun N e => tsts_tr G0_plain _ _ _ [] _ _) (rc_test lo K n _ (k + 1) (opStop "stop")) trivial hsl2 fun b4 e5 L4 k4 => ?_
  rw [mt_back L.len] at L4
  refine L4.run (mp := mpF) (m' := fun e => blkM (GG lo K) FF (n + 15) f664 true [] 20 (f664.body.drop 4) (mpP e (rhoX (k + 1) (some (opStop "stop"))))) (fun N e => blk_tr G0_plain _ _ _ [] _ _ _) (rc_ret lo K n _ (k + 1) (opStop "stop")) trivial hsl2 fun b5 e6 L5 k5 => ?_
  rw [mt_back L.len] at L5
  have h3 := rho_some (n := b3.length) L.len (k + 1) (op := opStop "stop") rfl
  have h4 := rho_some (n := b4.length) L.len (k + 1) (op := opStop "stop") rfl
  exact f b3 b4 b5 e3 (h3 ▸ e5) (h4 ▸ e6) L5 ((k3.trans k4).trans k5)
theorem run_asm {x y : Nat} {v : V} {ρ1 ρ2 : Loc} (e1 : blkM (GG lo K) FF (n + 15) f664 true [] 20 (f664.body.take 3) [(S "code", .hnd x), (S "deeds", .hnd y), (S "limit", .int 4000)] b = some (.ok (.next, ρ1), b1)) (hl : loopM lo K n turns ρ1 b1 = some (.ok (.next, ρ2), b4))
    (e6 : blkM (GG lo K) FF (n + 15) f664 true [] 20 (f664.body.drop 4) ρ2 b4 = some (.ok (.ret v, ρ2), b5)) : callF (GG lo K) FF (n + 16) true (.glob 664) [.hnd x, .hnd y, .int 4000] b = some (.ok v, b5) := by
  refine call_plain (fl := .ret v) (ρ' := ρ2) r_fn rfl r_cells (by kernel_rfl) (r_bind _ _ _) ?_
  rw [r_body]
  exact (blk_app (d := 20) e1).trans ((blk_cons ((st_while r_while).trans hl)).trans e6)
theorem jl_at (h : jp.length = 12) {n i z : Nat} (hz : piM[i]? = some z) (hz2 : z < 12) : (jlOf jp n)[i]? = some (jp.getD z 0) := by
  unfold jlOf
  rw [List.getElem?_map, hz]
  exact congrArg some (eof_getD (by rw [h]; exact hz2))
theorem jl_getD (h : jp.length = 12) {n i z : Nat} (hz : piM[i]? = some z) (hz2 : z < 12) : (jlOf jp n).getD i 0 = jp.getD z 0 := by
  rw [List.getD_eq_getElem?_getD, jl_at h hz hz2]; rfl
theorem jl_sub (h : jp.length = 12) {n q : Nat} (hq : q ∈ jp) : q ∈ jlOf jp n := by
  obtain ⟨i, hi⟩ := List.getElem?_of_mem hq
  have hi12 : i < 12 := h ▸ lt_of_get hi
  exact List.mem_map.mpr ⟨i, (show ∀ i, i < 12 → i ∈ piM by decide) i hi12, eof_in hi⟩
theorem jl_keep (h : jp.length = 12) (k1 : Keep jp b b1) (kk : Keep (jlOf jp b.length) b1 b5) : Keep jp b b5 := by
  refine ⟨Nat.le_trans k1.1 kk.1, fun q o hq e => kk.2 q o (fun hm => ?_) (k1.2 q o hq e)⟩
  obtain ⟨z, hz, he⟩ := List.mem_map.mp hm
  by_cases h12 : z < jp.length
  · exact hq (he ▸ eof_in (List.getElem?_eq_getElem h12) ▸ List.getElem_mem h12)
  · have hz18 : z < 18 := (show ∀ z ∈ piM, z < 18 by decide) z hz
    rw [eof_new (Nat.not_lt.mp h12) (Nat.lt_of_lt_of_le hz18 far18)] at he
    exact absurd (lt_of_get e) (by lia)
theorem lie_dic {w : String} {i p : Nat} {N : V} {d : D} (L : Lie b jl ((a.mt c heard key).go p) w) (h : jl[13]? = some i) (hN : a.N = N) (hd : a.d = d) : b[i]? = some (dicO N d) := by
  subst hN; subst hd; exact L.get 13 _ _ h rfl
theorem code_at (g : Bool) (sh : Shape) : (cdOf g sh).ops[(codeOf g sh).length]? = some (opStop "stop") := by
  show (codeOf g sh ++ tailOps)[_]? = _
  rw [List.getElem?_append_right (Nat.le_refl _), Nat.sub_self]; rfl
theorem code_len (g : Bool) (sh : Shape) : (cdOf g sh).ops.length ≤ 1000 := by
  show (codeOf g sh ++ tailOps).length ≤ 1000
  have := (flat_code g sh).2
  rw [List.length_append, show tailOps.length = 5 from rfl]
  lia
theorem run_ok (n : Nat) {g : Bool} {sh : Shape} {N : V} {d d' : D} {w : List (Int × Int × Int)} (hin : In b jp (preSeg (cdOf g sh) N d)) (hN : flatV N = true) (hr : Runs lo K g sh N d d' w)
    (f : ∀ b' heard log, callF (GG lo K) FF (n + 16) true (.glob 664) [.hnd (jp.getD 0 0), .hnd (jp.getD 1 0), .int 4000] b = some (.ok (s_ "stop"), b') → b'[jp.getD 9 0]? = some (dicO N d') → b'[jp.getD 10 0]? = some (.list heard) → b'[jp.getD 11 0]? = some (.list log) → b'[jp.getD 6 0]? = some (cellO (jp.getD 9 0)) → b'[jp.getD 7 0]? = some (cellO (jp.getD 10 0)) → b'[jp.getD 8 0]? = some (cellO (jp.getD 11 0)) →
      HeardAt b' jp N heard w → (sh.isTimes = true → log = [s_ "asked"]) → Keep jp b b' → P) : P := by
  have h12 : jp.length = 12 := hin.len
  obtain ⟨b1, e1, X1⟩ := hin.run (mp := mpF) (m' := fun e => blkM (GG lo K) FF (n + 15) f664 true [] 20 (f664.body.take 3) (mpP e rhoR0)) (fun N e => blk_tr G0_plain _ _ _ [] _ _ _) (rc_pre lo K n (cdOf g sh) N d) trivial oN far18
  have e1 : blkM (GG lo K) FF (n + 15) f664 true [] 20 (f664.body.take 3) [(S "code", .hnd (eof jp b.length 0)), (S "deeds", .hnd (eof jp b.length 1)), (S "limit", .int 4000)] b = some (.ok (.next, rhoE (fun i => (jlOf jp b.length).getD i 0) 0 none), b1) := e1
  rw [eof_getD (i := 0) (by rw [h12]; decide), eof_getD (i := 1) (by rw [h12]; decide)] at e1
  obtain ⟨k, hk, hrun⟩ := hr
  obtain ⟨a', hS, hp, hd', hw, hN', hsl, ht⟩ := hrun ⟨0, [], N, d.A, d.B, d.C, [], .sdict [], []⟩ ⟨rfl, rfl, rfl, rfl⟩ rfl rfl rfl
  obtain ⟨b2, o2, e2, R2, k2⟩ := hS n b1 (jlOf jp b.length) 0 none ⟨⟨[], S "", lie_start hin X1 hN (flat_cd g sh), .nil⟩, Int.le_refl _, Int.le_refl _, Nat.zero_le _, code_len g sh⟩ (Int.le_refl _) (by lia)
  rw [Int.zero_add] at e2
  obtain ⟨heard, key, L2, H2⟩ := R2.lie
  refine run_stop (lo := lo) (K := K) (n := n) (o := o2) (k := k) L2 (hp ▸ code_at g sh) (code_len g sh) (by lia) hsl fun b3 b4 b5 e3 e5 e6 L5 k5 => ?_
  refine f b5 heard a'.log (run_asm e1 ?_ e6) (lie_dic L5 (jl_at h12 rfl (by decide)) hN' hd') (L5.get 14 _ _ (jl_at h12 (z := 10) rfl (by decide)) rfl) (L5.get 15 _ _ (jl_at h12 (z := 11) rfl (by decide)) rfl) ?_ ?_ ?_ (hN' ▸ hw ▸ (H2.keep k5).mono fun k o _ h e => ⟨fun hk => h (jl_sub h12 hk), e⟩) ht (jl_keep h12 X1.keep (k2.trans k5))
  · rw [show turns = (4998 - k + 1 + 1) + k by unfold turns; lia]
    exact (e2 (4998 - k + 1 + 1)).trans ((loop_one e3).trans (while_end e5))
  · have h : b5[jp.getD 6 0]? = some (cellO ((jlOf jp b.length).getD 13 0)) := L5.get 10 _ _ (jl_at h12 rfl (by decide)) rfl
    rw [jl_getD h12 (z := 9) rfl (by decide)] at h; exact h
  · have h : b5[jp.getD 7 0]? = some (cellO ((jlOf jp b.length).getD 14 0)) := L5.get 11 _ _ (jl_at h12 rfl (by decide)) rfl
    rw [jl_getD h12 (z := 10) rfl (by decide)] at h; exact h
  · have h : b5[jp.getD 8 0]? = some (cellO ((jlOf jp b.length).getD 15 0)) := L5.get 12 _ _ (jl_at h12 rfl (by decide)) rfl
    rw [jl_getD h12 (z := 11) rfl (by decide)] at h; exact h
end
end
def CLaw : List (Str × Nat) := [(S "log", 2), (S "heard", 3), (S "first", 4)]
structure Old where
  rows : V
  amounts : V
  name : V
  begin_ : V
  due : V
  loop : V
  said : V
  isb : V
  goal : V
  parts : V
  deeds : V
def tail1 : Option Old → Loc
  | none => []
  | some o => [(S "loop", o.loop), (S "said", o.said), (S "is_body", o.isb), (S "goal", o.goal), (S "parts", o.parts), (S "deeds", o.deeds)]
def tail0 : Option Old → Loc
  | none => []
  | some o => [(S "rows", o.rows), (S "amounts", o.amounts), (S "name", o.name), (S "begin", o.begin_), (S "due", o.due), (S "loop", o.loop), (S "said", o.said), (S "is_body", o.isb), (S "goal", o.goal), (S "parts", o.parts), (S "deeds", o.deeds)]
def tail2 : Option Old → Loc
  | none => []
  | some o => [(S "said", o.said), (S "is_body", o.isb), (S "goal", o.goal), (S "parts", o.parts), (S "deeds", o.deeds)]
def head0 (scr : V) (p : Nat) (t : Int) : Loc := [(S "script", scr), (S "pen", .hnd p), (S "turn", .int t)]
noncomputable def turnSeg (q q' : Str) (c1 c2 c3 : Option V) (s r : Int) (zs : List Int) : Sto := [.tab q, .tab q', .cell c1, .cell c2, .cell c3, .list [.hnd 6, .int s, .int r], cellsO zs]
abbrev dr5 (many s r d s' r' : Int) (zs : List Int) : Orc × List Nat := (drawOrc many s r d s' r' zs, [5, 6])
def blk1 : List Stmt := turnB.take 5
def blk2 : List Stmt := (turnB.drop 6).take 8
def orc5 (many spot rest : Int) (zs : List Int) (n : Nat) (cells : O) : Prop := (V.mps (jof [5, 6] n) [.hnd 0, .int many], [penO spot rest, cellsO zs].map (O.mp (jof [5, 6] n))) = ([.hnd 5, .int many], [.list [.hnd 6, .int spot, .int rest], cells])
def cells5 (n : Nat) (zs : List Int) : O := .list (V.mps (jof [5, 6] n) (zs.map V.int))
def pick5 (b0 f b : Int) : Prop := (if -(2 ^ 63) ≤ f.fdiv 5 ∧ f.fdiv 5 < 2 ^ 63 then (seqIndex? (f.fdiv 5) [V.int b0, .int 200].length).bind ([V.int b0, .int 200][·]?) else none) = some (.int b)
abbrev drS (S R X : Nat → Int) (zs : List Int) (many : Int) (i : Nat) : Orc × List Nat := dr5 many (S i) (R i) (X i) (S (i + 1)) (R (i + 1)) zs
noncomputable def drN (S R X : Nat → Int) (zs : List Int) : Nat → Nat → List (Orc × List Nat)
  | _, 0 => []
  | j, m + 1 => drS S R X zs 5 (4 + 4 * j) :: drS S R X zs 6 (5 + 4 * j) :: drS S R X zs 2 (6 + 4 * j) :: drS S R X zs 4 (7 + 4 * j) :: drN S R X zs (j + 1) m
def dsN (B : Nat → Int) : Nat → Nat → List (Nat × Dec)
  | _, 0 => []
  | j, m + 1 => (3, .v (.int (B j))) :: dsN B (j + 1) m
def ds1 (B : Nat → Int) : Nat → List (Nat × Dec)
  | 0 => []
  | m + 1 => (6, .v (.int (B 0))) :: dsN B 1 m
def cnN (S R X B : Nat → Int) (zs : List Int) : Nat → Nat → Nat → Prop → Prop
  | _, _, 0, c => c
  | j, lp, m + 1, c => cnN S R X B zs (j + 1) (12 + j) m (orc5 4 (S (7 + 4 * j)) (R (7 + 4 * j)) zs (12 + j) (cells5 (12 + j) zs) ∧ orc5 2 (S (6 + 4 * j)) (R (6 + 4 * j)) zs (12 + j) (cells5 (12 + j) zs) ∧ pick5 (X (4 + 4 * j)) (X (5 + 4 * j)) (B j) ∧
      orc5 6 (S (5 + 4 * j)) (R (5 + 4 * j)) zs (12 + j) (cells5 (11 + j) zs) ∧ orc5 5 (S (4 + 4 * j)) (R (4 + 4 * j)) zs (11 + j) (cells5 lp zs) ∧ c)
def rowX (X B : Nat → Int) (j : Nat) : Row := ⟨.A, B j, 1 + X (6 + 4 * j), (if 4 < B j then 4 else B j) - 1 + X (7 + 4 * j)⟩
def rowsX (X B : Nat → Int) (m : Nat) : List Row := rowsOf m (rowX X B 0) (rowX X B 1) (rowX X B 2)
def namesV : List V := [s_ "A", s_ "B", s_ "C"]
noncomputable def tmpX (X : Nat → Int) : Nat → Nat → Sto
  | _, 0 => []
  | j, m + 1 => .list [.int (X (4 + 4 * j)), .int 200] :: tmpX X (j + 1) m
def nameAt : Nat → V
  | 1 => s_ "A"
  | 2 => s_ "B"
  | _ => s_ "C"
def rho1 (scr : V) (p : Nat) (t : Int) (rows amounts due : Nat) (name : V) (b : Int) (tl : Loc) : Loc := head0 scr p t ++ [(S "rows", .hnd rows), (S "amounts", .hnd amounts), (S "name", name), (S "begin", .int b), (S "due", .hnd due)] ++ tl
def q1s : Str := S "law" ++ ".<locals>." ++ "<lambda>"
def paraO (x : String) (l : List V) : O := .inst 688 [(S "name", s_ x), (S "section", s_ ""), (S "statements", .tup l)]
def rho2 (scr : V) (p : Nat) (t : Int) (rows amounts due : Nat) (name : V) (b : Int) (lp : V) (tl : Loc) : Loc := head0 scr p t ++ [(S "rows", .hnd rows), (S "amounts", .hnd amounts), (S "name", name), (S "begin", .int b), (S "due", .hnd due), (S "loop", lp)] ++ tl
def rho3 (scr : V) (p : Nat) (t : Int) (rows amounts due : Nat) (name : V) (b : Int) (lp : V) (isb g : Bool) (parts deeds : Nat) : Loc :=
  head0 scr p t ++ [(S "rows", .hnd rows), (S "amounts", .hnd amounts), (S "name", name), (S "begin", .int b), (S "due", .hnd due), (S "loop", lp), (S "said", .tup [said]), (S "is_body", .bool isb), (S "goal", goalV g), (S "parts", .hnd parts), (S "deeds", .hnd deeds)]
section
variable (lo : List Str) (K : Params → Frag)
theorem blk1_run (n m : Nat) (hm : 1 ≤ m ∧ m ≤ 3) (q q' : Str) (c1 c2 c3 : Option V) (zs : List Int) (scr : V) (t : Int) (S' R X B : Nat → Int) (o : Option Old) :
    blkX (GG lo K) FF (n + 20) f817 true CLaw 19 blk1 (head0 scr 5 t ++ tail0 o) ⟨turnSeg q q' c1 c2 c3 (S' 0) (R 0) zs, ds1 B m, [drS S' R X zs 9 0, drS S' R X zs 9 1, drS S' R X zs 9 2, dr5 3 (S' 3) (R 3) ((m : Int) - 1) (S' 4) (R 4) zs] ++ drN S' R X zs 0 m, True⟩ =
    some ((.next, rho1 scr 5 t 7 8 (12 + m) (nameAt m) (B (m - 1)) (tail1 o)), ⟨[.tab q, .tab q', .cell c1, .cell c2, .cell (some (.hnd (11 + m))), .list [.hnd 6, .int (S' (4 + 4 * m)), .int (R (4 + 4 * m))], cells5 (11 + m) zs, .list ((rowsX X B m).map rowR), dicO nought ⟨X 0, X 1, X 2⟩,
        .list namesV, .list (namesV.take m)] ++ tmpX X 0 m ++ [dicO nought ⟨X 0, X 1, X 2⟩, .list []], [], [],
      cnN S' R X B zs 0 10 m (orc5 3 (S' 3) (R 3) zs 10 (cells5 8 zs) ∧ orc5 9 (S' 2) (R 2) zs 8 (cells5 8 zs) ∧ orc5 9 (S' 1) (R 1) zs 8 (cells5 8 zs) ∧ orc5 9 (S' 0) (R 0) zs 8 (cellsO zs) ∧ True)⟩) := by
  match m, hm with
  | 1, _ => cases o <;> kernel_rfl
  | 2, _ => cases o <;> kernel_rfl
  | 3, _ => cases o <;> kernel_rfl
theorem blk2_run (n : Nat) (g : Bool) (c1 c2 : Option V) (zs : List Int) (scr : V) (t s r x s1 r1 : Int) (N N2 : V) (d1 d : D) (rows due : Nat) (name lp : V) (b : Int) (o : Option Old) :
    blkX (GG lo K) FF (n + 20) f817 true CLaw 19 blk2 (rho2 scr 5 t rows 7 due name b lp (tail2 o)) ⟨turnSeg q0s q1s c1 c2 (some (.hnd 8)) s r zs ++ [dicO N d1, dicO N2 d], [(2, .b g)], [dr5 2 s r x s1 r1 zs], True⟩ =
    some ((.next, rho3 scr 5 t rows 7 due name b lp (x == 0) g 11 18), ⟨[.tab q0s, .tab q1s, .cell (some (.hnd 13)), .cell (some (.hnd 12)), .cell (some (.hnd 8)), .list [.hnd 6, .int s1, .int r1], cells5 9 zs, dicO N d1, dicO N d,
      paraO "A" [.tup [s_ "perform", goalV g, lp], .tup [s_ "stop"]], paraO "P" [said], .list [.hnd 9, .hnd 10], .list [], .list [], lamOb 0 [(S "heard", 3), (S "first", 4)], lamOb 1 [(S "first", 4)], lamOb 2 [(S "log", 2), (S "first", 4)], lamOb 3 [(S "log", 2), (S "first", 4)], deedsO 14 15 16 17], [], [],
      (x == 0) = g ∧ orc5 2 s r zs 9 (cellsO zs) ∧ True⟩) := by
  cases g <;> cases o <;> kernel_rfl
end
noncomputable def manyAt : Nat → Int
  | 0 => 9
  | 1 => 9
  | 2 => 9
  | 3 => 3
  | i + 4 => match i % 4 with
    | 0 => 5
    | 1 => 6
    | 2 => 2
    | _ => 4
theorem manyAt_bd (i : Nat) : 0 < manyAt i ∧ manyAt i ≤ 1000 := by
  unfold manyAt
  split <;> first | (constructor <;> lia) | (split <;> constructor <;> lia)
section
variable {lo : List Str} {K : Params → Frag}
theorem seq_ex {α : Type} {A : Nat → α → Prop} {Q : Nat → α → α → Prop} (a : α) (a0 : A 0 a) (step : ∀ i x, A i x → ∃ y, A (i + 1) y ∧ Q i x y) : ∃ f : Nat → α, f 0 = a ∧ ∀ i, A i (f i) ∧ Q i (f i) (f (i + 1)) :=
  let g : (i : Nat) → {x // A i x} := fun i => Nat.rec ⟨a, a0⟩ (fun i x => ⟨Classical.choose (step i x.1 x.2), (Classical.choose_spec (step i x.1 x.2)).1⟩) i
  ⟨fun i => (g i).1, rfl, fun i => ⟨(g i).2, (Classical.choose_spec (step i (g i).1 (g i).2)).2⟩⟩
theorem draws_ok {zs : List Int} (hz : zs.length ≤ 63) {s r : Int} (h0 : 0 ≤ s) (h1 : s ≤ 800) (hr : 0 ≤ r) : ∃ S R X : Nat → Int, S 0 = s ∧ R 0 = r ∧ ∀ i, i ≤ 100 → (s ≤ S i ∧ S i ≤ s + i ∧ 0 ≤ R i) ∧
    Drawn (manyAt i) (S i) (R i) (X i) (S (i + 1)) (R (i + 1)) ∧ OrcOk (GG lo K) FF (drawOrc (manyAt i) (S i) (R i) (X i) (S (i + 1)) (R (i + 1)) zs) := by
  obtain ⟨f, e, h⟩ := seq_ex (A := fun i (x : Int × Int × Int) => i ≤ 101 → s ≤ x.1 ∧ x.1 ≤ s + i ∧ 0 ≤ x.2.1) (Q := fun i x y => i ≤ 100 → Drawn (manyAt i) x.1 x.2.1 y.2.2 y.1 y.2.1 ∧ OrcOk (GG lo K) FF (drawOrc (manyAt i) x.1 x.2.1 y.2.2 y.1 y.2.1 zs)) (s, r, 0) (fun _ => ⟨Int.le_refl _, by lia, hr⟩) fun i x h => by
    by_cases hi : i ≤ 100
    · obtain ⟨g1, g2, g3⟩ := h (Nat.le_succ_of_le hi)
      obtain ⟨d, s', r', D, o⟩ := draw_ok (lo := lo) (K := K) zs hz (many := manyAt i) (spot := x.1) (rest := x.2.1) (Int.le_trans h0 g1) (by lia) g3 (manyAt_bd i).1 (manyAt_bd i).2
      exact ⟨(s', r', d), fun _ => ⟨Int.le_trans g1 D.s0, Int.le_trans D.s1 (by lia), D.r0⟩, fun _ => ⟨D, o⟩⟩
    · exact ⟨x, fun h => absurd (Nat.le_of_succ_le_succ h) hi, fun h => absurd h hi⟩
  exact ⟨fun i => (f i).1, fun i => (f i).2.1, fun i => (f (i + 1)).2.2, congrArg Prod.fst e, congrArg (·.2.1) e, fun i hi => ⟨(h i).1 (Nat.le_succ_of_le hi), (h i).2 hi⟩⟩
end
theorem cells5_eq (n : Nat) (zs : List Int) : cells5 n zs = cellsO zs := by
  unfold cells5 cellsO
  rw [mps_map, List.map_map]
  exact congrArg O.list (List.map_congr_left fun z _ => rfl)
theorem orc5_ok {many spot rest : Int} {zs : List Int} {n : Nat} {cells : O} (h : cells = cellsO zs) : orc5 many spot rest zs n cells := by
  subst h
  show (_, _) = (_, _)
  have : (cellsO zs).mp (jof [5, 6] n) = cellsO zs := cells5_eq n zs
  simp only [List.map_cons, List.map_nil, this]
  rfl
theorem pick5_ok {b0 f : Int} (h0 : 0 ≤ f) (h1 : f < 6) : pick5 b0 f (if f < 5 then b0 else 200) := by
  unfold pick5
  have : f = 0 ∨ f = 1 ∨ f = 2 ∨ f = 3 ∨ f = 4 ∨ f = 5 := by lia
  rcases this with rfl | rfl | rfl | rfl | rfl | rfl <;> rfl
def Old.mp (e : Nat → Nat) (o : Old) : Old := ⟨o.rows.mp e, o.amounts.mp e, o.name.mp e, o.begin_.mp e, o.due.mp e, o.loop.mp e, o.said.mp e, o.isb.mp e, o.goal.mp e, o.parts.mp e, o.deeds.mp e⟩
theorem tail0_mp (e : Nat → Nat) (o : Option Old) : mpP e (tail0 o) = tail0 (o.map (Old.mp e)) := by cases o <;> rfl
theorem tail1_mp (e : Nat → Nat) (o : Option Old) : mpP e (tail1 o) = tail1 (o.map (Old.mp e)) := by cases o <;> rfl
theorem tail2_mp (e : Nat → Nat) (o : Option Old) : mpP e (tail2 o) = tail2 (o.map (Old.mp e)) := by cases o <;> rfl
theorem old_up {jl : List Nat} {n : Nat} (hf : jl.length ≤ far) (o : Option Old) : (o.map (Old.mp up)).map (Old.mp (eof jl n)) = o := by
  cases o with
  | none => rfl
  | some o => simp only [Option.map_some, Old.mp, mp_up hf]
theorem mpP_append {κ : Type} (e : Nat → Nat) (a b : List (κ × V)) : mpP e (a ++ b) = mpP e a ++ mpP e b := by unfold mpP; rw [List.map_append]
structure TurnAt (b : Sto) (p c : Nat) (s r : Int) (zs : List Int) : Prop where
  hp : 5 ≤ p
  hc : 5 ≤ c
  ne : p ≠ c
  t0 : b[0]? = some (.tab q0s)
  t1 : b[1]? = some (.tab q1s)
  c2 : ∃ o, b[2]? = some (.cell o)
  c3 : ∃ o, b[3]? = some (.cell o)
  c4 : ∃ o, b[4]? = some (.cell o)
  p : b[p]? = some (.list [.hnd c, .int s, .int r])
  c : b[c]? = some (cellsO zs)
abbrev jT (p c : Nat) : List Nat := [0, 1, 2, 3, 4, p, c]
theorem seven {p c : Nat} : (jT p c).length ≤ far := by unfold far; simp
theorem cell_up {jl : List Nat} {n : Nat} (hf : jl.length ≤ far) (o : Option V) : (O.cell (o.map (V.mp up))).mp (eof jl n) = .cell o := by
  cases o with
  | none => rfl
  | some y => simp only [O.mp, Option.map_some, mp_up hf]
theorem fn {P : Nat → Prop} : ∀ x ∈ ([] : List Nat), P x := fun _ h => absurd h List.not_mem_nil
theorem fa {P : Nat → Prop} {a : Nat} {l : List Nat} (h : P a) (t : ∀ x ∈ l, P x) : ∀ x ∈ a :: l, P x := List.forall_mem_cons.mpr ⟨h, t⟩
theorem out_big {l : List Nat} {B k : Nat} (h : ∀ x ∈ l, x < B) (hk : B ≤ k) : k ∉ l := fun m => absurd (h k m) (Nat.not_lt.mpr hk)
theorem out_mid {l : List Nat} {A B f k : Nat} (h : ∀ x ∈ l, x < A ∨ B ≤ x ∨ x = f) (h1 : A ≤ k) (h2 : k < B) (h3 : k ≠ f) : k ∉ l := fun m => (h k m).elim (fun a => Nat.not_lt.mpr h1 a) fun b => b.elim (fun a => Nat.not_lt.mpr a h2) h3
theorem out_low {l : List Nat} {k : Nat} (h : ∀ x ∈ l, 5 ≤ x) (hk : k < 5) : k ∉ l := fun m => absurd (h k m) (Nat.not_le.mpr hk)
theorem nm {k a : Nat} {l : List Nat} (h : k ≠ a) (t : k ∉ l) : k ∉ a :: l := fun m => (List.mem_cons.mp m).elim h t
theorem nc {a : Nat} {l : List Nat} (h : a ∉ l) (t : l.Nodup) : (a :: l).Nodup := List.nodup_cons.mpr ⟨h, t⟩
theorem nd_low {l : List Nat} (h : l.Nodup) (h5 : ∀ k ∈ l, 5 ≤ k) : (0 :: 1 :: 2 :: 3 :: 4 :: l).Nodup :=
  List.nodup_append (l₁ := [0, 1, 2, 3, 4]).mpr ⟨by decide, h, fun a ha b hb e => absurd (e ▸ h5 b hb) (by simp only [List.mem_cons, List.not_mem_nil, or_false] at ha; lia)⟩
theorem TurnAt.in_ {b : Sto} {p c : Nat} {s r : Int} {zs : List Int} {P : Prop} (T : TurnAt b p c s r zs) (k : ∀ c1 c2 c3, In b (jT p c) (turnSeg q0s q1s c1 c2 c3 s r zs) → P) : P :=
  T.c2.elim fun o2 h2 => T.c3.elim fun o3 h3 => T.c4.elim fun o4 h4 => k (o2.map (V.mp up)) (o3.map (V.mp up)) (o4.map (V.mp up)) <| by
    have t0 := T.t0; have t1 := T.t1
    generalize q0s = qa at t0 ⊢
    generalize q1s = qb at t1 ⊢
    exact In.of (nd_low (nc (nm T.ne List.not_mem_nil) (nc List.not_mem_nil .nil)) (fa T.hp (fa T.hc fn))) ⟨rfl, rfl, trivial⟩ ⟨t0, t1, (cell_up seven o2).symm ▸ h2, (cell_up seven o3).symm ▸ h3, (cell_up seven o4).symm ▸ h4, T.p, (cells_mp _ zs).symm ▸ T.c, trivial⟩
structure Turn1 (b1 : Sto) (p c L m : Nat) (s1 q1 : Int) (zs : List Int) (d : D) (r1 r2 r3 : Row) : Prop where
  hm : 1 ≤ m ∧ m ≤ 3
  loop : LoopAt b1 p c (L + 1) L (L + 5 + m) s1 q1 zs nought d (rowsOf m r1 r2 r3) []
  fd : b1[L + 4 + m]? = some (dicO nought d)
  t0 : b1[0]? = some (.tab q0s)
  t1 : b1[1]? = some (.tab q1s)
  c2 : ∃ o, b1[2]? = some (.cell o)
  c3 : ∃ o, b1[3]? = some (.cell o)
  c4 : b1[4]? = some (.cell (some (.hnd (L + 4 + m))))
  ok : d.Ok
  rok : ∀ q ∈ rowsOf m r1 r2 r3, RowOk q
  len : b1.length = L + 6 + m
  r0 : 0 ≤ q1
theorem many4 {j : Nat} (h : j < 3) : manyAt (4 + 4 * j) = 5 ∧ manyAt (5 + 4 * j) = 6 ∧ manyAt (6 + 4 * j) = 2 ∧ manyAt (7 + 4 * j) = 4 := by
  rcases (by lia : j = 0 ∨ j = 1 ∨ j = 2) with e | e | e <;> subst e <;> exact ⟨rfl, rfl, rfl, rfl⟩
theorem drN_ok {lo : List Str} {K : Params → Frag} {S R X : Nat → Int} {zs : List Int} (h : ∀ i, i < 16 → OrcOk (GG lo K) FF (drawOrc (manyAt i) (S i) (R i) (X i) (S (i + 1)) (R (i + 1)) zs)) (m : Nat) : ∀ j, j + m ≤ 3 → ∀ q ∈ drN S R X zs j m, OrcOk (GG lo K) FF q.1 := by
  induction m with
  | zero => exact fun _ _ => oN
  | succ m ih =>
    intro j hj
    obtain ⟨m4, m5, m6, m7⟩ := many4 (j := j) (by lia)
    have h4 := h (4 + 4 * j) (by lia); have h5 := h (5 + 4 * j) (by lia); have h6 := h (6 + 4 * j) (by lia); have h7 := h (7 + 4 * j) (by lia)
    rw [m4] at h4; rw [m5] at h5; rw [m6] at h6; rw [m7] at h7
    exact oC (p := drS S R X zs 5 (4 + 4 * j)) h4 (oC (p := drS S R X zs 6 (5 + 4 * j)) h5 (oC (p := drS S R X zs 2 (6 + 4 * j)) h6 (oC (p := drS S R X zs 4 (7 + 4 * j)) h7 (ih (j + 1) (by lia)))))
theorem cnN_ok {S R X B : Nat → Int} {zs : List Int} (m : Nat) : ∀ {j lp : Nat} {c : Prop}, c → (∀ i, i < j + m → pick5 (X (4 + 4 * i)) (X (5 + 4 * i)) (B i)) → cnN S R X B zs j lp m c := by
  induction m with
  | zero => exact fun h _ => h
  | succ m ih => exact fun {j} _ _ h hp => ih ⟨orc5_ok (cells5_eq _ _), orc5_ok (cells5_eq _ _), hp j (by lia), orc5_ok (cells5_eq _ _), orc5_ok (cells5_eq _ _), h⟩ fun i hi => hp i (by lia)
theorem claw_mp (p c n : Nat) (more : List Nat) : mpC (eof (0 :: 1 :: 2 :: 3 :: 4 :: p :: c :: more) n) CLaw = CLaw := by
  unfold mpC CLaw
  rw [List.map_cons, List.map_cons, List.map_cons, eof_in (i := 2) (k := 2) rfl, eof_in (i := 3) (k := 3) rfl, eof_in (i := 4) (k := 4) rfl]; rfl
theorem mpF_next (e : Nat → Nat) (ρ : Loc) : mpF e (.next, ρ) = (.next, mpP e ρ) := rfl
theorem nameAt_flat (m : Nat) : flatV (nameAt m) = true := by unfold nameAt; split <;> rfl
theorem tmpX_len {X : Nat → Int} : ∀ (m j : Nat), (tmpX X j m).length = m
  | 0, _ => rfl
  | m + 1, j => by rw [tmpX, List.length_cons, tmpX_len m]
theorem head0_mp (e : Nat → Nat) (scr : V) (p : Nat) (t : Int) (hs : flatV scr = true) : mpP e (head0 scr p t) = head0 scr (e p) t := by
  show [(S "script", scr.mp e), _, _] = _
  rw [flat_mp hs]; rfl
theorem rho1_mp (e : Nat → Nat) (scr : V) (p : Nat) (t : Int) (rows amounts due : Nat) (name : V) (b : Int) (tl : Loc) (hs : flatV scr = true) (hn : flatV name = true) : mpP e (rho1 scr p t rows amounts due name b tl) = rho1 scr (e p) t (e rows) (e amounts) (e due) name b (mpP e tl) := by
  unfold rho1
  rw [mpP_append, mpP_append, head0_mp _ _ _ _ hs]
  show _ ++ [_, _, (S "name", name.mp e), _, _] ++ _ = _
  rw [flat_mp hn]; rfl
def begX (X : Nat → Int) (j : Nat) : Int := if X (5 + 4 * j) < 5 then X (4 + 4 * j) else 200
theorem row_ar {x : Nm} {B a b : Int} (hB : 0 ≤ B) (a0 : 0 ≤ a) (a1 : a < 2) (b0 : 0 ≤ b) (b1 : b < 4) : RowOk ⟨x, B, 1 + a, (if 4 < B then 4 else B) - 1 + b⟩ :=
  ⟨by dsimp only; lia, by dsimp only; lia, by dsimp only; split <;> lia, by dsimp only; split <;> lia, hB⟩
theorem rowX_ok {X : Nat → Int} (hb : ∀ i, i < 16 → 0 ≤ X i ∧ X i < manyAt i) {j : Nat} (hj : j < 3) : pick5 (X (4 + 4 * j)) (X (5 + 4 * j)) (begX X j) ∧ RowOk (rowX X (begX X) j) := by
  obtain ⟨m4, m5, m6, m7⟩ := many4 hj
  have h5 := hb (5 + 4 * j) (by lia); have h6 := hb (6 + 4 * j) (by lia); have h7 := hb (7 + 4 * j) (by lia)
  rw [m5] at h5; rw [m6] at h6; rw [m7] at h7
  refine ⟨pick5_ok h5.1 h5.2, row_ar ?_ h6.1 h6.2 h7.1 h7.2⟩
  unfold begX
  split
  · exact (hb (4 + 4 * j) (by lia)).1
  · decide
theorem rows_ok3 {m : Nat} {r1 r2 r3 : Row} (h1 : RowOk r1) (h2 : RowOk r2) (h3 : RowOk r3) (q : Row) (hq : q ∈ rowsOf m r1 r2 r3) : RowOk q := by
  rcases List.mem_cons.mp (List.mem_of_mem_take hq) with e | hq
  · rw [e]; exact ⟨h1.1, h1.2, h1.3, h1.4, h1.5⟩
  · rcases List.mem_cons.mp hq with e | hq
    · rw [e]; exact ⟨h2.1, h2.2, h2.3, h2.4, h2.5⟩
    · rw [List.mem_singleton.mp hq]; exact ⟨h3.1, h3.2, h3.3, h3.4, h3.5⟩
section
variable {lo : List Str} {K : Params → Frag} {b b1 a' : Sto} {p c m : Nat} {s r s1 q1 : Int} {zs : List Int} {d : D} {r1 r2 r3 : Row} {c1 c2 c3 x2 x3 : Option V}
theorem jT_new {i : Nat} (h : i < 90) : eof (jT p c) b.length (7 + i) = b.length + i := by
  rw [eof_new (Nat.le_add_right 7 i) (by unfold far; lia)]
  show b.length + (7 + i - 7) = _
  rw [Nat.add_sub_cancel_left]
theorem turn1_end (hm : 1 ≤ m ∧ m ≤ 3) (T : TurnAt b p c s r zs) (X : Out2 (jT p c) (turnSeg q0s q1s c1 c2 c3 s r zs) b a' b1) (hd : d.Ok) (hr : ∀ q ∈ rowsOf m r1 r2 r3, RowOk q) (h0 : 0 ≤ q1) {k : Nat} (hl : a'.length = 13 + m) (e0 : a'[0]? = some (.tab q0s)) (e1 : a'[1]? = some (.tab q1s)) (e2 : a'[2]? = some (.cell x2)) (e3 : a'[3]? = some (.cell x3))
    (e4 : a'[4]? = some (.cell (some (.hnd (7 + (4 + m)))))) (e5 : a'[5]? = some (.list [.hnd 6, .int s1, .int q1])) (e6 : a'[6]? = some (cells5 k zs)) (e7 : a'[7 + 0]? = some (.list ((rowsOf m r1 r2 r3).map rowR))) (e8 : a'[7 + 1]? = some (dicO nought d)) (e9 : a'[7 + (4 + m)]? = some (dicO nought d)) (e10 : a'[7 + (5 + m)]? = some (.list [])) :
    Turn1 b1 p c b.length m s1 q1 zs d r1 r2 r3 := by
  have g : ∀ {i : Nat} {o : O}, i < 90 → a'[7 + i]? = some o → b1[b.length + i]? = some (o.mp (eof (jT p c) b.length)) := fun h e => jT_new (p := p) (c := c) (b := b) h ▸ X.get _ _ e
  have hp := lt_of_get T.p; have hc := lt_of_get T.c; have hne := T.ne
  have hlen : b1.length + 7 = b.length + a'.length := X.len
  have hB : ∀ {q : Nat}, q ≤ b.length → q < b.length → q ∉ [b.length + 1, b.length, b.length + 5 + m] := fun _ h => nm (by lia) (nm (Nat.ne_of_lt h) (nm (by lia) List.not_mem_nil))
  have g4 := X.get 4 _ e4
  have g6 := X.get 6 _ e6
  have g7 := g (by decide) e7
  rw [cells5_eq, cells_mp] at g6
  have g4 : b1[4]? = some (O.cell (some (V.hnd (eof (jT p c) b.length (7 + (4 + m)))))) := g4
  rw [jT_new (by lia), ← Nat.add_assoc] at g4
  have g7 : b1[b.length]? = some (O.list (V.mps _ _)) := g7
  rw [rows_flat] at g7
  exact ⟨hm, ⟨nc (nm hne (hB (Nat.le_of_lt hp) hp)) (nc (hB (Nat.le_of_lt hc) hc) (nc (nm (Nat.succ_ne_self _) (nm (by lia) List.not_mem_nil)) (nc (nm (by lia) List.not_mem_nil) (nc List.not_mem_nil .nil)))), X.get 5 _ e5, g6, g (by decide) e8, g7, Nat.add_assoc b.length 5 m ▸ g (by lia) e10⟩, Nat.add_assoc b.length 4 m ▸ g (by lia) e9, X.get 0 _ e0, X.get 1 _ e1, ⟨_, X.get 2 _ e2⟩, ⟨_, X.get 3 _ e3⟩, g4, hd, hr, by lia, h0⟩
theorem turn1 {P : Prop} (n : Nat) (hz : zs.length ≤ 63) (T : TurnAt b p c s r zs) (h0 : 0 ≤ s) (h1 : s ≤ 700) (hr : 0 ≤ r) (scr : V) (hscr : flatV scr = true) (t : Int) (o : Option Old)
    (k : ∀ b1 m s1 q1 d r1 r2 r3 name bb, blkM (GG lo K) FF (n + 20) f817 true CLaw 19 blk1 (head0 scr p t ++ tail0 o) b = some (.ok (.next, rho1 scr p t b.length (b.length + 1) (b.length + 5 + m) name bb (tail1 o)), b1) → Turn1 b1 p c b.length m s1 q1 zs d r1 r2 r3 → Keep (jT p c) b b1 → s ≤ s1 → s1 ≤ s + 16 → flatV name = true → P) : P := by
  obtain ⟨S', R, X, eS, eR, hD⟩ := draws_ok (lo := lo) (K := K) hz h0 (by lia) hr
  have hb : ∀ i, i < 16 → 0 ≤ X i ∧ X i < manyAt i := fun i hi => ⟨(hD i (by lia)).2.1.d0, (hD i (by lia)).2.1.d1⟩
  obtain ⟨m, hm, hX3⟩ : ∃ m : Nat, (1 ≤ m ∧ m ≤ 3) ∧ X 3 = (m : Int) - 1 := ⟨(X 3).toNat + 1, by have : 0 ≤ X 3 ∧ X 3 < 3 := hb 3 (by decide); lia, by have := (hb 3 (by decide)).1; lia⟩
  refine T.in_ fun c1 c2 c3 hin => ?_
  have hrun := blk1_run lo K n m hm q0s q1s c1 c2 c3 zs scr t S' R X (begX X) (o.map (Old.mp up))
  have o3 := (hD 3 (by decide)).2.2
  rw [hX3] at o3
  rw [eS, eR] at hrun
  obtain ⟨b1, e1, X1⟩ := hin.run (mp := mpF) (m' := fun e => blkM (GG lo K) FF (n + 20) f817 true (mpC e CLaw) 19 blk1 (mpP e (head0 scr 5 t ++ tail0 (o.map (Old.mp up))))) (fun N e => blk_tr G0_plain _ _ _ _ _ _ _) hrun
    (cnN_ok m ⟨orc5_ok (cells5_eq _ _), orc5_ok (cells5_eq _ _), orc5_ok (cells5_eq _ _), orc5_ok rfl, trivial⟩ fun i hi => (rowX_ok hb (by lia)).1)
    (oC (p := drS S' R X zs 9 0) (hD 0 (by decide)).2.2 (oC (p := drS S' R X zs 9 1) (hD 1 (by decide)).2.2 (oC (p := drS S' R X zs 9 2) (hD 2 (by decide)).2.2 (oC (p := dr5 3 (S' 3) (R 3) ((m : Int) - 1) (S' 4) (R 4) zs) o3 (drN_ok (fun i hi => (hD i (by lia)).2.2) m 0 (by lia))))))
    (by simp only [List.length_append, tmpX_len, List.length_cons, List.length_nil]; unfold far; lia)
  have hname : flatV (nameAt m) = true := nameAt_flat m
  have hs := (hD (4 + 4 * m) (by lia)).1
  simp only [claw_mp, mpF_next] at e1
  rw [mpP_append, head0_mp _ _ _ _ hscr, tail0_mp, old_up seven, rho1_mp _ _ _ _ _ _ _ _ _ _ hscr hname, tail1_mp, old_up seven, show 12 + m = 7 + (5 + m) by lia, jT_new (by lia), ← Nat.add_assoc] at e1
  refine k b1 m (S' (4 + 4 * m)) (R (4 + 4 * m)) ⟨X 0, X 1, X 2⟩ (rowX X (begX X) 0) (rowX X (begX X) 1) (rowX X (begX X) 2) (nameAt m) (begX X (m - 1)) e1 ?_ X1.keep hs.1 (by lia) hname
  have hd : D.Ok ⟨X 0, X 1, X 2⟩ := fun x => by
    cases x with
    | A => exact (hb 0 (by decide)).1
    | B => exact (hb 1 (by decide)).1
    | C => exact (hb 2 (by decide)).1
  have hrk := rows_ok3 (m := m) (rowX_ok hb (j := 0) (by decide)).2 (rowX_ok hb (j := 1) (by decide)).2 (rowX_ok hb (j := 2) (by decide)).2
  have h0 := hs.2.2
  clear e1 hrun hs hD hname o3 hX3
  rcases (by lia : m = 1 ∨ m = 2 ∨ m = 3) with e | e | e <;> subst e <;> exact turn1_end hm T X1 hd hrk h0 rfl rfl rfl rfl rfl rfl rfl rfl rfl rfl rfl rfl
end
section
variable {lo : List Str} {K : Params → Frag}
theorem loop_ok {n m : Nat} {b : Sto} {p c am rw sn : Nat} {s r : Int} {zs : List Int} {d : D} {r1 r2 r3 : Row} (hm : 1 ≤ m ∧ m ≤ 3) (hz : zs.length ≤ 63) (h0 : 0 ≤ s) (h1 : s ≤ 900) (hr : 0 ≤ r) (hd : d.Ok) (hrow : ∀ q ∈ rowsOf m r1 r2 r3, RowOk q)
    (R : LoopAt b p c am rw sn s r zs nought d (rowsOf m r1 r2 r3) []) : LoopRes lo K n b p c am rw sn s zs (rowsOf m r1 r2 r3) d := by
  obtain ⟨x, s1, q1, D1, o1⟩ := draw_ok (lo := lo) (K := K) zs hz (many := 5) (spot := s) (rest := r) h0 (by lia) hr (by decide) (by decide)
  have a := D1.s0; have b := D1.s1
  have a0 := Int.le_trans h0 a
  have b0 : s1 ≤ 901 := by lia
  by_cases x0 : x = 0
  · exact small_once R D1 o1 x0
  · by_cases x1 : x = 1
    · exact small_times hz a0 b0 D1.r0 a b R o1 (beq_f x0) (beq_t x1)
    · by_cases x2 : x = 2
      · exact small_until hz a0 b0 D1.r0 a b (hd .A) R o1 (beq_f x0) (beq_f x1) (beq_t x2)
      · exact loop_vary hm hz a0 b0 D1.r0 a b hd hrow R o1 (beq_f x0) (beq_f x1) (beq_f x2)
def s5 : Stmt := nth turnB 5
theorem s5_plan : planS f817 true s5 = .asN (S "loop") (valOf s5) := by kernel_rfl
theorem s5_call : planE true false (valOf s5) = .call (calleeOf (valOf s5)) (argsOf (valOf s5)) := by kernel_rfl
theorem s5_name (n : Nat) (ρ : Loc) (b : Sto) : expM' (GG lo K) FF n f817 true CLaw 19 (calleeOf (valOf s5)) ρ b = some (.ok (.glob 812), b) := by kernel_rfl
theorem s5_args (n : Nat) (scr : V) (p : Nat) (t : Int) (rows amounts due : Nat) (name : V) (bb : Int) (tl : Loc) (b : Sto) : evList (fun x => expM' (GG lo K) FF n f817 true CLaw 19 x (rho1 scr p t rows amounts due name bb tl)) (argsOf (valOf s5)) b = some (.ok [.hnd p, .hnd amounts, .hnd rows, .hnd due], b) := by kernel_rfl
theorem s5_store (scr : V) (p : Nat) (t : Int) (rows amounts due : Nat) (name : V) (bb : Int) (o : Option Old) (lp : V) (b : Sto) : storeM f817.sc CLaw (S "loop") lp (rho1 scr p t rows amounts due name bb (tail1 o)) b = some (.ok (rho2 scr p t rows amounts due name bb lp (tail2 o)), b) := by cases o <;> kernel_rfl
structure Turn2 (lo : List Str) (K : Params → Frag) (b3 : Sto) (p c am fd L sn : Nat) (s r : Int) (zs : List Int) (N : V) (d d' : D) (g : Bool) (sh : Shape) (w : List (Int × Int × Int)) : Prop where
  t0 : b3[0]? = some (.tab q0s)
  t1 : b3[1]? = some (.tab q1s)
  c2 : b3[2]? = some (cellO (L + 4))
  c3 : b3[3]? = some (cellO (L + 3))
  c4 : b3[4]? = some (cellO fd)
  fp : b3[p]? = some (.list [.hnd c, .int s, .int r])
  fc : b3[c]? = some (cellsO zs)
  fam : b3[am]? = some (dicO N d')
  ffd : b3[fd]? = some (dicO N d)
  A : b3[L]? = some (paraO "A" [.tup [s_ "perform", goalV g, loopV sh], .tup [s_ "stop"]])
  P : b3[L + 1]? = some (paraO "P" [said])
  parts : b3[L + 2]? = some (.list [.hnd L, .hnd (L + 1)])
  heard : b3[L + 3]? = some (.list [])
  log : b3[L + 4]? = some (.list [])
  l0 : b3[L + 5]? = some (lamOb 0 [(S "heard", 3), (S "first", 4)])
  l1 : b3[L + 6]? = some (lamOb 1 [(S "first", 4)])
  l2 : b3[L + 7]? = some (lamOb 2 [(S "log", 2), (S "first", 4)])
  l3 : b3[L + 8]? = some (lamOb 3 [(S "log", 2), (S "first", 4)])
  deeds : b3[L + 9]? = some (deedsO (L + 5) (L + 6) (L + 7) (L + 8))
  due : ∃ hs, b3[sn]? = some (.list hs) ∧ HeardAt b3 [0, 1, 2, 3, 4, p, c, am, fd] N hs w ∧ ∀ k, V.hnd k ∈ hs → k < L
  runs : ∀ g, Runs lo K g sh N d d' w
  coded : Coded lo K sh
  flat : flatV N = true
  wl : w.length ≤ 4000
  hp : 5 ≤ p
  hc : 5 ≤ c
  ne : ([p, c, am, fd, sn] : List Nat).Nodup
  am5 : 5 ≤ am
  fd5 : 5 ≤ fd
  sn5 : 5 ≤ sn
  big : p < L ∧ c < L ∧ am < L ∧ fd < L ∧ sn < L
  len : b3.length = L + 10
  r0 : 0 ≤ r
  num : ∃ u v, N = numT u v
abbrev jU (p c am fd : Nat) : List Nat := [0, 1, 2, 3, 4, p, c, am, fd]
theorem nine {p c am fd : Nat} : (jU p c am fd).length ≤ far := by unfold far; simp
theorem goal_flat (g : Bool) : flatV (goalV g) = true := by cases g <;> rfl
theorem rho2_mp' (e : Nat → Nat) (scr : V) (p : Nat) (t : Int) (rows amounts due : Nat) (name : V) (b : Int) (lp : V) (tl : Loc) (hs : flatV scr = true) (hn : flatV name = true) (hl : flatV lp = true) : mpP e (rho2 scr p t rows amounts due name b lp tl) = rho2 scr (e p) t (e rows) (e amounts) (e due) name b lp (mpP e tl) := by
  unfold rho2
  rw [mpP_append, mpP_append, head0_mp _ _ _ _ hs]
  show _ ++ [_, _, (S "name", name.mp e), _, _, (S "loop", lp.mp e)] ++ _ = _
  rw [flat_mp hn, flat_mp hl]; rfl
theorem rho3_mp' (e : Nat → Nat) (scr : V) (p : Nat) (t : Int) (rows amounts due : Nat) (name : V) (b : Int) (lp : V) (isb g : Bool) (parts deeds : Nat) (hs : flatV scr = true) (hn : flatV name = true) (hl : flatV lp = true) : mpP e (rho3 scr p t rows amounts due name b lp isb g parts deeds) = rho3 scr (e p) t (e rows) (e amounts) (e due) name b lp isb g (e parts) (e deeds) := by
  unfold rho3
  rw [mpP_append, head0_mp _ _ _ _ hs]
  show _ ++ [_, _, (S "name", name.mp e), _, _, (S "loop", lp.mp e), _, _, (S "goal", (goalV g).mp e), _, _] = _
  rw [flat_mp hn, flat_mp hl, flat_mp (goal_flat g)]; rfl
section
variable {b b1 b2 b3 : Sto} {p c am fd sn L m : Nat} {s r s3 q3 u v x : Int} {zs : List Int} {d d' : D} {r1 r2 r3 : Row} {sh : Shape} {w : List (Int × Int × Int)} {hs : List V} {c1 c2 o2 o3 : Option V} {P : Prop}
theorem turn_in2 (t0 : b[0]? = some (.tab q0s)) (t1 : b[1]? = some (.tab q1s)) (h2 : b[2]? = some (.cell o2)) (h3 : b[3]? = some (.cell o3)) (h4 : b[4]? = some (cellO fd)) (tp : b[p]? = some (.list [.hnd c, .int s, .int r])) (tc : b[c]? = some (cellsO zs))
    (ta : b[am]? = some (dicO (numT u v) d')) (tf : b[fd]? = some (dicO nought d)) (nd : ([p, c, am, fd] : List Nat).Nodup) (hp : 5 ≤ p) (hc : 5 ≤ c) (ha : 5 ≤ am) (hf : 5 ≤ fd) :
    In b (jU p c am fd) (turnSeg q0s q1s (o2.map (V.mp up)) (o3.map (V.mp up)) (some (.hnd 8)) s r zs ++ [dicO (numT u v) d', dicO nought d]) := by
  generalize q0s = qa at t0 ⊢
  generalize q1s = qb at t1 ⊢
  exact In.of (nd_low nd (fa hp (fa hc (fa ha (fa hf fn))))) ⟨rfl, rfl, trivial⟩ ⟨t0, t1, (cell_up nine o2).symm ▸ h2, (cell_up nine o3).symm ▸ h3, h4, tp, (cells_mp _ zs).symm ▸ tc, ta, tf, trivial⟩
def seg2 (zs : List Int) (s1 r1 : Int) (N : V) (d1 d : D) (g : Bool) (lp : V) : Sto := [.tab q0s, .tab q1s, .cell (some (.hnd 13)), .cell (some (.hnd 12)), .cell (some (.hnd 8)), .list [.hnd 6, .int s1, .int r1], cells5 9 zs, dicO N d1, dicO N d,
      paraO "A" [.tup [s_ "perform", goalV g, lp], .tup [s_ "stop"]], paraO "P" [said], .list [.hnd 9, .hnd 10], .list [], .list [], lamOb 0 [(S "heard", 3), (S "first", 4)], lamOb 1 [(S "first", 4)], lamOb 2 [(S "log", 2), (S "first", 4)], lamOb 3 [(S "log", 2), (S "first", 4)], deedsO 14 15 16 17]
theorem turn2_blk {n : Nat} {scr name lp : V} {t bb : Int} {rows due : Nat} {o : Option Old} (hin : In b2 (jU p c am fd) (turnSeg q0s q1s c1 c2 (some (.hnd 8)) s r zs ++ [dicO (numT u v) d', dicO nought d])) (ho : OrcOk (GG lo K) FF (drawOrc 2 s r x s3 q3 zs)) (hscr : flatV scr = true) (hname : flatV name = true) (hlf : flatV lp = true)
    (k : ∀ b3, blkM (GG lo K) FF (n + 20) f817 true CLaw 19 blk2 (rho2 scr p t rows am due name bb lp (tail2 o)) b2 = some (.ok (.next, rho3 scr p t rows am due name bb lp (x == 0) (x == 0) (b2.length + 2) (b2.length + 9)), b3) →
      Out2 (jU p c am fd) (turnSeg q0s q1s c1 c2 (some (.hnd 8)) s r zs ++ [dicO (numT u v) d', dicO nought d]) b2 (seg2 zs s3 q3 (numT u v) d' d (x == 0) lp) b3 → P) : P := by
  obtain ⟨b3, e2, X⟩ := hin.run (mp := mpF) (m' := fun e => blkM (GG lo K) FF (n + 20) f817 true (mpC e CLaw) 19 blk2 (mpP e (rho2 scr 5 t (up rows) 7 (up due) name bb lp (tail2 (o.map (Old.mp up)))))) (fun N e => blk_tr G0_plain _ _ _ _ _ _ _)
    (blk2_run lo K n (x == 0) c1 c2 zs scr t s r x s3 q3 (numT u v) nought d' d (up rows) (up due) name lp bb (o.map (Old.mp up))) ⟨rfl, orc5_ok rfl, trivial⟩ (oC (p := dr5 2 s r x s3 q3 zs) ho oN) (by simp only [List.length_cons, List.length_nil]; unfold far; lia)
  simp only [claw_mp, mpF_next] at e2
  rw [rho2_mp' _ _ _ _ _ _ _ _ _ _ _ hscr hname hlf, tail2_mp, old_up nine, rho3_mp' _ _ _ _ _ _ _ _ _ _ _ _ _ _ hscr hname hlf, eof_up nine, eof_up nine] at e2
  exact k b3 e2 X
theorem turn2_end {a0 : Sto} (hl : a0.length = 9) (X : Out2 (jU p c am fd) a0 b2 (seg2 zs s3 q3 (numT u v) d' d (x == 0) (loopV sh)) b3) (h1 : b2[sn]? = some (.list hs)) (hsn : sn ∉ jU p c am fd) (H : HeardAt b2 (jU p c am fd) (numT u v) hs w)
    (runs : ∀ g, Runs lo K g sh (numT u v) d d' w) (cd : Coded lo K sh) (wl : w.length ≤ 4000) (hp : 5 ≤ p) (hc : 5 ≤ c) (ne : ([p, c, am, fd, sn] : List Nat).Nodup) (h5 : 5 ≤ am) (f5 : 5 ≤ fd) (s5 : 5 ≤ sn) (big : p < b2.length ∧ c < b2.length ∧ am < b2.length ∧ fd < b2.length ∧ sn < b2.length) (r0 : 0 ≤ q3) :
    Turn2 lo K b3 p c am fd b2.length sn s3 q3 zs (numT u v) d d' (x == 0) sh w := by
  have g6 := X.get 6 _ rfl
  rw [cells5_eq, cells_mp] at g6
  have g9 := X.get 9 _ rfl
  have g9 : b3[b2.length]? = some (paraO "A" [.tup [s_ "perform", (goalV (x == 0)).mp (eof (jU p c am fd) b2.length), (loopV sh).mp (eof (jU p c am fd) b2.length)], .tup [s_ "stop"]]) := g9
  rw [flat_mp (goal_flat _), flat_mp (flat_loop sh)] at g9
  have hlen : b3.length + a0.length = b2.length + 19 := X.len
  exact ⟨X.get 0 _ rfl, X.get 1 _ rfl, X.get 2 _ rfl, X.get 3 _ rfl, X.get 4 _ rfl, X.get 5 _ rfl, g6, X.get 7 _ rfl, X.get 8 _ rfl, g9, X.get 10 _ rfl, X.get 11 _ rfl, X.get 12 _ rfl, X.get 13 _ rfl, X.get 14 _ rfl, X.get 15 _ rfl, X.get 16 _ rfl, X.get 17 _ rfl, X.get 18 _ rfl,
    ⟨hs, X.keep.2 _ _ hsn h1, H.keep X.keep, fun k hk => (H.all k hk).elim fun _ h => lt_of_get h⟩, runs, cd, rfl, wl, hp, hc, ne, h5, f5, s5, big, by rw [hl] at hlen; lia, r0, ⟨u, v, rfl⟩⟩
theorem turn2 (n : Nat) (hz : zs.length ≤ 63) (T : Turn1 b1 p c L m s r zs d r1 r2 r3) (h0 : 0 ≤ s) (h1 : s ≤ 800) (hp : 5 ≤ p) (hc : 5 ≤ c) (hL : p < L ∧ c < L) (scr : V) (hscr : flatV scr = true) (t : Int) (name : V) (hname : flatV name = true) (bb : Int) (o : Option Old)
    (k : ∀ b3 L3 s3 q3 N d' isb g sh w, blkM (GG lo K) FF (n + 20) f817 true CLaw 19 (s5 :: blk2) (rho1 scr p t L (L + 1) (L + 5 + m) name bb (tail1 o)) b1 = some (.ok (.next, rho3 scr p t L (L + 1) (L + 5 + m) name bb (loopV sh) isb g (L3 + 2) (L3 + 9)), b3) →
      Turn2 lo K b3 p c (L + 1) (L + 4 + m) L3 (L + 5 + m) s3 q3 zs N d d' g sh w → s ≤ s3 → s3 ≤ s + 4 → b1.length ≤ L3 → P) : P := by
  have hlen := T.len
  have hpc := (List.nodup_cons.mp T.loop.nd).1
  have g5 : 5 ≤ L := by lia
  have low : ∀ k, k < 5 → k ∉ [p, c, L + 1, L, L + 5 + m] := fun k => out_low (fa hp (fa hc (fa (Nat.le_succ_of_le g5) (fa g5 (fa (by lia) fn)))))
  have off : L + 4 + m ∉ [p, c, L + 1, L, L + 5 + m] := nm (by lia) (nm (by lia) (nm (by lia) (nm (by lia) (nm (by lia) List.not_mem_nil))))
  have i1 : Inc L [L + 1, L + 4 + m, L + 5 + m] := ⟨Nat.le_succ L, by lia, by lia, trivial⟩
  have ne : ([p, c, L + 1, L + 4 + m, L + 5 + m] : List Nat).Nodup := nc (nm (fun e => hpc (e ▸ .head _)) (i1.out hL.1)) (nc (i1.out hL.2) i1.nodup)
  have hlt : ∀ x ∈ jU p c (L + 1) (L + 4 + m), x < L + 5 + m := fa (by lia) (fa (by lia) (fa (by lia) (fa (by lia) (fa (by lia) (fa (by lia) (fa (by lia) (fa (by lia) (fa (by lia) fn))))))))
  cases loop_ok (lo := lo) (K := K) (n := n + 8) T.hm hz h0 (by lia) T.r0 T.ok T.rok T.loop with
  | @mk b2 sh u v d' w s2 q2 hs e1 R2 H2 F2 k2 g0 g1 g2 hruns hcd hwl =>
    obtain ⟨x, s3, q3, D3, o3'⟩ := draw_ok (lo := lo) (K := K) zs hz (many := 2) (spot := s2) (rest := q2) (Int.le_trans h0 g0) (by lia) g2 (by decide) (by decide)
    have z1 := D3.s1
    refine T.c2.elim fun o2 y2 => T.c3.elim fun o3 y3 => turn2_blk (n := n) (t := t) (bb := bb) (rows := L) (due := L + 5 + m) (o := o) (turn_in2 (k2.2 _ _ (low 0 (by decide)) T.t0) (k2.2 _ _ (low 1 (by decide)) T.t1) (k2.2 _ _ (low 2 (by decide)) y2) (k2.2 _ _ (low 3 (by decide)) y3) (k2.2 _ _ (low 4 (by decide)) T.c4) R2.p R2.c R2.a (k2.2 _ _ off T.fd) (ne.sublist (List.sublist_append_left [p, c, L + 1, L + 4 + m] [L + 5 + m])) hp hc (by lia) (by lia)) o3' hscr hname (flat_loop sh) fun b3 e2 X => ?_
    refine k b3 b2.length s3 q3 (numT u v) d' (x == 0) (x == 0) sh w ((blk_cons (st_asn (d := 18) s5_plan (val_call (d := 19) s5_call (s5_name _ _ _) (s5_args _ _ _ _ _ _ _ _ _ _ _) (keep_mem (by kernel_rfl)) e1) (s5_store _ _ _ _ _ _ _ _ _ _ _))).trans e2) (turn2_end rfl X R2.s (out_big hlt (Nat.le_refl _)) (H2.off fun k hk => out_big hlt (Nat.le_trans (by lia) (F2 k hk))) hruns hcd hwl hp hc ne (by lia) (by lia) (by lia) ⟨Nat.lt_of_lt_of_le (by lia) k2.1, Nat.lt_of_lt_of_le (by lia) k2.1, Nat.lt_of_lt_of_le (by lia) k2.1, Nat.lt_of_lt_of_le (by lia) k2.1, Nat.lt_of_lt_of_le (by lia) k2.1⟩ D3.r0) (Int.le_trans g0 D3.s0) (by lia) k2.1
end
end
def cmpL : Expr → Expr
  | .Compare l _ _ _ => l
  | _ => default
def cmpR : Expr → Expr
  | .Compare _ _ (x :: _) _ => x
  | _ => default
def s14 : Stmt := nth turnB 14
def rc14 : Expr := cmpL (testOf s14)
def co14 : Expr := nthE (argsOf rc14) 0
section
variable {G : Pg} {F : Fs} {n : Nat} {fn : Fn} {q : Bool} {CL : List (Str × Nat)}
def tstM' (G : Pg) (F : Fs) (n : Nat) (fn : Fn) (q : Bool) (CL : List (Str × Nat)) (d : Nat) (x : Expr) (ρ : Loc) : M Bool := (evS G (callF G F n) fn q d).tst false fn.sc CL ρ x
theorem tst_cmp {d : Nat} {x l r : Expr} {op : CmpOp} {ρ : Loc} {b b1 b2 : Sto} {y z : V} {v : Bool} (hp : planT x = .cmp l op r) (hl : expM' G F n fn q CL d l ρ b = some (.ok y, b1)) (hr : expM' G F n fn q CL d r ρ b1 = some (.ok z, b2)) (hc : cmpX op y z b2 = some v) :
    tstM' G F n fn q CL (d + 1) x ρ b = some (.ok v, b2) := by
  show tstS _ false fn.sc CL ρ (planT x) b = _
  rw [hp]
  show M.bind (expM' G F n fn q CL d l ρ) _ b = _
  unfold M.bind
  rw [hl]
  show M.bind (expM' G F n fn q CL d r ρ) _ b1 = _
  unfold M.bind
  rw [hr]
  show still (fun st => cmpX op y z st) b2 = _
  unfold still
  dsimp only
  rw [hc]; rfl
end
section
variable {lo : List Str} {K : Params → Frag}
theorem z14p : planS f817 true s14 = .ite (testOf s14) (bodyOf s14) (elseOf s14) := by kernel_rfl
theorem z14e : elseOf s14 = [] := by kernel_rfl
theorem z14c : planT (testOf s14) = .cmp rc14 .NotEq (cmpR (testOf s14)) := by kernel_rfl
theorem z14k : planE true false rc14 = .call (calleeOf rc14) (argsOf rc14) := by kernel_rfl
theorem z14a : argsOf rc14 = [co14, nthE (argsOf rc14) 1, nthE (argsOf rc14) 2] := by kernel_rfl
theorem z14kb : planE true false co14 = .call (calleeOf co14) (argsOf co14) := by kernel_rfl
theorem z14n (n : Nat) (ρ : Loc) (b : Sto) : expM' (GG lo K) FF n f817 true CLaw 18 (calleeOf rc14) ρ b = some (.ok (.glob 664), b) := by kernel_rfl
theorem z14nb (n : Nat) (ρ : Loc) (b : Sto) : expM' (GG lo K) FF n f817 true CLaw 17 (calleeOf co14) ρ b = some (.ok (.glob 326), b) := by kernel_rfl
theorem z14d (n : Nat) (scr : V) (p : Nat) (t : Int) (rows amounts due : Nat) (name : V) (bb : Int) (lp : V) (isb g : Bool) (parts deeds : Nat) (b : Sto) : expM' (GG lo K) FF n f817 true CLaw 18 (nthE (argsOf rc14) 1) (rho3 scr p t rows amounts due name bb lp isb g parts deeds) b = some (.ok (.hnd deeds), b) := by kernel_rfl
theorem z14i (n : Nat) (ρ : Loc) (b : Sto) : expM' (GG lo K) FF n f817 true CLaw 18 (nthE (argsOf rc14) 2) ρ b = some (.ok (.int 4000), b) := by kernel_rfl
theorem z14r (n : Nat) (ρ : Loc) (b : Sto) : expM' (GG lo K) FF n f817 true CLaw 19 (cmpR (testOf s14)) ρ b = some (.ok (s_ "stop"), b) := by kernel_rfl
def CLup : List (Str × Nat) := [(S "log", up 2), (S "heard", up 3), (S "first", up 4)]
theorem clup_mp {jl : List Nat} {n : Nat} (h : jl.length ≤ far) : mpC (eof jl n) CLup = CLaw := by
  unfold mpC CLaw CLup
  simp only [List.map_cons, List.map_nil, eof_up h]
theorem z14x (n : Nat) (scr : V) (p : Nat) (t : Int) (rows amounts due : Nat) (name : V) (bb : Int) (lp : V) (isb g : Bool) (parts deeds : Nat) :
    evListX ((evX (GG lo K) (callX (GG lo K) FF (n + 20)) f817 true 17).val false f817.sc CLup (rho3 scr p t rows amounts due name bb lp isb g parts deeds)) (argsOf co14) ⟨[], [], [], True⟩ = some ([.hnd 0], ⟨[.inst 728 [(S "rows", .hnd parts), (S "using", .tup [])]], [], [], True⟩) := by kernel_rfl
structure Turn3 (b3 b6 : Sto) (fd L : Nat) (N : V) (d' : D) (sh : Shape) (w : List (Int × Int × Int)) (hh lg : List V) : Prop where
  ffd : b6[fd]? = some (dicO N d')
  heard : b6[L + 3]? = some (.list hh)
  log : b6[L + 4]? = some (.list lg)
  t0 : b6[0]? = some (.tab q0s)
  t1 : b6[1]? = some (.tab q1s)
  c2 : b6[2]? = some (cellO (L + 4))
  c3 : b6[3]? = some (cellO (L + 3))
  c4 : b6[4]? = some (cellO fd)
  hd : HeardAt b6 [] N hh w
  asked : sh.isTimes = true → lg = [s_ "asked"]
  mid : ∀ (k : Nat) (o : O), 5 ≤ k → k < L → k ≠ fd → b3[k]? = some o → b6[k]? = some o
  len : b3.length ≤ b6.length
theorem in_nil {b : Sto} : In b [] [] := In.of .nil trivial trivial
theorem nil_far : ([] : List Nat).length ≤ far := Nat.zero_le _
theorem flat_codeO {c : Cd} (hc : flatVs c.ops = true ∧ flatVs c.begins = true) (e : Nat → Nat) : (codeO' c).mp e = codeO' c := by
  simp only [codeO', O.mp, mpP, List.map_cons, List.map_nil, V.mp, flat_mps hc.1, flat_mps hc.2]
theorem t_comp {P : Prop} (n : Nat) {b : Sto} {L pr : Nat} {g : Bool} {sh : Shape} (hc : Coded lo K sh) (t0 : b[0]? = some (.tab q0s)) (hA : b[L]? = some (paraO "A" [.tup [s_ "perform", goalV g, loopV sh], .tup [s_ "stop"]])) (hP : b[L + 1]? = some (paraO "P" [said]))
    (hR : b[L + 2]? = some (.list [.hnd L, .hnd (L + 1)])) (hQ : b[pr]? = some (.inst 728 [(S "rows", .hnd (L + 2)), (S "using", .tup [])])) (hL : 5 ≤ L) (hpr : L + 2 < pr)
    (k : ∀ b' k, callF (GG lo K) FF (n + 20) true (.glob 326) [.hnd pr] b = some (.ok (.hnd k), b') → b'[k]? = some (codeO' (cdOf g sh)) → b.length ≤ k → b'[0]? = some (.tab q0s) → Keep [0, L, L + 1, L + 2, pr] b b' → P) : P := by
  generalize hq : q0s = qa at t0 k ⊢
  have hin : In b [0, L, L + 1, L + 2, pr] (procSeg qa g sh) := by
    refine In.of (Inc.nodup (a := 0) ⟨Nat.zero_le _, Nat.le_trans (by decide) hL, Nat.le_refl _, Nat.le_refl _, hpr, trivial⟩) ⟨rfl, trivial⟩ ⟨t0, ?_, hP, hR, hQ, trivial⟩
    show _ = some (paraO "A" [.tup [s_ "perform", (goalV g).mp _, (loopV sh).mp _], .tup [s_ "stop"]])
    rw [flat_mp (goal_flat g), flat_mp (flat_loop sh)]; exact hA
  have hsay := hc n g
  unfold compSays compR at hsay
  rw [hq] at hsay
  have hlen := compG_len g sh
  obtain ⟨b', e1, X⟩ := hin.run (mp := V.mp) (m := callX (GG lo K) FF (n + 20) true (.glob 326) [.hnd 4]) (m' := fun e => callF (GG lo K) FF (n + 20) true (.glob 326) (V.mps e [.hnd 4])) (fun N e => callX_tr G0_plain (n + 20) true (.glob 326) _) hsay trivial oN
    (by simp only [List.length_append, procSeg, List.length_cons, List.length_nil]; unfold far; lia)
  have he : eof [0, L, L + 1, L + 2, pr] b.length (5 + (compG g sh).length) = b.length + (compG g sh).length := by
    rw [eof_new (show ([0, L, L + 1, L + 2, pr] : List Nat).length ≤ 5 + (compG g sh).length from Nat.le_add_right ..) (by unfold far; lia)]
    show b.length + (5 + _ - 5) = _
    rw [Nat.add_sub_cancel_left]
  have e1 : callF (GG lo K) FF (n + 20) true (.glob 326) [.hnd pr] b = some (.ok (.hnd (eof [0, L, L + 1, L + 2, pr] b.length (5 + (compG g sh).length))), b') := e1
  rw [he] at e1
  have hl : (procSeg qa g sh ++ compG g sh).length = 5 + (compG g sh).length := List.length_append
  have hg := X.get (5 + (compG g sh).length) (codeO' (cdOf g sh)) (by rw [List.getElem?_append_right (Nat.le_of_eq hl), hl, Nat.sub_self]; rfl)
  rw [he, flat_codeO (flat_cd g sh)] at hg
  exact k b' _ e1 hg (Nat.le_add_right ..) (X.get 0 (.tab qa) rfl) X.keep
section
variable {b3 : Sto} {p c am fd L sn : Nat} {s r : Int} {zs : List Int} {N : V} {d d' : D} {g : Bool} {sh : Shape} {w : List (Int × Int × Int)} {scr name : V} {t bb : Int} {isb : Bool} {rows : Nat} {P : Prop}
theorem t_pr (n : Nat) (hscr : flatV scr = true) (hname : flatV name = true) {lp : V} (hlf : flatV lp = true) {parts deeds : Nat} (k : ∀ b4, evList (fun x => expM' (GG lo K) FF (n + 20) f817 true CLaw 17 x (rho3 scr p t rows am sn name bb lp isb g parts deeds)) (argsOf co14) b3 = some (.ok [.hnd b3.length], b4) →
    b4[b3.length]? = some (.inst 728 [(S "rows", .hnd parts), (S "using", .tup [])]) → Keep [] b3 b4 → P) : P := by
  obtain ⟨b4, e4, X4⟩ := (in_nil (b := b3)).run (mp := V.mps) (m' := fun e => evList ((evS (GG lo K) (callF (GG lo K) FF (n + 20)) f817 true 17).val false f817.sc (mpC e CLup) (mpP e (rho3 scr (up p) t (up rows) (up am) (up sn) name bb lp isb g (up parts) (up deeds)))) (argsOf co14)) (fun N e => .evList (fun x => (evX_tr G0_plain.1 (callX_tr G0_plain (n + 20)) 17).val false f817.sc CLup _ x) _)
    (z14x (lo := lo) (K := K) n scr (up p) t (up rows) (up am) (up sn) name bb lp isb g (up parts) (up deeds)) trivial oN (by simp only [List.length_cons, List.length_nil]; unfold far; lia)
  have hup : ∀ k, eof [] b3.length (up k) = k := fun k => eof_up nil_far
  simp only [clup_mp nil_far] at e4
  rw [rho3_mp' _ _ _ _ _ _ _ _ _ _ _ _ _ _ hscr hname hlf, hup, hup, hup, hup, hup, hup] at e4
  have hpr : b4[b3.length]? = some (O.inst 728 [(S "rows", .hnd (eof [] b3.length (up parts))), (S "using", .tup [])]) := X4.get 0 _ rfl
  rw [hup] at hpr
  exact k b4 e4 hpr X4.keep
theorem turn3 (n : Nat) (T : Turn2 lo K b3 p c am fd L sn s r zs N d d' g sh w) (hscr : flatV scr = true) (hname : flatV name = true)
    (k : ∀ b6 hh lg, tstM' (GG lo K) FF (n + 20) f817 true CLaw 20 (testOf s14) (rho3 scr p t rows am sn name bb (loopV sh) isb g (L + 2) (L + 9)) b3 = some (.ok false, b6) → Turn3 b3 b6 fd L N d' sh w hh lg → P) : P := by
  have hlen3 := T.len
  have hf5 := T.fd5
  have hL5 : 5 ≤ L := Nat.le_of_lt (Nat.lt_of_le_of_lt hf5 T.big.2.2.2.1)
  refine t_pr (lo := lo) (K := K) n (p := p) (am := am) (sn := sn) (t := t) (bb := bb) (g := g) (rows := rows) (isb := isb) hscr hname (flat_loop sh) (parts := L + 2) (deeds := L + 9) fun b4 e4 hpr k4 => t_comp n (g := g) T.coded (k4.2 _ _ List.not_mem_nil T.t0) (k4.2 _ _ List.not_mem_nil T.A) (k4.2 _ _ List.not_mem_nil T.P) (k4.2 _ _ List.not_mem_nil T.parts) hpr hL5 (by lia) fun b5 ck e5 hck hcb u0 k5 => ?_
  have k5h : ∀ (j : Nat) (o : O), 3 ≤ j → j < 10 → b3[L + j]? = some o → b5[L + j]? = some o := fun j o h1 h2 h => k5.2 _ o (out_mid (A := L + 3) (B := b3.length) (f := b3.length) (fa (.inl (by lia)) (fa (.inl (by lia)) (fa (.inl (by lia)) (fa (.inl (by lia)) (fa (.inr (.inr rfl)) fn))))) (by lia) (by lia) (by lia)) (k4.2 _ _ List.not_mem_nil h)
  have k5l : ∀ (k : Nat) (o : O), 1 ≤ k → k < L → b3[k]? = some o → b5[k]? = some o := fun k o h1 h2 h => k5.2 k o (out_mid (A := 1) (B := L) (f := L) (fa (.inl (by decide)) (fa (.inr (.inr rfl)) (fa (.inr (.inl (Nat.le_add_right ..))) (fa (.inr (.inl (Nat.le_add_right ..))) (fa (.inr (.inl (by lia))) fn))))) h1 h2 (Nat.ne_of_lt h2)) (k4.2 _ _ List.not_mem_nil h)
  have lit : ∀ {k : Nat}, k < 5 → k < L := fun h => Nat.lt_of_lt_of_le h hL5
  have hcL : L + 10 ≤ ck := hlen3 ▸ Nat.le_trans k4.1 hcb
  have hin : In b5 [ck, L + 9, L + 5, L + 6, L + 7, L + 8, 4, 3, 2, fd, L + 3, L + 4] (preSeg (cdOf g sh) N d) :=
    In.of (nd_idx (S := [2, 3, 4, fd, L + 3, L + 4, L + 5, L + 6, L + 7, L + 8, L + 9, ck]) (Inc.nodup (a := 0) ⟨Nat.zero_le _, Nat.le_refl _, Nat.le_refl _, hf5, Nat.le_add_right_of_le T.big.2.2.2.1, Nat.le_refl _, Nat.le_refl _, Nat.le_refl _, Nat.le_refl _, Nat.le_refl _, Nat.le_refl _, hcL, trivial⟩) [11, 10, 6, 7, 8, 9, 2, 1, 0, 3, 4, 5] rfl) trivial
      ⟨(flat_codeO (flat_cd g sh) _).symm ▸ hck, k5h 9 _ (by decide) (by decide) T.deeds, k5h 5 _ (by decide) (by decide) T.l0, k5h 6 _ (by decide) (by decide) T.l1, k5h 7 _ (by decide) (by decide) T.l2, k5h 8 _ (by decide) (by decide) T.l3, k5l 4 _ (by decide) (lit (by decide)) T.c4, k5l 3 _ (by decide) (lit (by decide)) T.c3, k5l 2 _ (by decide) (lit (by decide)) T.c2, (mp_nil _ _ _ T.flat).symm ▸ k5l fd _ (Nat.le_trans (by decide) hf5) T.big.2.2.2.1 T.ffd, k5h 3 _ (by decide) (by decide) T.heard, k5h 4 _ (by decide) (by decide) T.log, trivial⟩
  refine run_ok (lo := lo) (K := K) (n + 4) hin T.flat (T.runs g) fun b6 hh lg e6 f1 f2 f3 f4 f5 f6 f7 f8 k6 => ?_
  have nb : ∀ x ∈ [ck, L + 9, L + 5, L + 6, L + 7, L + 8, 4, 3, 2, fd, L + 3, L + 4], x < 5 ∨ L ≤ x ∨ x = fd := fa (.inr (.inl (by lia))) (fa (.inr (.inl (Nat.le_add_right ..))) (fa (.inr (.inl (Nat.le_add_right ..))) (fa (.inr (.inl (Nat.le_add_right ..))) (fa (.inr (.inl (Nat.le_add_right ..))) (fa (.inr (.inl (Nat.le_add_right ..))) (fa (.inl (by decide)) (fa (.inl (by decide)) (fa (.inl (by decide)) (fa (.inr (.inr rfl)) (fa (.inr (.inl (Nat.le_add_right ..))) (fa (.inr (.inl (Nat.le_add_right ..))) fn)))))))))))
  have na : ∀ x ∈ [ck, L + 9, L + 5, L + 6, L + 7, L + 8, 4, 3, 2, fd, L + 3, L + 4], 2 ≤ x := fa (by lia) (fa (by lia) (fa (by lia) (fa (by lia) (fa (by lia) (fa (by lia) (fa (by decide) (fa (by decide) (fa (by decide) (fa (by lia) (fa (by lia) (fa (by lia) fn)))))))))))
  refine k b6 hh lg (tst_cmp (d := 19) z14c (val_call (d := 18) (vs := [.hnd ck, .hnd (L + 9), .int 4000]) z14k (z14n _ _ _) ?_ (keep_mem (by kernel_rfl)) e6) (z14r _ _ _) (show cmpX .NotEq (s_ "stop") (s_ "stop") b6 = some false from rfl))
    ⟨f1, f2, f3, k6.2 _ _ (fun m => absurd (na 0 m) (by decide)) u0, k6.2 _ _ (fun m => absurd (na 1 m) (by decide)) (k5l 1 _ (by decide) (lit (by decide)) T.t1), f6, f5, f4, f7.off fun _ _ => List.not_mem_nil, f8, fun k o a1 a2 a3 h => k6.2 _ _ (out_mid nb a1 a2 a3) (k5l k o (Nat.le_trans (by decide) a1) a2 h), Nat.le_trans k4.1 (Nat.le_trans k5.1 k6.1)⟩
  rw [z14a]
  exact exps_cons (val_call (d := 17) (vs := [.hnd b3.length]) z14kb (z14nb _ _ _) e4 (keep_mem (by kernel_rfl)) e5) (exps_cons (z14d _ _ _ _ _ _ _ _ _ _ _ _ _ _ _) (exps_cons (z14i _ _ _) rfl))
end
end
def orsOf : Expr → List Expr
  | .BoolOp _ xs _ => xs
  | _ => []
def s15 : Stmt := nth turnB 15
def x15 : Expr := nthE (orsOf (testOf s15)) 0
def y15 : Expr := nthE (orsOf (testOf s15)) 1
def cp15 : Expr := cmpR x15
def eltOf : Expr → Expr
  | .ListComp e _ _ _ => e
  | _ => default
def iterC : Expr → Expr
  | .ListComp _ (g :: _) _ _ => g.iter
  | _ => default
def cscOf : Expr → Scope
  | .ListComp _ _ s _ => s
  | _ => default
theorem dat_num (u v : Int) : eq0 (numT u v) (numT u v) = some true := by
  have h : PyData.eqv (.tuple [.int u, .int v]) (.tuple [.int u, .int v]) = true := by simp [PyData.eqv, PyData.eqvAll]
  have : eq0 (numT u v) (numT u v) = some (PyData.eqv (.tuple [.int u, .int v]) (.tuple [.int u, .int v])) := by kernel_rfl
  rw [this, h]
theorem dat_int (u : Int) : eq0 (.int u) (.int u) = some true := by
  have h : PyData.eqv (.int u) (.int u) = true := by simp [PyData.eqv]
  have : eq0 (.int u) (.int u) = some (PyData.eqv (.int u) (.int u)) := by kernel_rfl
  rw [this, h]
theorem hits_same (u v A B C : Int) : hitsV (dicV (numT u v) A B C) (dicV (numT u v) A B C) = some true := by
  unfold dicV
  have l0 : List.lookup (S "N") [(S "N", numT u v), (S "A", .int A), (S "B", .int B), (S "C", .int C)] = some (numT u v) := by kernel_rfl
  have l1 : List.lookup (S "A") [(S "N", numT u v), (S "A", .int A), (S "B", .int B), (S "C", .int C)] = some (.int A) := by kernel_rfl
  have l2 : List.lookup (S "B") [(S "N", numT u v), (S "A", .int A), (S "B", .int B), (S "C", .int C)] = some (.int B) := by kernel_rfl
  have l3 : List.lookup (S "C") [(S "N", numT u v), (S "A", .int A), (S "B", .int B), (S "C", .int C)] = some (.int C) := by kernel_rfl
  simp only [hitsV, l0, l1, l2, l3, dat_num, dat_int, Option.bind_some, Bool.and_self]
theorem eqD_same {st : Sto} {j k : Nat} {u v A B C : Int} (hj : st[j]? = some (.sdict (dicV (numT u v) A B C))) (hk : st[k]? = some (.sdict (dicV (numT u v) A B C))) : eqD st j k = some true := by
  unfold eqD dicAt
  rw [hj, hk]
  dsimp only [Option.bind_some, O.sdict?]
  rw [if_pos rfl]
  exact hits_same u v A B C
theorem eqDs_same {st : Sto} {u v : Int} {j1 j2 : List Nat} {w : List (Int × Int × Int)} {h k : List V} (H : HeardAt st j1 (numT u v) h w) (J : HeardAt st j2 (numT u v) k w) : h.length = k.length ∧ ∃ bs, eqDs st h k = some bs ∧ bs.all id = true := by
  induction H generalizing k with
  | nil => cases J; exact ⟨rfl, [], rfl, rfl⟩
  | @cons i r x l h1 h2 _ ih =>
    cases J with
    | @cons j r' _ _ g1 g2 J =>
      obtain ⟨hl, bs, e1, e2⟩ := ih J
      refine ⟨congrArg (· + 1) hl, true :: bs, ?_, e2⟩
      have : eqEl st (.hnd i) (.hnd j) = some true := by
        show (if i = j then some true else eqD st i j).or _ = _
        rw [eqD_same h2 g2]
        split <;> rfl
      unfold eqDs
      rw [e1, this]; rfl
theorem ne_heard {st : Sto} {u v : Int} {j1 j2 : List Nat} {a c : Nat} {h k : List V} {w : List (Int × Int × Int)} (ha : st[a]? = some (.list h)) (hc : st[c]? = some (.list k)) (h1 : HeardAt st j1 (numT u v) h w) (h2 : HeardAt st j2 (numT u v) k w) : cmpX .NotEq (.hnd a) (.hnd c) st = some false := by
  obtain ⟨hl, bs, e1, e2⟩ := eqDs_same h1 h2
  show ((eqD st a c).bind _).or ((lstAt st a).bind _) = _
  unfold eqD dicAt lstAt
  rw [ha, hc]
  show neL st h k = _
  unfold neL
  rw [if_pos hl, e1]
  show some (!bs.all id) = _
  rw [e2]; rfl
theorem ne_dic {st : Sto} {u v : Int} {a c : Nat} {d : D} (ha : st[a]? = some (dicO (numT u v) d)) (hc : st[c]? = some (dicO (numT u v) d)) : cmpX .NotEq (.hnd a) (.hnd c) st = some false := by
  show ((eqD st a c).bind _).or _ = _
  rw [eqD_same ha hc]; rfl
section
variable {lo : List Str} {K : Params → Frag}
def meC (lo : List Str) (K : Params → Frag) (n : Nat) (ρ : Loc) : M V := (evS (GG lo K) (callF (GG lo K) FF (n + 20)) f817 true 17).val true (cscOf cp15) [] ρ (eltOf cp15)
def mtC (lo : List Str) (K : Params → Frag) (n : Nat) (ρ : Loc) : M Bool := testsM ((evS (GG lo K) (callF (GG lo K) FF (n + 20)) f817 true 17).tst true (cscOf cp15) [] ρ) []
theorem dup_x (n : Nat) (N : V) (A B C : Int) : (evX (GG lo K) (callX (GG lo K) FF (n + 20)) f817 true 17).val true (cscOf cp15) [] [(S "one", .hnd 0)] (eltOf cp15) ⟨[.sdict (dicV N A B C)], [], [], True⟩ = some (.hnd 1, ⟨[.sdict (dicV N A B C), .sdict (dicV N A B C)], [], [], True⟩) := by kernel_rfl
theorem dup_m (n : Nat) {b : Sto} {k : Nat} {N : V} {A B C : Int} (hN : flatV N = true) (h : b[k]? = some (.sdict (dicV N A B C))) :
    ∃ b', meC lo K n [(S "one", .hnd k)] b = some (.ok (.hnd b.length), b') ∧ b'[b.length]? = some (.sdict (dicV N A B C)) ∧ Keep [] b b' := by
  have hmp : ∀ e, (O.sdict (dicV N A B C)).mp e = .sdict (dicV N A B C) := fun e => by
    show O.sdict [(S "N", N.mp e), _, _, _] = _
    rw [flat_mp hN]; rfl
  have hin : In b [k] [.sdict (dicV N A B C)] := by
    refine ⟨rfl, by simp, fun k' hk => ?_, fun i k' o g1 g2 => ?_, fun i q g => ?_⟩
    · simp only [List.mem_cons, List.not_mem_nil, or_false] at hk
      rw [hk]; exact lt_of_get h
    · match i, g1, g2 with
      | 0, g1, g2 => induction g1 using E1; induction g2 using E1; rw [hmp]; exact h
      | i + 1, g1, g2 => simp at g1
    · match i, g with
      | 0, g => cases g
      | i + 1, g => simp at g
  obtain ⟨b', e1, X⟩ := hin.run (mp := V.mp) (m' := fun e => (evS (GG lo K) (callF (GG lo K) FF (n + 20)) f817 true 17).val true (cscOf cp15) (mpC e []) (mpP e [(S "one", .hnd 0)]) (eltOf cp15)) (fun N e => (evX_tr G0_plain.1 (callX_tr G0_plain (n + 20)) 17).val true _ [] _ _)
    (dup_x n N A B C) trivial (fun q hq => by cases hq) (by simp only [List.length_cons, List.length_nil]; unfold far; lia)
  have he : eof [k] b.length 1 = b.length := by rw [eof_new (by simp) (by unfold far; lia)]; rfl
  have e1 : meC lo K n [(S "one", .hnd k)] b = some (.ok (.hnd (eof [k] b.length 1)), b') := e1
  rw [he] at e1
  have g1 := X.get 1 _ rfl
  rw [he, hmp] at g1
  refine ⟨b', e1, g1, ?_, fun i o _ hi => ?_⟩
  · exact X.keep.1
  · by_cases hik : i = k
    · subst hik
      rw [h] at hi; induction hi using E1
      have := X.get 0 _ rfl
      rw [hmp] at this; exact this
    · exact X.keep.2 i o (by simpa using hik) hi
theorem comp_end {x : Str} {mt : Loc → M Bool} {me : Loc → M V} {it : It} {m i : Nat} {acc : List V} {b : Sto} (h : itM it i b = some none) : compM x mt me it (m + 1) i acc b = some (.ok acc, b) := by
  conv => lhs; unfold compM
  unfold M.bind still
  dsimp only
  rw [h]; rfl
theorem comp_go {x : Str} {mt : Loc → M Bool} {me : Loc → M V} {it : It} {m i : Nat} {acc : List V} {b b1 b2 : Sto} {y z : V} (h : itM it i b = some (some y)) (ht : mt [(x, y)] b = some (.ok true, b1)) (he : me [(x, y)] b1 = some (.ok z, b2)) (hl : acc.length < sizeLine) :
    compM x mt me it (m + 1) i acc b = compM x mt me it m (i + 1) (acc ++ [z]) b2 := by
  conv => lhs; unfold compM
  unfold M.bind still
  dsimp only
  rw [h]
  show M.bind (noErr (mt [(x, y)])) _ b = _
  unfold M.bind
  rw [show noErr (mt [(x, y)]) b = some (.ok true, b1) by unfold noErr; rw [ht]]
  show M.bind (noErr (me [(x, y)])) _ b1 = _
  unfold M.bind
  rw [show noErr (me [(x, y)]) b1 = some (.ok z, b2) by unfold noErr; rw [he]]
  show (if acc.length < sizeLine then _ else none) = _
  rw [if_pos hl]
theorem keep_nil {b b' : Sto} {jl : List Nat} (k : Keep [] b b') : Keep jl b b' := ⟨k.1, fun i o _ h => k.2 i o (by simp) h⟩
theorem dup_go (n : Nat) {sn : Nat} {N : V} (hN : flatV N = true) {suf : List V} {w : List (Int × Int × Int)} {b0 : Sto} (H : HeardAt b0 [] N suf w) : ∀ {pre acc : List V} {b : Sto} {m : Nat}, Keep [] b0 b → b[sn]? = some (.list (pre ++ suf)) → suf.length < m → acc.length + suf.length ≤ 4000 →
    ∃ b' ks, compM (S "one") (mtC lo K n) (meC lo K n) (.lst sn) m pre.length acc b = some (.ok (acc ++ ks), b') ∧ HeardAt b' [] N ks w ∧ Keep [] b b' := by
  induction H with
  | nil =>
    intro pre acc b m k0 hs hm hl
    cases m with
    | zero => exact absurd hm (Nat.not_lt_zero _)
    | succ m =>
      refine ⟨b, [], ?_, .nil, .refl⟩
      rw [List.append_nil] at hs ⊢
      refine comp_end ?_
      show (lstAt b sn).map (fun l => l[pre.length]?) = _
      unfold lstAt
      rw [hs]
      show some pre[pre.length]? = _
      rw [List.getElem?_eq_none (Nat.le_refl _)]
  | @cons k suf x w _ g _ ih =>
    intro pre acc b m k0 hs hm hl
    cases m with
    | zero => exact absurd hm (Nat.not_lt_zero _)
    | succ m =>
      obtain ⟨b1, e1, g1, k1⟩ := dup_m (lo := lo) (K := K) n hN (k0.2 _ _ List.not_mem_nil g)
      simp only [List.length_cons] at hm hl
      obtain ⟨b2, ks, e2, h2, k2⟩ := ih (m := m) (pre := pre ++ [.hnd k]) (acc := acc ++ [.hnd b.length]) (k0.trans k1) (by rw [List.append_assoc]; exact k1.2 _ _ List.not_mem_nil hs) (by lia) (by rw [List.length_append, List.length_singleton]; lia)
      refine ⟨b2, .hnd b.length :: ks, ?_, .cons List.not_mem_nil (k2.2 _ _ List.not_mem_nil g1) h2, k1.trans k2⟩
      rw [comp_go (b1 := b) (b2 := b1) (y := .hnd k) (z := .hnd b.length) ?_ rfl e1 (by unfold sizeLine; lia)]
      · rw [List.length_append] at e2
        rw [show acc ++ V.hnd b.length :: ks = acc ++ [.hnd b.length] ++ ks from (List.append_assoc acc [V.hnd b.length] ks).symm]
        exact e2
      · show (lstAt b sn).map (fun l => l[pre.length]?) = _
        unfold lstAt
        rw [hs]
        show some (pre ++ V.hnd k :: suf)[pre.length]? = _
        rw [List.getElem?_append_right (Nat.le_refl _), Nat.sub_self]; rfl
end
section
variable {G : Pg} {F : Fs} {n : Nat} {fn : Fn} {q : Bool} {CL : List (Str × Nat)}
theorem tst_or {d : Nat} {x x1 x2 : Expr} {ρ : Loc} {b b1 b2 : Sto} {v : Bool} (hp : planT x = .or_ [x1, x2]) (h1 : tstM' G F n fn q CL d x1 ρ b = some (.ok false, b1)) (h2 : tstM' G F n fn q CL d x2 ρ b1 = some (.ok v, b2)) :
    tstM' G F n fn q CL (d + 1) x ρ b = some (.ok v, b2) := by
  show tstS _ false fn.sc CL ρ (planT x) b = _
  rw [hp]
  show M.bind (tstM' G F n fn q CL d x1 ρ) _ b = _
  unfold M.bind
  rw [h1]
  show M.bind (tstM' G F n fn q CL d x2 ρ) _ b1 = _
  unfold M.bind
  rw [h2]
  cases v <;> rfl
theorem tst_and1 {d : Nat} {x x1 x2 : Expr} {ρ : Loc} {b b1 : Sto} (hp : planT x = .and_ [x1, x2]) (h1 : tstM' G F n fn q CL d x1 ρ b = some (.ok false, b1)) :
    tstM' G F n fn q CL (d + 1) x ρ b = some (.ok false, b1) := by
  show tstS _ false fn.sc CL ρ (planT x) b = _
  rw [hp]
  show M.bind (tstM' G F n fn q CL d x1 ρ) _ b = _
  unfold M.bind
  rw [h1]
  rfl
theorem tst_and2 {d : Nat} {x x1 x2 : Expr} {ρ : Loc} {b b1 b2 : Sto} {v : Bool} (hp : planT x = .and_ [x1, x2]) (h1 : tstM' G F n fn q CL d x1 ρ b = some (.ok true, b1)) (h2 : tstM' G F n fn q CL d x2 ρ b1 = some (.ok v, b2)) :
    tstM' G F n fn q CL (d + 1) x ρ b = some (.ok v, b2) := by
  show tstS _ false fn.sc CL ρ (planT x) b = _
  rw [hp]
  show M.bind (tstM' G F n fn q CL d x1 ρ) _ b = _
  unfold M.bind
  rw [h1]
  show M.bind (tstM' G F n fn q CL d x2 ρ) _ b1 = _
  unfold M.bind
  rw [h2]
  cases v <;> rfl
theorem val_cell {d : Nat} {x : Expr} {z : Str} {ρ : Loc} {b : Sto} {k : Nat} {y : V} (hp : planE q false x = .name z) (hz : (z == ("__debug__" : Str) || z == ("__classdict__" : Str)) = false) (hs : fn.sc.names.lookup z = some .cell) (hl : CL.lookup z = some k) (hb : b[k]? = some (.cell (some y))) :
    expM' G F n fn q CL (d + 1) x ρ b = some (.ok y, b) := by
  show valS G (callF G F n) fn q _ false fn.sc CL ρ (planE q false x) b = _
  rw [hp]
  show nameM G fn.sc CL ρ z b = _
  unfold nameM
  rw [hz, hs]
  show (celV CL z b).map _ = _
  unfold celV
  rw [hl]
  show ((b[k]?).bind O.cel).map _ = _
  rw [hb]; rfl
end
section
variable {lo : List Str} {K : Params → Frag}
theorem z15p : planS f817 true s15 = .ite (testOf s15) (bodyOf s15) (elseOf s15) := by kernel_rfl
theorem z15e : elseOf s15 = [] := by kernel_rfl
theorem z15o : planT (testOf s15) = .or_ [x15, y15] := by kernel_rfl
theorem z15c : planT x15 = .cmp (cmpL x15) .NotEq cp15 := by kernel_rfl
theorem z15d : planT y15 = .cmp (cmpL y15) .NotEq (cmpR y15) := by kernel_rfl
theorem z15k : planE true false cp15 = .comp (eltOf cp15) (S "one") (iterC cp15) [] (cscOf cp15) := by kernel_rfl
theorem z15cl : clos CLaw (cscOf cp15).names [] = some [] := by kernel_rfl
theorem z15n : planE true false (cmpL x15) = .name (S "heard") := by kernel_rfl
theorem z15f : planE true false (cmpL y15) = .name (S "first") := by kernel_rfl
theorem z15i (n : Nat) (scr : V) (p : Nat) (t : Int) (rows amounts due : Nat) (name : V) (bb : Int) (lp : V) (isb g : Bool) (parts deeds : Nat) (b : Sto) : expM' (GG lo K) FF n f817 true CLaw 17 (iterC cp15) (rho3 scr p t rows amounts due name bb lp isb g parts deeds) b = some (.ok (.hnd due), b) := by kernel_rfl
theorem z15m (n : Nat) (scr : V) (p : Nat) (t : Int) (rows amounts due : Nat) (name : V) (bb : Int) (lp : V) (isb g : Bool) (parts deeds : Nat) (b : Sto) : expM' (GG lo K) FF n f817 true CLaw 18 (cmpR y15) (rho3 scr p t rows amounts due name bb lp isb g parts deeds) b = some (.ok (.hnd amounts), b) := by kernel_rfl
theorem keep_snoc {jl : List Nat} {b : Sto} {o : O} : Keep jl b (b ++ [o]) := ⟨List.length_append ▸ Nat.le_add_right .., fun _ _ _ h => (List.getElem?_append_left (lt_of_get h)).trans h⟩
theorem comp15 {P : Prop} (n : Nat) {b : Sto} {sn : Nat} {N : V} {hs : List V} {w : List (Int × Int × Int)} {jl : List Nat} (hN : flatV N = true) (h : b[sn]? = some (.list hs)) (H : HeardAt b jl N hs w) (hw : w.length ≤ 4000) {ρ : Loc} (hi : expM' (GG lo K) FF (n + 20) f817 true CLaw 17 (iterC cp15) ρ b = some (.ok (.hnd sn), b))
    (f : ∀ b' k ks, expM' (GG lo K) FF (n + 20) f817 true CLaw 18 cp15 ρ b = some (.ok (.hnd k), b') → b'[k]? = some (.list ks) → HeardAt b' [] N ks w → Keep [] b b' → P) : P := by
  have hlen := H.length
  obtain ⟨b1, ks, e1, h1, k1⟩ := dup_go (lo := lo) (K := K) n hN (H.off (jm := []) fun k _ => List.not_mem_nil) (sn := sn) (pre := []) (acc := []) (m := turns) .refl h (by unfold turns; lia) (by show 0 + _ ≤ _; lia)
  have e1 : compM (S "one") (mtC lo K n) (meC lo K n) (It.lst sn) turns 0 [] b = some (.ok ks, b1) := e1
  refine f (b1 ++ [.list ks]) b1.length ks ?_ (by rw [List.getElem?_append_right (Nat.le_refl _), Nat.sub_self]; rfl) (h1.keep keep_snoc) (k1.trans keep_snoc)
  show valS (GG lo K) (callF (GG lo K) FF (n + 20)) f817 true _ false f817.sc CLaw ρ (planE true false cp15) b = _
  rw [z15k]
  show (match clos CLaw (cscOf cp15).names [] with
    | some CL' => M.bind (expM' (GG lo K) FF (n + 20) f817 true CLaw 17 (iterC cp15) ρ) fun y => M.bind (still fun st => itOf y st) fun it => M.bind (compM (S "one") (fun ρ' => testsM ((evS (GG lo K) (callF (GG lo K) FF (n + 20)) f817 true 17).tst true (cscOf cp15) CL' ρ') []) (fun ρ' => (evS (GG lo K) (callF (GG lo K) FF (n + 20)) f817 true 17).val true (cscOf cp15) CL' ρ' (eltOf cp15)) it turns 0 []) fun l => newO (.list l)
    | none => stop) b = _
  rw [z15cl]
  show M.bind (expM' (GG lo K) FF (n + 20) f817 true CLaw 17 (iterC cp15) ρ) (fun y => M.bind (still fun st => itOf y st) fun it => M.bind (compM (S "one") (mtC lo K n) (meC lo K n) it turns 0 []) fun l => newO (.list l)) b = _
  have hit : still (fun st => itOf (.hnd sn) st) b = some (.ok (It.lst sn), b) := by
    unfold still
    show ((b[sn]?).bind (itO sn)).map _ = _
    rw [h]; rfl
  unfold M.bind
  rw [hi]
  dsimp only
  rw [hit]
  dsimp only
  rw [e1]
  rfl
theorem turn4 {P : Prop} (n : Nat) {b : Sto} {am fd sn hl : Nat} {u v : Int} {d : D} {hh hs : List V} {w : List (Int × Int × Int)} {j1 j2 : List Nat} (c3 : b[3]? = some (cellO hl)) (c4 : b[4]? = some (cellO fd)) (fh : b[hl]? = some (.list hh)) (ff : b[fd]? = some (dicO (numT u v) d)) (fa : b[am]? = some (dicO (numT u v) d)) (fs : b[sn]? = some (.list hs))
    (h1 : HeardAt b j1 (numT u v) hh w) (h2 : HeardAt b j2 (numT u v) hs w) (hw : w.length ≤ 4000) (scr : V) (p : Nat) (t : Int) (rows : Nat) (name : V) (bb : Int) (lp : V) (isb g : Bool) (parts deeds : Nat)
    (f : ∀ b', stS (GG lo K) f817 true (evS (GG lo K) (callF (GG lo K) FF (n + 20)) f817 true deep) CLaw 19 s15 (rho3 scr p t rows am sn name bb lp isb g parts deeds) b = some (.ok (.next, rho3 scr p t rows am sn name bb lp isb g parts deeds), b') → Keep [] b b' → P) : P :=
  comp15 (lo := lo) (K := K) n (N := numT u v) rfl fs h2 hw (z15i (lo := lo) (K := K) (n + 20) scr p t rows am sn name bb lp isb g parts deeds b) fun b1 k ks e1 g1 g2 k1 => f b1 ((st_if (d := 18) z15p (tst_or z15o (tst_cmp z15c (val_cell z15n (by kernel_rfl) (by kernel_rfl) (by kernel_rfl) c3) e1 (ne_heard (k1.2 _ _ List.not_mem_nil fh) g1 (h1.keep (keep_nil k1)) g2))
    (tst_cmp z15d (val_cell z15f (by kernel_rfl) (by kernel_rfl) (by kernel_rfl) (k1.2 _ _ List.not_mem_nil c4)) (z15m _ _ _ _ _ _ _ _ _ _ _ _ _ _ _) (ne_dic (k1.2 _ _ List.not_mem_nil ff) (k1.2 _ _ List.not_mem_nil fa))))).trans (by
      show blkM _ _ _ _ _ _ _ (elseOf s15) _ _ = _
      rw [z15e]; rfl)) k1
end
def s16 : Stmt := nth turnB 16
def x16 : Expr := nthE (orsOf (testOf s16)) 0
def y16 : Expr := nthE (orsOf (testOf s16)) 1
def CL16 : List (Str × Nat) := [(S "log", 0), (S "heard", up 3), (S "first", up 4)]
section
variable {lo : List Str} {K : Params → Frag}
theorem z16p : planS f817 true s16 = .ite (testOf s16) (bodyOf s16) (elseOf s16) := by kernel_rfl
theorem z16e : elseOf s16 = [] := by kernel_rfl
theorem z16o : planT (testOf s16) = .and_ [x16, y16] := by kernel_rfl
theorem z16a (n : Nat) (scr : V) (p : Nat) (t : Int) (rows amounts due : Nat) (name : V) (bb : Int) (sh : Shape) (isb g : Bool) (parts deeds : Nat) (b : Sto) : tstM' (GG lo K) FF n f817 true CLaw 19 x16 (rho3 scr p t rows amounts due name bb (loopV sh) isb g parts deeds) b = some (.ok sh.isTimes, b) := by
  cases sh <;> kernel_rfl
theorem z16x (n : Nat) (ρ : Loc) : (evX (GG lo K) (callX (GG lo K) FF (n + 20)) f817 true 19).tst false f817.sc CL16 ρ y16 ⟨[.cell (some (.hnd 1)), .list [s_ "asked"]], [], [], True⟩ = some (false, ⟨[.cell (some (.hnd 1)), .list [s_ "asked"], .list [s_ "asked"], .list [s_ "asked"]], [], [], True⟩) := by kernel_rfl
theorem two_far {j k : Nat} : ([j, k] : List Nat).length ≤ far := by unfold far; simp
section
variable {n k p rows amounts due parts deeds : Nat} {b : Sto} {scr name lp : V} {t bb : Int} {isb g : Bool} {sh : Shape} {lg : List V} {P : Prop}
theorem z16b (c2 : b[2]? = some (cellO k)) (fk : b[k]? = some (.list [s_ "asked"])) (hscr : flatV scr = true) (hname : flatV name = true) (hlp : flatV lp = true) (f : ∀ b', tstM' (GG lo K) FF (n + 20) f817 true CLaw 19 y16 (rho3 scr p t rows amounts due name bb lp isb g parts deeds) b = some (.ok false, b') → Keep [] b b' → P) : P := by
  have hk2 : 2 ≠ k := fun h => by rw [← h, c2] at fk; exact O.noConfusion (sInj fk)
  have hin : In b [2, k] [.cell (some (.hnd 1)), .list [s_ "asked"]] := In.of (nc (nm hk2 List.not_mem_nil) (nc List.not_mem_nil .nil)) trivial ⟨c2, fk, trivial⟩
  obtain ⟨b', e1, X⟩ := hin.run (mp := fun _ => id) (m' := fun e => tstM' (GG lo K) FF (n + 20) f817 true (mpC e CL16) 19 y16 (mpP e (rho3 scr (up p) t (up rows) (up amounts) (up due) name bb lp isb g (up parts) (up deeds)))) (fun N e => (evX_tr G0_plain.1 (callX_tr G0_plain (n + 20)) 19).tst false f817.sc CL16 _ _)
    (z16x n _) trivial oN (by simp only [List.length_cons, List.length_nil]; unfold far; lia)
  have hup : ∀ i, eof [2, k] b.length (up i) = i := fun i => eof_up two_far
  have hcl : mpC (eof [2, k] b.length) CL16 = CLaw := by
    unfold mpC CL16 CLaw
    rw [List.map_cons, List.map_cons, List.map_cons, hup, hup]
    rfl
  rw [hcl, rho3_mp' _ _ _ _ _ _ _ _ _ _ _ _ _ _ hscr hname hlp, hup, hup, hup, hup, hup, hup] at e1
  refine f b' e1 ⟨X.keep.1, fun i o _ hi => ?_⟩
  by_cases h2 : i = 2
  · rw [h2] at hi ⊢; exact (X.get 0 _ rfl).trans (c2.symm.trans hi)
  · by_cases hk : i = k
    · rw [hk] at hi ⊢; exact (X.get 1 _ rfl).trans (fk.symm.trans hi)
    · exact X.keep.2 i o (nm h2 (nm hk List.not_mem_nil)) hi
theorem st16 {ρ : Loc} {b' : Sto} (e : tstM' (GG lo K) FF n f817 true CLaw 20 (testOf s16) ρ b = some (.ok false, b')) : stS (GG lo K) f817 true (evS (GG lo K) (callF (GG lo K) FF n) f817 true deep) CLaw 19 s16 ρ b = some (.ok (.next, ρ), b') := by
  rw [st_if (d := 18) z16p e]
  show blkM _ _ _ _ _ _ _ (elseOf s16) _ _ = _
  rw [z16e]
  rfl
theorem turn5 (c2 : b[2]? = some (cellO k)) (fk : b[k]? = some (.list lg)) (hl : sh.isTimes = true → lg = [s_ "asked"]) (hscr : flatV scr = true) (hname : flatV name = true)
    (f : ∀ b', stS (GG lo K) f817 true (evS (GG lo K) (callF (GG lo K) FF (n + 20)) f817 true deep) CLaw 19 s16 (rho3 scr p t rows amounts due name bb (loopV sh) isb g parts deeds) b = some (.ok (.next, rho3 scr p t rows amounts due name bb (loopV sh) isb g parts deeds), b') → Keep [] b b' → P) : P := by
  have h1 := z16a (lo := lo) (K := K) (n + 20) scr p t rows amounts due name bb sh isb g parts deeds b
  cases ht : sh.isTimes with
  | false => rw [ht] at h1; exact f b (st16 (tst_and1 z16o h1)) .refl
  | true =>
    rw [ht] at h1
    rw [hl ht] at fk
    exact z16b c2 fk hscr hname (flat_loop sh) fun b' e k => f b' (st16 (tst_and2 z16o h1 e)) k
end
theorem turnB_eq : turnB = blk1 ++ ((s5 :: blk2) ++ [s14, s15, s16]) := by kernel_rfl
def oldOf (rows am due : Nat) (name : V) (bb : Int) (sh : Shape) (isb g : Bool) (parts deeds : Nat) : Old := ⟨.hnd rows, .hnd am, name, .int bb, .hnd due, loopV sh, .tup [said], .bool isb, goalV g, .hnd parts, .hnd deeds⟩
section
variable {n p c am fd L sn : Nat} {b b1 b3 b6 b7 b8 : Sto} {s r : Int} {zs : List Int} {N : V} {d d' : D} {g isb : Bool} {sh : Shape} {w : List (Int × Int × Int)} {hh lg : List V} {scr name : V} {t bb : Int} {rows : Nat} {P : Prop}
theorem ne_fd (h : ([p, c, am, fd, sn] : List Nat).Nodup) : p ≠ fd ∧ c ≠ fd ∧ am ≠ fd ∧ sn ≠ fd := by
  have h1 := List.nodup_cons.mp h
  have h2 := List.nodup_cons.mp h1.2
  have h3 := List.nodup_cons.mp h2.2
  have h4 := List.nodup_cons.mp h3.2
  exact ⟨fun e => h1.1 (e ▸ .tail _ (.tail _ (.head _))), fun e => h2.1 (e ▸ .tail _ (.head _)), fun e => h3.1 (e ▸ .head _), fun e => h4.1 (e ▸ .head _)⟩
theorem turn45 (T2 : Turn2 lo K b3 p c am fd L sn s r zs N d d' g sh w) (T3 : Turn3 b3 b6 fd L N d' sh w hh lg) (hscr : flatV scr = true) (hname : flatV name = true)
    (f : ∀ b7 b8, stS (GG lo K) f817 true (evS (GG lo K) (callF (GG lo K) FF (n + 20)) f817 true deep) CLaw 19 s15 (rho3 scr p t rows am sn name bb (loopV sh) isb g (L + 2) (L + 9)) b6 = some (.ok (.next, rho3 scr p t rows am sn name bb (loopV sh) isb g (L + 2) (L + 9)), b7) →
      stS (GG lo K) f817 true (evS (GG lo K) (callF (GG lo K) FF (n + 20)) f817 true deep) CLaw 19 s16 (rho3 scr p t rows am sn name bb (loopV sh) isb g (L + 2) (L + 9)) b7 = some (.ok (.next, rho3 scr p t rows am sn name bb (loopV sh) isb g (L + 2) (L + 9)), b8) → TurnAt b8 p c s r zs → P) : P := by
  obtain ⟨n1, n2, n3, n4⟩ := ne_fd T2.ne
  obtain ⟨u, v, e⟩ := T2.num
  subst e
  obtain ⟨hs, f1, f2, f3⟩ := T2.due
  have due : HeardAt b6 [] (numT u v) hs w := f2.mono fun k o m hn e => ⟨List.not_mem_nil, T3.mid k o (Nat.not_lt.mp fun h => hn (List.mem_append_left [p, c, am, fd] (List.mem_range.mpr h : k ∈ List.range 5))) (f3 k m) (fun h => hn (h ▸ List.mem_append_right [0, 1, 2, 3, 4, p, c, am] (.head _))) e⟩
  exact turn4 n T3.c3 T3.c4 T3.heard T3.ffd (T3.mid _ _ T2.am5 T2.big.2.2.1 n3 T2.fam) (T3.mid _ _ T2.sn5 T2.big.2.2.2.2 n4 f1) T3.hd due T2.wl scr p t rows name bb (loopV sh) isb g (L + 2) (L + 9) fun b7 e4 k7 => turn5 (k7.2 _ _ List.not_mem_nil T3.c2) (k7.2 _ _ List.not_mem_nil T3.log) T3.asked hscr hname fun b8 e5 k8 =>
    have K8 : ∀ {i : Nat} {o : O}, b6[i]? = some o → b8[i]? = some o := fun h => (k7.trans k8).2 _ _ List.not_mem_nil h
    f b7 b8 e4 e5 ⟨T2.hp, T2.hc, fun e => (List.nodup_cons.mp T2.ne).1 (e ▸ .head _), K8 T3.t0, K8 T3.t1, ⟨_, K8 T3.c2⟩, ⟨_, K8 T3.c3⟩, ⟨_, K8 T3.c4⟩, K8 (T3.mid _ _ T2.hp T2.big.1 n1 T2.fp), K8 (T3.mid _ _ T2.hc T2.big.2.1 n2 T2.fc)⟩
theorem turn_asm {ρ0 ρ1 ρ : Loc} (e1 : blkM (GG lo K) FF n f817 true CLaw 19 blk1 ρ0 b = some (.ok (.next, ρ1), b1)) (e2 : blkM (GG lo K) FF n f817 true CLaw 19 (s5 :: blk2) ρ1 b1 = some (.ok (.next, ρ), b3)) (e3 : tstM' (GG lo K) FF n f817 true CLaw 20 (testOf s14) ρ b3 = some (.ok false, b6))
    (e4 : stS (GG lo K) f817 true (evS (GG lo K) (callF (GG lo K) FF n) f817 true deep) CLaw 19 s15 ρ b6 = some (.ok (.next, ρ), b7)) (e5 : stS (GG lo K) f817 true (evS (GG lo K) (callF (GG lo K) FF n) f817 true deep) CLaw 19 s16 ρ b7 = some (.ok (.next, ρ), b8)) : blkM (GG lo K) FF n f817 true CLaw 19 turnB ρ0 b = some (.ok (.next, ρ), b8) := by
  have e3' : stS (GG lo K) f817 true (evS (GG lo K) (callF (GG lo K) FF n) f817 true deep) CLaw 19 s14 ρ b3 = some (.ok (.next, ρ), b6) := by
    rw [st_if (d := 18) z14p e3]
    show blkM _ _ _ _ _ _ _ (elseOf s14) _ _ = _
    rw [z14e]
    rfl
  rw [turnB_eq, blk_app e1, blk_app e2, blk_cons e3', blk_cons e4, blk_cons e5]
  rfl
theorem turn_ok (n : Nat) (hz : zs.length ≤ 63) (T : TurnAt b p c s r zs) (h0 : 0 ≤ s) (h1 : s ≤ 700) (hr : 0 ≤ r) (scr : V) (hscr : flatV scr = true) (t : Int) (o : Option Old)
    (f : ∀ b' s' r' o', blkM (GG lo K) FF (n + 20) f817 true CLaw 19 turnB (head0 scr p t ++ tail0 o) b = some (.ok (.next, head0 scr p t ++ tail0 (some o')), b') → TurnAt b' p c s' r' zs → s ≤ s' → s' ≤ s + 20 → 0 ≤ r' → P) : P :=
  turn1 (lo := lo) (K := K) n hz T h0 h1 hr scr hscr t o fun b1 m s1 q1 d r1 r2 r3 name bb e1 T1 k1 u0 u1 hname => turn2 (lo := lo) (K := K) n hz T1 (Int.le_trans h0 u0) (by lia) T.hp T.hc ⟨lt_of_get T.p, lt_of_get T.c⟩ scr hscr t name hname bb o fun b3 L3 s3 q3 N d' isb g sh w e2 T2 v0 v1 hL3 =>
    turn3 (lo := lo) (K := K) n (t := t) (bb := bb) (isb := isb) (rows := b.length) T2 hscr hname fun b6 hh lg e3 T3 => turn45 (n := n) T2 T3 hscr hname fun b7 b8 e4 e5 TT => f b8 s3 q3 (oldOf b.length (b.length + 1) (b.length + 5 + m) name bb sh isb g (L3 + 2) (L3 + 9)) (turn_asm e1 e2 e3 e4 e5) TT (Int.le_trans u0 v0) (by lia) T2.r0
end
end
theorem range_pick (l : List V) : ∀ (m : Nat), m ≤ l.length → (List.range m).filterMap (l[·]?) = l.take m
  | 0, _ => rfl
  | m + 1, h => by
    rw [List.range_succ, List.filterMap_append, range_pick l m (by lia), List.take_add_one]
    have : l[m]? = some l[m] := List.getElem?_eq_getElem (by lia)
    simp only [List.filterMap_cons, List.filterMap_nil, this, Option.toList]
theorem pick_upto (l : List V) (b : Nat) (h : l.length ≤ b) : pickV l none (some (b : Int)) none = l := by
  unfold pickV
  rw [sliceBounds_plain]
  simp only [Option.elim]
  rw [clipAt_nat, show min b l.length = l.length by lia]
  have : sliceRange ((0 : Nat) : Int) ((l.length : Nat) : Int) 1 = List.range l.length := by
    rw [sliceRange_one, Nat.sub_zero]
    conv => rhs; rw [← List.map_id (List.range l.length)]
    exact List.map_congr_left fun k _ => by simp
  rw [this, range_pick l _ (Nat.le_refl _), List.take_length]
def penS : Stmt := nth f737.body 0
def penL : List Expr := match planE true false (valOf penS) with
  | .list es => es
  | _ => []
def penC : Expr := nthE penL 0
section
variable {lo : List Str} {K : Params → Frag}
theorem pn1 : f737.body = [penS] := by kernel_rfl
theorem pn2 : planS f737 true penS = .ret (valOf penS) := by kernel_rfl
theorem pn3 : planE true false (valOf penS) = .list penL := by kernel_rfl
theorem pn4 : penL = [penC, nthE penL 1, nthE penL 2] := by kernel_rfl
theorem pn5 : planE true false penC = .comp (eltOf penC) (S "cell") (iterC penC) [] (cscOf penC) := by kernel_rfl
theorem pn6 : clos ([] : List (Str × Nat)) (cscOf penC).names [] = some [] := by kernel_rfl
theorem pn7 (n : Nat) (i : Int) (b : Sto) : (evS (GG lo K) (callF (GG lo K) FF (n + 20)) f737 true 18).val true (cscOf penC) [] [(S "cell", .int i)] (eltOf penC) b = some (.ok (.int i), b) := by kernel_rfl
theorem pn8 (n : Nat) (ρ : Loc) (b : Sto) : expM' (GG lo K) FF n f737 true [] 19 (nthE penL 1) ρ b = some (.ok (.int 0), b) := by kernel_rfl
theorem pn9 (n : Nat) (ρ : Loc) (b : Sto) : expM' (GG lo K) FF n f737 true [] 19 (nthE penL 2) ρ b = some (.ok (.int 0), b) := by kernel_rfl
def sliceOf : Expr := match planE true false (iterC penC) with
  | .slice o _ _ _ => o
  | _ => default
def slicHi : Option Expr := match planE true false (iterC penC) with
  | .slice _ _ h _ => h
  | _ => none
theorem pn10 : planE true false (iterC penC) = .slice sliceOf none slicHi none := by kernel_rfl
theorem pn11 (n : Nat) (y : V) (b : Sto) : expM' (GG lo K) FF n f737 true [] 17 sliceOf [(S "script", y)] b = some (.ok y, b) := by kernel_rfl
theorem pn12 (n : Nat) (ρ : Loc) (b : Sto) : partE (fun x => expM' (GG lo K) FF n f737 true [] 17 x ρ) slicHi b = some (.ok (.int 63), b) := by kernel_rfl
theorem pen_iter (n : Nat) {l : List Int} (hl : l.length ≤ 63) (b : Sto) : expM' (GG lo K) FF n f737 true [] 18 (iterC penC) [(S "script", .lstK (l.map .int))] b = some (.ok (.hnd b.length), b ++ [.list (l.map .int)]) := by
  show valS (GG lo K) (callF (GG lo K) FF n) f737 true (evS (GG lo K) (callF (GG lo K) FF n) f737 true 17) false f737.sc [] [(S "script", .lstK (l.map .int))] (planE true false (iterC penC)) b = _
  rw [pn10]
  show M.bind (expM' (GG lo K) FF n f737 true [] 17 sliceOf [(S "script", .lstK (l.map .int))]) (fun a => M.bind (M.pure .none) fun x => M.bind (partE (fun x => expM' (GG lo K) FF n f737 true [] 17 x [(S "script", .lstK (l.map .int))]) slicHi) fun y => M.bind (M.pure .none) fun z => sliceM a x y z) b = _
  unfold M.bind
  rw [pn11]
  dsimp only [M.pure]
  rw [pn12]
  have : sliceV (.lstK (l.map .int)) .none (.int 63) .none b = some (l.map .int) := by
    show (if (l.map V.int).length ≤ sizeLine ∧ (none : Option Int) ≠ some 0 then some (pickV (l.map .int) none (some ((63 : Nat) : Int)) none) else none) = _
    rw [if_pos ⟨by rw [List.length_map]; unfold sizeLine; lia, by simp⟩, pick_upto _ 63 (by rw [List.length_map]; exact hl)]
  show (sliceV (.lstK (l.map .int)) .none (.int 63) .none b).bind (fun l => newO (.list l) b) = _
  rw [this]
  rfl
def meP (lo : List Str) (K : Params → Frag) (n : Nat) (ρ : Loc) : M V := (evS (GG lo K) (callF (GG lo K) FF (n + 20)) f737 true 18).val true (cscOf penC) [] ρ (eltOf penC)
def mtP (lo : List Str) (K : Params → Frag) (n : Nat) (ρ : Loc) : M Bool := testsM ((evS (GG lo K) (callF (GG lo K) FF (n + 20)) f737 true 18).tst true (cscOf penC) [] ρ) []
theorem pen_go (n : Nat) {j : Nat} {b : Sto} : ∀ {suf pre : List Int} {m : Nat}, b[j]? = some (.list ((pre ++ suf).map .int)) → suf.length < m → pre.length + suf.length ≤ 4000 →
    compM (S "cell") (mtP lo K n) (meP lo K n) (.lst j) m pre.length (pre.map .int) b = some (.ok ((pre ++ suf).map .int), b)
  | [], pre, m + 1, hs, _, _ => by
    rw [List.append_nil] at hs ⊢
    refine comp_end ?_
    show (lstAt b j).map (fun l => l[pre.length]?) = _
    unfold lstAt
    rw [hs]
    show some (pre.map V.int)[pre.length]? = _
    rw [List.getElem?_eq_none (by rw [List.length_map]; exact Nat.le_refl _)]
  | i :: suf, pre, m + 1, hs, hm, hl => by
    simp only [List.length_cons] at hm hl
    have ih := pen_go n (b := b) (j := j) (suf := suf) (pre := pre ++ [i]) (m := m) (by rw [List.append_assoc]; exact hs) (by lia) (by rw [List.length_append]; simp; lia)
    rw [comp_go (b1 := b) (b2 := b) (y := .int i) (z := .int i) ?_ rfl (pn7 n i b) (by rw [List.length_map]; unfold sizeLine; lia)]
    · rw [List.length_append, List.append_assoc, List.map_append] at ih
      exact ih
    · show (lstAt b j).map (fun l => l[pre.length]?) = _
      unfold lstAt
      rw [hs]
      show some ((pre ++ i :: suf).map V.int)[pre.length]? = _
      rw [List.map_append, List.getElem?_append_right (by rw [List.length_map]; exact Nat.le_refl _), List.length_map, Nat.sub_self]; rfl
theorem pen_ok (n : Nat) {l : List Int} (hl : l.length ≤ 63) (b : Sto) : callF (GG lo K) FF (n + 21) true (.glob 737) [.lstK (l.map .int)] b = some (.ok (.hnd (b.length + 2)), b ++ [.list (l.map .int)] ++ [.list (l.map .int)] ++ [.list [.hnd (b.length + 1), .int 0, .int 0]]) := by
  refine call_plain (g := f737) (fl := .ret (.hnd (b.length + 2))) (ρ := [(S "script", .lstK (l.map .int))]) (ρ' := [(S "script", .lstK (l.map .int))]) (by kernel_rfl) rfl (by kernel_rfl) rfl (by kernel_rfl) ?_
  rw [pn1]
  refine st_blk ?_
  show smdS (GG lo K) f737.sc true (evS (GG lo K) (callF (GG lo K) FF (n + 20)) f737 true deep) [] (seqM (stS (GG lo K) f737 true (evS (GG lo K) (callF (GG lo K) FF (n + 20)) f737 true deep) [] 19)) (planS f737 true penS) [(S "script", .lstK (l.map .int))] b = _
  rw [pn2]
  show M.bind (valS (GG lo K) (callF (GG lo K) FF (n + 20)) f737 true _ false f737.sc [] _ (planE true false (valOf penS))) _ b = _
  rw [pn3]
  have hcp : expM' (GG lo K) FF (n + 20) f737 true [] 19 penC [(S "script", .lstK (l.map .int))] b = some (.ok (.hnd (b.length + 1)), b ++ [.list (l.map .int)] ++ [.list (l.map .int)]) := by
    show valS (GG lo K) (callF (GG lo K) FF (n + 20)) f737 true _ false f737.sc [] _ (planE true false penC) b = _
    rw [pn5]
    show (match clos ([] : List (Str × Nat)) (cscOf penC).names [] with
      | some CL' => M.bind (expM' (GG lo K) FF (n + 20) f737 true [] 18 (iterC penC) [(S "script", .lstK (l.map .int))]) fun y => M.bind (still fun st => itOf y st) fun it => M.bind (compM (S "cell") (fun ρ' => testsM ((evS (GG lo K) (callF (GG lo K) FF (n + 20)) f737 true 18).tst true (cscOf penC) CL' ρ') []) (fun ρ' => (evS (GG lo K) (callF (GG lo K) FF (n + 20)) f737 true 18).val true (cscOf penC) CL' ρ' (eltOf penC)) it turns 0 []) fun l => newO (.list l)
      | none => stop) b = _
    rw [pn6]
    show M.bind (expM' (GG lo K) FF (n + 20) f737 true [] 18 (iterC penC) [(S "script", .lstK (l.map .int))]) (fun y => M.bind (still fun st => itOf y st) fun it => M.bind (compM (S "cell") (mtP lo K n) (meP lo K n) it turns 0 []) fun l => newO (.list l)) b = _
    unfold M.bind
    rw [pen_iter (n + 20) hl]
    have hat : (b ++ [O.list (l.map .int)])[b.length]? = some (.list (([] ++ l).map .int)) := by rw [List.getElem?_append_right (Nat.le_refl _), Nat.sub_self]; rfl
    have hit : still (fun st => itOf (.hnd b.length) st) (b ++ [O.list (l.map .int)]) = some (.ok (It.lst b.length), b ++ [O.list (l.map .int)]) := by
      unfold still
      show (((b ++ [O.list (l.map .int)])[b.length]?).bind (itO b.length)).map _ = _
      rw [hat]; rfl
    dsimp only
    rw [hit]
    dsimp only
    have hgo : compM (S "cell") (mtP lo K n) (meP lo K n) (.lst b.length) turns 0 [] (b ++ [O.list (l.map .int)]) = some (.ok (l.map .int), b ++ [O.list (l.map .int)]) := pen_go (lo := lo) (K := K) n (pre := []) (suf := l) hat (by unfold turns; lia) (by simp; lia)
    rw [hgo]
    show some (Except.ok (V.hnd (b ++ [O.list (l.map .int)]).length), _) = _
    rw [List.length_append]; rfl
  have hes : evList (fun x => expM' (GG lo K) FF (n + 20) f737 true [] 19 x [(S "script", .lstK (l.map .int))]) penL b = some (.ok [.hnd (b.length + 1), .int 0, .int 0], b ++ [.list (l.map .int)] ++ [.list (l.map .int)]) := by
    rw [pn4]
    exact exps_cons hcp (exps_cons (pn8 _ _ _) (exps_cons (pn9 _ _ _) rfl))
  show M.bind (M.bind (evList (fun x => expM' (GG lo K) FF (n + 20) f737 true [] 19 x [(S "script", .lstK (l.map .int))]) penL) fun l st => if l.length ≤ sizeLine then newO (.list l) st else none) _ b = _
  unfold M.bind
  dsimp only
  rw [hes]
  show some (Except.ok (Fl.ret (V.hnd (b ++ [O.list (l.map .int)] ++ [O.list (l.map .int)]).length), _), _) = _
  rw [List.length_append, List.length_append]; rfl
end
theorem for_go {asg : V → Loc → M Loc} {mb : Loc → M (Fl × Loc)} {it : It} {k i : Nat} {ρ ρ1 ρ2 : Loc} {b b1 b2 : Sto} {y : V} (hi : itM it i b = some (some y)) (ha : asg y ρ b = some (.ok ρ1, b1)) (hb : mb ρ1 b1 = some (.ok (.next, ρ2), b2)) : forM asg mb it (k + 1) i ρ b = forM asg mb it k (i + 1) ρ2 b2 := by
  conv => lhs; unfold forM
  unfold M.bind still
  dsimp only
  rw [hi]
  show M.bind (noErr (asg y ρ)) _ b = _
  unfold M.bind
  rw [show noErr (asg y ρ) b = some (.ok ρ1, b1) by unfold noErr; rw [ha]]
  show M.bind (noErr (mb ρ1)) _ b1 = _
  unfold M.bind
  rw [show noErr (mb ρ1) b1 = some (.ok (.next, ρ2), b2) by unfold noErr; rw [hb]]
theorem for_end {asg : V → Loc → M Loc} {mb : Loc → M (Fl × Loc)} {it : It} {k i : Nat} {ρ : Loc} {b : Sto} (hi : itM it i b = some none) : forM asg mb it (k + 1) i ρ b = some (.ok (.next, ρ), b) := by
  conv => lhs; unfold forM
  unfold M.bind still
  dsimp only
  rw [hi]
  rfl
def law0 : Stmt := nth f817.body 0
def law1 : Stmt := nth f817.body 1
def law2 : Stmt := nth f817.body 2
def itOf1 : Expr := match planS f817 true law1 with
  | .forN _ it _ => it
  | _ => default
section
variable {lo : List Str} {K : Params → Frag}
theorem la1 : f817.body = [law0, law1, law2] := by kernel_rfl
theorem la2 : planS f817 true law0 = .asN (S "pen") (valOf law0) := by kernel_rfl
theorem la3 : planE true false (valOf law0) = .call (calleeOf (valOf law0)) (argsOf (valOf law0)) := by kernel_rfl
theorem la4 (n : Nat) (ρ : Loc) (b : Sto) : expM' (GG lo K) FF n f817 true CLaw 19 (calleeOf (valOf law0)) ρ b = some (.ok (.glob 737), b) := by kernel_rfl
theorem la5 (n : Nat) (y : V) (b : Sto) : evList (fun x => expM' (GG lo K) FF n f817 true CLaw 19 x [(S "script", y)]) (argsOf (valOf law0)) b = some (.ok [y], b) := by kernel_rfl
theorem la6 (y z : V) (b : Sto) : storeM f817.sc CLaw (S "pen") z [(S "script", y)] b = some (.ok [(S "script", y), (S "pen", z)], b) := by kernel_rfl
theorem la7 : planS f817 true law1 = .forN (S "turn") itOf1 turnB := by kernel_rfl
theorem la8 (n : Nat) (ρ : Loc) (b : Sto) : expM' (GG lo K) FF (n + 20) f817 true CLaw 20 itOf1 ρ b = some (.ok (.rng 0 2 1), b) := by kernel_rfl
theorem la9 (b : Sto) : itOf (.rng 0 2 1) b = some (.rng 0 2 1) := by kernel_rfl
theorem la10 (y : V) (p : Nat) (b : Sto) : storeM f817.sc CLaw (S "turn") (.int 0) [(S "script", y), (S "pen", .hnd p)] b = some (.ok (head0 y p 0 ++ tail0 none), b) := by kernel_rfl
theorem la11 (y : V) (p : Nat) (t t' : Int) (o : Old) (b : Sto) : storeM f817.sc CLaw (S "turn") (.int t') (head0 y p t ++ tail0 (some o)) b = some (.ok (head0 y p t' ++ tail0 (some o)), b) := by kernel_rfl
theorem la12 (n : Nat) (ρ : Loc) (b : Sto) : stS (GG lo K) f817 true (evS (GG lo K) (callF (GG lo K) FF n) f817 true deep) CLaw deep law2 ρ b = some (.ok (.ret (.bool true), ρ), b) := by kernel_rfl
theorem la13 : (cellsFrom 0 f817.sc.names []).map (·.1) = [S "log", S "heard", S "first"] := by kernel_rfl
theorem la14 (y : V) : bindLV f817.sc (f817.names.zip [y]) [] = [(S "script", y)] := by kernel_rfl
theorem la15 (y : V) : cellsV [S "log", S "heard", S "first"] (bindCV f817.sc (f817.names.zip [y]) []) = [.cell none, .cell none, .cell none] := by kernel_rfl
theorem blk_ret {G : Pg} {F : Fs} {n : Nat} {fn : Fn} {q : Bool} {CL : List (Str × Nat)} {d : Nat} {s : Stmt} {r : List Stmt} {ρ ρ1 : Loc} {b b1 : Sto} {y : V} (h : stS G fn q (evS G (callF G F n) fn q deep) CL d s ρ b = some (.ok (.ret y, ρ1), b1)) :
    blkM G F n fn q CL d (s :: r) ρ b = some (.ok (.ret y, ρ1), b1) := by
  show M.bind _ _ b = _
  unfold M.bind
  rw [h]
  rfl
def b0L : Sto := [.tab q0s, .tab q1s, .cell none, .cell none, .cell none]
theorem flat_ints : ∀ l : List Int, flatVs (l.map V.int) = true
  | [] => rfl
  | _ :: r => flat_ints r
theorem flat_lstK (l : List Int) : flatV (.lstK (l.map .int)) = true := flat_ints l
theorem law_blk {l : List Int} (hl : l.length ≤ 63) : ∃ b' ρ', blkM (GG lo K) FF 39 f817 true CLaw deep f817.body [(S "script", .lstK (l.map .int))] b0L = some (.ok (.ret (.bool true), ρ'), b') ∧ b'[0]? = some (.tab q0s) ∧ b'[1]? = some (.tab q1s) := by
  have hflat : flatV (.lstK (l.map .int)) = true := flat_lstK l
  have hpen := pen_ok (lo := lo) (K := K) 18 hl b0L
  have T : TurnAt (b0L ++ [.list (l.map .int)] ++ [.list (l.map .int)] ++ [.list [.hnd 6, .int 0, .int 0]]) 7 6 0 0 l := ⟨by lia, by lia, by lia, rfl, rfl, ⟨_, rfl⟩, ⟨_, rfl⟩, ⟨_, rfl⟩, rfl, rfl⟩
  refine turn_ok (lo := lo) (K := K) 19 hl T (Int.le_refl _) (by decide) (Int.le_refl _) (.lstK (l.map .int)) hflat 0 none fun b1 s1 r1 o1 e1 T1 g0 g1 g2 => turn_ok (lo := lo) (K := K) 19 hl T1 g0 (by lia) g2 (.lstK (l.map .int)) hflat 1 (some o1) fun b2 s2 r2 o2 e2 T2 i0 i1 i2 => ?_
  refine ⟨b2, head0 (.lstK (l.map .int)) 7 1 ++ tail0 (some o2), ?_, T2.t0, T2.t1⟩
  rw [la1]
  have h1 : stS (GG lo K) f817 true (evS (GG lo K) (callF (GG lo K) FF 39) f817 true deep) CLaw deep law0 [(S "script", .lstK (l.map .int))] b0L = some (.ok (.next, [(S "script", .lstK (l.map .int)), (S "pen", .hnd 7)]), b0L ++ [.list (l.map .int)] ++ [.list (l.map .int)] ++ [.list [.hnd 6, .int 0, .int 0]]) :=
    st_asn (d := 19) la2 (val_call (d := 19) la3 (la4 _ _ _) (la5 _ _ _) (keep_mem (by kernel_rfl)) hpen) (la6 _ _ _)
  have h2 : stS (GG lo K) f817 true (evS (GG lo K) (callF (GG lo K) FF 39) f817 true deep) CLaw deep law1 [(S "script", .lstK (l.map .int)), (S "pen", .hnd 7)] (b0L ++ [.list (l.map .int)] ++ [.list (l.map .int)] ++ [.list [.hnd 6, .int 0, .int 0]]) = some (.ok (.next, head0 (.lstK (l.map .int)) 7 1 ++ tail0 (some o2)), b2) := by
    show smdS (GG lo K) f817.sc true (evS (GG lo K) (callF (GG lo K) FF 39) f817 true deep) CLaw (seqM (stS (GG lo K) f817 true (evS (GG lo K) (callF (GG lo K) FF 39) f817 true deep) CLaw 19)) (planS f817 true law1) [(S "script", .lstK (l.map .int)), (S "pen", .hnd 7)] _ = _
    rw [la7]
    show M.bind (expM' (GG lo K) FF 39 f817 true CLaw 20 itOf1 [(S "script", .lstK (l.map .int)), (S "pen", .hnd 7)]) (fun y => M.bind (still fun st => itOf y st) fun it => forM (fun y ρ => storeM f817.sc CLaw (S "turn") y ρ) (blkM (GG lo K) FF 39 f817 true CLaw 19 turnB) it turns 0 [(S "script", .lstK (l.map .int)), (S "pen", .hnd 7)]) _ = _
    unfold M.bind
    rw [show expM' (GG lo K) FF 39 f817 true CLaw 20 itOf1 [(S "script", .lstK (l.map .int)), (S "pen", .hnd 7)] _ = _ from la8 19 _ _]
    dsimp only
    unfold still
    dsimp only
    rw [la9]
    show forM (fun y ρ => storeM f817.sc CLaw (S "turn") y ρ) (blkM (GG lo K) FF 39 f817 true CLaw 19 turnB) (.rng 0 2 1) (4997 + 1 + 1 + 1) 0 [(S "script", .lstK (l.map .int)), (S "pen", .hnd 7)] _ = _
    rw [for_go (y := .int 0) rfl (la10 _ _ _) e1, for_go (y := .int 1) rfl (la11 _ _ _ _ _ _) e2, for_end rfl]
  rw [blk_cons h1, blk_cons h2]
  exact blk_ret (la12 _ _ _)
theorem law_run {l : List Int} (hl : l.length ≤ 63) : ∃ st', fnM f817 (bodyM (GG lo K) (callF (GG lo K) FF 39) f817 true) [.lstK (l.map .int)] [.tab q0s, .tab q1s] = some (.ok (.bool true), st') ∧ st'[0]? = some (.tab q0s) ∧ st'[1]? = some (.tab q1s) := by
  obtain ⟨b', ρ', e, h0, h1⟩ := law_blk (lo := lo) (K := K) hl
  refine ⟨b', ?_, h0, h1⟩
  unfold fnM
  rw [if_pos (show f817.names.length ≤ [V.lstK (l.map V.int)].length + f817.dfl.length ∧ [V.lstK (l.map V.int)].length ≤ f817.names.length by rw [show f817.names.length = 1 by kernel_rfl, show f817.dfl.length = 0 by kernel_rfl]; exact ⟨Nat.le_refl _, Nat.le_refl _⟩)]
  dsimp only
  rw [la13, show (f817.dfl.drop ([V.lstK (l.map V.int)].length + f817.dfl.length - f817.names.length)) = [] by kernel_rfl, List.append_nil, la14, la15]
  show fnOut (blkM (GG lo K) FF 39 f817 true CLaw deep f817.body [(S "script", .lstK (l.map .int))] b0L) = _
  rw [e]; rfl
end
theorem cw_pc0149_02_holds : PySem.Challenge.rw_pc0149_02.Holds := join_ fun aL oL l hl => by
  obtain ⟨st', e, h0, h1⟩ := law_run (lo := lo0) (K := K1 aL oL) hl
  refine ⟨st', e, fun i q hi => ?_⟩
  have hlen : tabL.length = 2 := by kernel_rfl
  have := (List.getElem?_eq_some_iff.mp hi).1
  rcases (show i = 0 ∨ i = 1 by lia) with rfl | rfl
  · exact ⟨_, h0⟩
  · exact ⟨_, h1⟩
end Mine
end
theorem PySem.Challenge.cw_pc0149_02_holds : PySem.Challenge.rw_pc0149_02.Holds :=
  Mine.cw_pc0149_02_holds
