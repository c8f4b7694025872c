import PyProof.Rows.All
import Wide.All
import OpenK.AllK
import Wide.FinOn
import Lean
import PySem.Challenge.RW_xm0756_01
set_option Elab.async false
set_option maxRecDepth 100000
set_option maxHeartbeats 0
set_option linter.unusedVariables false
set_option linter.all false
set_option compiler.extract_closed false
set_option genInjectivity false
set_option genSizeOf false
set_option bootstrap.genMatcherCode false
section
open PySem PySem.W PySem.Calls PyProof.Rows PyProof.V PySem.Spec
namespace Nv
inductive PV where
  | none
  | bool (b : Bool)
  | int (i : Int)
  | str (x : Str)
  | bytes (b : List UInt8)
  | tup (l : List PV)
  | loc (n : Nat)
  | rng (a b : Int)
  | raw (v : Value)
inductive AO where
  | list (l : List PV)
  | ba (b : List UInt8)
  | inst (C : Addr) (d : Nat)
  | dict (fs : List (Str × PV))
  | cell (v : Option PV)
  | ns (m : List (Str × PV))
  | clo (body : Expr) (scope : Scope) (qual : Str) (caps : List (Str × Nat))
  | tab (es : List (Nat × Nat × Str))
  | fix (o : Obj)
noncomputable abbrev Led := List (Addr × Obj)
noncomputable abbrev tupOf (vs : List Value) (n : Nat) : Obj := { cls := .type "tuple", data := .seq vs.toArray n }
noncomputable abbrev rngOf (a b : Int) (t u v : Tok) : Obj := { cls := .type "range", dict := none, data := .fields #[.int a t, .int b u, .int 1 v], slots := #[] }
noncomputable abbrev baOf (b : List UInt8) : Obj := { cls := .type "bytearray", data := .bytearray b.toArray 0 }
mutual
inductive VR (T : Led) (μ : List Addr) : Value → PV → Prop
  | none : VR T μ .none .none
  | bool (b : Bool) : VR T μ (.bool b) (.bool b)
  | int (i : Int) (t : Tok) : VR T μ (.int i t) (.int i)
  | str (x : Str) (t : Tok) : VR T μ (.str x t) (.str x)
  | bytes (b : List UInt8) (t : Tok) : VR T μ (.bytes b.toArray t) (.bytes b)
  | tup {a : Addr} {vs : List Value} {n : Nat} {l : List PV} : (a, tupOf vs n) ∈ T → VRs T μ vs l → VR T μ (.ref a) (.tup l)
  | loc {a : Addr} {n : Nat} : μ[n]? = some a → VR T μ (.ref a) (.loc n)
  | rng {r : Addr} {a b : Int} {t u v : Tok} : (r, rngOf a b t u v) ∈ T → VR T μ (.ref r) (.rng a b)
  | raw (v : Value) : VR T μ v (.raw v)
inductive VRs (T : Led) (μ : List Addr) : List Value → List PV → Prop
  | nil : VRs T μ [] []
  | cons {v : Value} {pv : PV} {vs : List Value} {l : List PV} : VR T μ v pv → VRs T μ vs l → VRs T μ (v :: vs) (pv :: l)
end
noncomputable def VRi (T : Led) (μ : List Addr) (v : Value) : PV → Prop
  | .none => v = .none
  | .bool b => v = .bool b
  | .int i => ∃ t, v = .int i t
  | .str x => ∃ t, v = .str x t
  | .bytes b => ∃ t, v = .bytes b.toArray t
  | .tup l => ∃ a vs n, v = .ref a ∧ (a, tupOf vs n) ∈ T ∧ VRs T μ vs l
  | .loc n => ∃ a, v = .ref a ∧ μ[n]? = some a
  | .rng a b => ∃ r t u w, v = .ref r ∧ (r, rngOf a b t u w) ∈ T
  | .raw u => v = u
theorem VR.inv {T : Led} {μ : List Addr} {v : Value} {pv : PV} (h : VR T μ v pv) : VRi T μ v pv :=
  VR.casesOn (motive_1 := fun v pv _ => VRi T μ v pv) h rfl (fun _ => rfl) (fun _ t => ⟨t, rfl⟩) (fun _ t => ⟨t, rfl⟩) (fun _ t => ⟨t, rfl⟩) (fun a b => ⟨_, _, _, rfl, a, b⟩) (fun a => ⟨_, rfl, a⟩) (fun a => ⟨_, _, _, _, rfl, a⟩) (fun _ => rfl)
noncomputable def VRsi (T : Led) (μ : List Addr) (vs : List Value) : List PV → Prop
  | [] => vs = []
  | pv :: l => ∃ v r, vs = v :: r ∧ VR T μ v pv ∧ VRs T μ r l
theorem VRs.inv {T : Led} {μ : List Addr} {vs : List Value} {l : List PV} (h : VRs T μ vs l) : VRsi T μ vs l :=
  VRs.casesOn (motive_2 := fun vs l _ => VRsi T μ vs l) h rfl fun a b => ⟨_, _, rfl, a, b⟩
structure Gr (T : Led) (μ : List Addr) (T' : Led) (μ' : List Addr) : Prop where
  t : ∀ p ∈ T, p ∈ T'
  m : μ <+: μ'
theorem Gr.refl (T : Led) (μ : List Addr) : Gr T μ T μ := ⟨fun _ h => h, List.prefix_refl _⟩
theorem Gr.trans {T μ T' μ' T'' μ''} (a : Gr T μ T' μ') (b : Gr T' μ' T'' μ'') : Gr T μ T'' μ'' := ⟨fun p h => b.t p (a.t p h), a.m.trans b.m⟩
theorem Gr.get {T μ T' μ'} (a : Gr T μ T' μ') {n : Nat} {x : Addr} (h : μ[n]? = some x) : μ'[n]? = some x := by
  obtain ⟨r, rfl⟩ := a.m
  rw [List.getElem?_append_left (List.getElem?_eq_some_iff.mp h).1]; exact h
theorem VR.map {T : Led} {μ : List Addr} {T' : Led} {μ' : List Addr} (ht : ∀ a vs n, (a, tupOf vs n) ∈ T → (a, tupOf vs n) ∈ T') (hr : ∀ r a b t u v, (r, rngOf a b t u v) ∈ T → (r, rngOf a b t u v) ∈ T') (hm : ∀ (n : Nat) a, μ[n]? = some a → μ'[n]? = some a) {v : Value} {pv : PV} (h : VR T μ v pv) : VR T' μ' v pv :=
  VR.rec (motive_1 := fun v pv _ => VR T' μ' v pv) (motive_2 := fun vs l _ => VRs T' μ' vs l) .none (fun b => .bool b) (fun i t => .int i t) (fun x t => .str x t) (fun b t => .bytes b t) (fun h _ r => .tup (ht _ _ _ h) r) (fun h => .loc (hm _ _ h)) (fun h => .rng (hr _ _ _ _ _ _ h)) (fun v => .raw v) .nil (fun _ _ a b => .cons a b) h
theorem VRs.ind {T : Led} {μ : List Addr} {P : List Value → List PV → Prop} (h0 : P [] []) (h1 : ∀ {v : Value} {pv : PV} {vs : List Value} {l : List PV}, VR T μ v pv → VRs T μ vs l → P vs l → P (v :: vs) (pv :: l)) {vs : List Value} {l : List PV} (h : VRs T μ vs l) : P vs l :=
  VRs.rec (motive_1 := fun _ _ _ => True) (motive_2 := fun vs l _ => P vs l) trivial (fun _ => trivial) (fun _ _ => trivial) (fun _ _ => trivial) (fun _ _ => trivial) (fun _ _ _ => trivial) (fun _ => trivial) (fun _ => trivial) (fun _ => trivial) h0 (fun r rs _ ih => h1 r rs ih) h
theorem VR.mono {T μ T' μ'} (g : Gr T μ T' μ') {v : Value} {pv : PV} (h : VR T μ v pv) : VR T' μ' v pv := h.map (fun _ _ _ => g.t _) (fun _ _ _ _ _ _ => g.t _) fun _ _ => g.get
theorem VRs.mono {T μ T' μ'} (g : Gr T μ T' μ') {vs : List Value} {l : List PV} (h : VRs T μ vs l) : VRs T' μ' vs l := h.ind .nil fun r _ ih => .cons (r.mono g) ih
theorem VRs.length {T μ} {vs : List Value} {l : List PV} (h : VRs T μ vs l) : vs.length = l.length := h.ind (P := fun vs l => vs.length = l.length) rfl fun _ _ ih => congrArg (· + 1) ih
theorem VRs.append {T μ} {vs : List Value} {l : List PV} {us : List Value} {k : List PV} (h : VRs T μ vs l) (h' : VRs T μ us k) : VRs T μ (vs ++ us) (l ++ k) := h.ind (P := fun vs l => VRs T μ (vs ++ us) (l ++ k)) h' fun r _ ih => .cons r ih
theorem VRs.get {T μ} {vs : List Value} {l : List PV} (h : VRs T μ vs l) : ∀ {k : Nat} {pv : PV}, l[k]? = some pv → ∃ v, vs[k]? = some v ∧ VR T μ v pv :=
  h.ind (P := fun vs l => ∀ {k : Nat} {pv : PV}, l[k]? = some pv → ∃ v, vs[k]? = some v ∧ VR T μ v pv) (fun e => by cases e) fun {v pv vs l} r _ ih k pv' e => by
    cases k with
    | zero => cases e; exact ⟨v, rfl, r⟩
    | succ k => exact ih (k := k) e
theorem VRs.get' {T μ} {vs : List Value} {l : List PV} (h : VRs T μ vs l) : ∀ {k : Nat} {v : Value}, vs[k]? = some v → ∃ pv, l[k]? = some pv ∧ VR T μ v pv :=
  h.ind (P := fun vs l => ∀ {k : Nat} {v : Value}, vs[k]? = some v → ∃ pv, l[k]? = some pv ∧ VR T μ v pv) (fun e => by cases e) fun {v pv vs l} r _ ih k v' e => by
    cases k with
    | zero => cases e; exact ⟨pv, rfl, r⟩
    | succ k => exact ih (k := k) e
theorem VRs.take {T μ} {vs : List Value} {l : List PV} (h : VRs T μ vs l) : ∀ k, VRs T μ (vs.take k) (l.take k) :=
  h.ind (P := fun vs l => ∀ k, VRs T μ (vs.take k) (l.take k)) (fun k => by cases k <;> exact .nil) fun r _ ih k => by
    cases k with
    | zero => exact .nil
    | succ k => exact .cons r (ih k)
theorem VRs.drop {T μ} {vs : List Value} {l : List PV} (h : VRs T μ vs l) : ∀ k, VRs T μ (vs.drop k) (l.drop k) :=
  h.ind (P := fun vs l => ∀ k, VRs T μ (vs.drop k) (l.drop k)) (fun k => by cases k <;> exact .nil) fun r rs ih k => by
    cases k with
    | zero => exact .cons r rs
    | succ k => exact ih k
theorem VRs.set {T μ} {vs : List Value} {l : List PV} (h : VRs T μ vs l) {v : Value} {pv : PV} (x : VR T μ v pv) : ∀ k, VRs T μ (vs.set k v) (l.set k pv) :=
  h.ind (P := fun vs l => ∀ k, VRs T μ (vs.set k v) (l.set k pv)) (fun k => .nil) fun r rs ih k => by
    cases k with
    | zero => exact .cons x rs
    | succ k => exact .cons r (ih k)
inductive VRo (T : Led) (μ : List Addr) : Option Value → Option PV → Prop
  | none : VRo T μ none none
  | some {v : Value} {pv : PV} : VR T μ v pv → VRo T μ (some v) (some pv)
theorem VRo.mono {T μ T' μ'} (g : Gr T μ T' μ') {v pv} (h : VRo T μ v pv) : VRo T' μ' v pv := by
  cases h with
  | none => exact .none
  | some h => exact .some (h.mono g)
noncomputable def VRoi (T : Led) (μ : List Addr) (v : Option Value) : Option PV → Prop
  | none => v = none
  | some pv => ∃ w, v = some w ∧ VR T μ w pv
theorem VRo.inv {T : Led} {μ : List Addr} {v : Option Value} {pv : Option PV} (h : VRo T μ v pv) : VRoi T μ v pv := VRo.casesOn (motive := fun v pv _ => VRoi T μ v pv) h rfl fun a => ⟨_, rfl, a⟩
noncomputable def NR (T : Led) (μ : List Addr) (mr : Str → Option Value) (m : List (Str × PV)) : Prop := ∀ x pv, m.lookup x = some pv → ∃ v, mr x = some v ∧ VR T μ v pv
theorem NR.mono {T μ T' μ'} (g : Gr T μ T' μ') {mr m} (h : NR T μ mr m) : NR T' μ' mr m := fun x pv e => let ⟨v, a, b⟩ := h x pv e; ⟨v, a, b.mono g⟩
inductive DR (T : Led) (μ : List Addr) : List DictEntry → List (Str × PV) → Prop
  | nil : DR T μ [] []
  | cons {h : Int} {x : Str} {t : Tok} {v : Value} {pv : PV} {es : List DictEntry} {fs : List (Str × PV)} : VR T μ v pv → DR T μ es fs → DR T μ (⟨h, .str x t, v⟩ :: es) ((x, pv) :: fs)
theorem DR.mono {T μ T' μ'} (g : Gr T μ T' μ') {es fs} (h : DR T μ es fs) : DR T' μ' es fs := by
  induction h with
  | nil => exact .nil
  | cons h _ ih => exact .cons (h.mono g) ih
inductive CR (μ : List Addr) : List (Str × Addr) → List (Str × Nat) → Prop
  | nil : CR μ [] []
  | cons {x : Str} {a : Addr} {n : Nat} {cs ks} : μ[n]? = some a → CR μ cs ks → CR μ ((x, a) :: cs) ((x, n) :: ks)
theorem CR.mono {T μ T' μ'} (g : Gr T μ T' μ') {cs ks} (h : CR μ cs ks) : CR μ' cs ks := by
  induction h with
  | nil => exact .nil
  | cons h _ ih => exact .cons (g.get h) ih
noncomputable def hasQual (o : Obj) : Bool := match o.data with
  | .fields vs => (match (vs[1]? : Option Value) with
    | some (.str _ _) => true
    | _ => false)
  | _ => false
noncomputable def volatile (o : Obj) : Bool := !hasQual o && (o.cls == .type "list_iterator" || o.cls == .type "range_iterator" || o.cls == .type "tuple_iterator" || o.cls == .type "list" || (match o.data with
  | .dict .. => true
  | _ => false))
theorem not_volatile {o : Obj} {vs : Array Value} {x : Str} {t : Tok} (hd : o.data = .fields vs) (h : vs[1]? = some (.str x t)) : volatile o = false := by
  unfold volatile hasQual
  rw [hd]; simp [h]
theorem volatile_ns {o : Obj} {mr : Str → Option Value} (h : LCg.NsObj o mr) : volatile o = true := by
  obtain ⟨es, ep, hd, _⟩ := h
  unfold volatile hasQual
  rw [hd]; simp
inductive TabR (T : Led) : List (Nat × Nat × Str) → List Value → Prop
  | nil : TabR T [] []
  | cons {es : List (Nat × Nat × Str)} {l : List Value} {line col : Nat} {qual : Str} {c : Addr} {oc : Obj} : (c, oc) ∈ T → volatile oc = false → (∀ h : Heap, h.get? c = some oc → h.CodeRec (.ref c) qual) → TabR T es l →
      TabR T ((line, col, qual) :: es) (rawInt line :: rawInt col :: .ref c :: l)
theorem TabR.imp {T T' : Led} (g : ∀ p ∈ T, volatile p.2 = false → p ∈ T') {es l} (h : TabR T es l) : TabR T' es l := by
  induction h with
  | nil => exact .nil
  | cons h1 h2 h3 _ ih => exact .cons (g _ h1 h2) h2 h3 ih
theorem TabR.append {T : Led} {es l es' l'} (h : TabR T es l) (h' : TabR T es' l') : TabR T (es ++ es') (l ++ l') := by
  induction h with
  | nil => exact h'
  | cons h1 h2 h3 _ ih => exact .cons h1 h2 h3 ih
noncomputable def tabLook (es : List (Nat × Nat × Str)) (pos : Pos) : Option Str := (es.find? fun e => e.1 == pos.line && e.2.1 == pos.col).map (·.2.2)
theorem TabR.look {T : Led} (pos : Pos) {es l} (h : TabR T es l) : TriplesOk l ∧ (tabLook es pos = none → codeAmong pos l = none) ∧
    ∀ qual, tabLook es pos = some qual → ∃ c oc, codeAmong pos l = some (.ref c) ∧ (c, oc) ∈ T ∧ volatile oc = false ∧ ∀ h : Heap, h.get? c = some oc → h.CodeRec (.ref c) qual := by
  induction h with
  | nil => exact ⟨trivial, fun _ => rfl, fun q h => by cases h⟩
  | @cons es l line col q0 c oc h1 h2 h3 r ih =>
    obtain ⟨i1, i2, i3⟩ := ih
    have e : codeAmong pos (rawInt line :: rawInt col :: .ref c :: l) = if ((line : Int) == (pos.line : Int) && (col : Int) == (pos.col : Int)) = true then some (.ref c) else codeAmong pos l := rfl
    have hb : ((line : Int) == (pos.line : Int) && (col : Int) == (pos.col : Int)) = (line == pos.line && col == pos.col) := by
      rw [Bool.eq_iff_iff]
      simp only [Bool.and_eq_true, beq_iff_eq]
      omega
    refine ⟨i1, fun h => ?_, fun q h => ?_⟩
    · unfold tabLook at h
      rw [List.find?_cons] at h
      rw [e, hb]
      cases hc : (line == pos.line && col == pos.col) with
      | true => simp [hc] at h
      | false =>
        simp only [hc] at h
        exact i2 h
    · unfold tabLook at h
      rw [List.find?_cons] at h
      rw [e, hb]
      cases hc : (line == pos.line && col == pos.col) with
      | true =>
        simp only [hc, Option.map_some, Option.some.injEq] at h
        subst h
        exact ⟨c, oc, rfl, h1, h2, h3⟩
      | false =>
        simp only [hc] at h
        exact i3 q h
inductive OR (T : Led) (μ : List Addr) : Obj → AO → Prop
  | list {vs : List Value} {n : Nat} {l : List PV} : VRs T μ vs l → OR T μ (listOf vs.toArray n) (.list l)
  | ba (b : List UInt8) : OR T μ (baOf b) (.ba b)
  | inst {C dx : Addr} {d : Nat} : μ[d]? = some dx → OR T μ (instObj C dx) (.inst C d)
  | dict {es : List DictEntry} {n : Nat} {fs : List (Str × PV)} : DR T μ es fs → OR T μ (dictOf es n) (.dict fs)
  | cell {o : Obj} {v : Option Value} {pv : Option PV} : o.data = .cell v → VRo T μ v pv → OR T μ o (.cell pv)
  | ns {o : Obj} {mr : Str → Option Value} {m : List (Str × PV)} : LCg.NsObj o mr → NR T μ mr m → OR T μ o (.ns m)
  | clo {o : Obj} {body : Expr} {scope : Scope} {qual : Str} {caps : List (Str × Nat)} {fd : FuncData} {cs : List (Str × Addr)} {c : Addr} {oc : Obj} :
      o.data = .func fd → fd.body = .expr body → fd.scope = scope → fd.qualname = qual → fd.closure = cs → CR μ cs caps → fd.globals = mainGlobals → fd.builtins = builtinsNs → (fd.params = ⟨[], [], none, [], [], none, []⟩ ∧ fd.defaults = .none ∧ fd.kwdefaults = .none) →
      fd.code = .ref c → (c, oc) ∈ T → volatile oc = false → (∀ h : Heap, h.get? c = some oc → h.CodeRec (.ref c) qual) → OR T μ o (.clo body scope qual caps)
  | tab {ps : Array Value} {es : List (Nat × Nat × Str)} : TabR T es ps.toList → OR T μ (tabObj ps) (.tab es)
  | fix (o : Obj) : OR T μ o (.fix o)
noncomputable def ORi (T : Led) (μ : List Addr) (o : Obj) : AO → Prop
  | .list l => ∃ vs n, o = listOf (List.toArray vs) n ∧ VRs T μ vs l
  | .ba b => o = baOf b
  | .inst C d => ∃ dx, o = instObj C dx ∧ μ[d]? = some dx
  | .dict fs => ∃ es n, o = dictOf es n ∧ DR T μ es fs
  | .cell pv => ∃ v, o.data = .cell v ∧ VRo T μ v pv
  | .tab es => ∃ ps : Array Value, o = tabObj ps ∧ TabR T es ps.toList
  | _ => True
theorem OR.inv {T : Led} {μ : List Addr} {o : Obj} {ao : AO} (h : OR T μ o ao) : ORi T μ o ao :=
  OR.casesOn (motive := fun o ao _ => ORi T μ o ao) h (fun a => ⟨_, _, rfl, a⟩) (fun _ => rfl) (fun a => ⟨_, rfl, a⟩) (fun a => ⟨_, _, rfl, a⟩) (fun a b => ⟨_, a, b⟩) (fun _ _ => trivial) (fun _ _ _ _ _ _ _ _ _ _ _ _ _ => trivial) (fun a => ⟨_, rfl, a⟩) (fun _ => trivial)
theorem OR.mono {T μ T' μ'} (g : Gr T μ T' μ') {o ao} (h : OR T μ o ao) : OR T' μ' o ao := by
  cases h with
  | list h => exact .list (h.mono g)
  | ba b => exact .ba b
  | inst h => exact .inst (g.get h)
  | dict h => exact .dict (h.mono g)
  | cell h k => exact .cell h (k.mono g)
  | ns h k => exact .ns h (k.mono g)
  | clo h1 h2 h3 h4 h5 h6 h7 h8 h9 h10 h11 h12 h13 => exact .clo h1 h2 h3 h4 h5 (h6.mono g) h7 h8 h9 h10 (g.t _ h11) h12 h13
  | tab h => exact .tab (h.imp fun p hp _ => g.t p hp)
  | fix o => exact .fix o
structure Cx where
  prog : Program
  w : World
  K : Frag
  p : Program
  loose : List Str
  mean : ExcName → Option Value
  mg : Str → Option Value
  mb : Str → Option Value
  A₀ : Around
  A : Around
  base : Heap
  outer : List Env
  g : Heap
  L : Addr
  fenv : Env
  env : Env
  ce : List (Str × Nat)
  ns : Option (List (Str × PV))
  s₀ : Shared
  xc : Addr
structure Cx.Ok (c : Cx) : Prop where
  below : Below c.A₀ c.base c.outer c.g
  kin : c.K.In c.g
  top : Top c.p c.loose c.mean c.mg c.mb c.g
  hA : c.A.frames = some (c.fenv :: c.outer)
  hf : c.fenv.frame = some c.L
  hk : c.fenv.scope.kind = .function
  hh : c.A.handled = none
  glob : c.env.globals = mainGlobals
  bl : c.env.builtins = builtinsNs
  ek : c.env.scope.kind = .function
  kinB : c.K.In c.base
  topB : Top c.p c.loose c.mean c.mg c.mb c.base
noncomputable abbrev μs (R : Led) : List Addr := R.map (·.1)
noncomputable def NsOk0 (c : Cx) (T : Led) (μ : List Addr) : Prop := match c.ns with
  | none => c.env.locals = c.L
  | some mc => ∃ o mr, (c.env.locals, o) ∈ T ∧ volatile o = true ∧ LCg.NsObj o mr ∧ NR T μ mr mc
noncomputable def tabFix : List (Nat × Addr) := [(0, 391), (1, 396), (2, 401)]
noncomputable def NsOk (c : Cx) (T : Led) (μ : List Addr) : Prop := (∀ p ∈ tabFix, μ[p.1]? = some p.2) ∧ NsOk0 c T μ
theorem NsOk.mono {c T μ T' μ'} (g : Gr T μ T' μ') (h : NsOk c T μ) : NsOk c T' μ' := by
  refine ⟨fun p hp => g.get (h.1 p hp), ?_⟩
  have h := h.2
  unfold NsOk0 at h ⊢
  split at h
  · exact h
  · obtain ⟨o, mr, a, b, d, e⟩ := h
    exact ⟨o, mr, g.t _ a, b, d, e.mono g⟩
theorem NsOk.atL {c T μ} (h : NsOk c T μ) (hn : c.ns = none) : c.env.locals = c.L := by
  have h := h.2
  unfold NsOk0 at h; rw [hn] at h; exact h
theorem NsOk.of_none {c T μ T'} (h : NsOk c T μ) (hn : c.ns = none) : NsOk c T' μ := by
  refine ⟨h.1, ?_⟩
  have h := h.2
  unfold NsOk0 at h ⊢; rw [hn] at h ⊢; exact h
structure St (c : Cx) (T R : Led) (σ : List AO) (m : List (Str × PV)) (s : Shared) : Prop where
  ok : c.Ok
  fr : ∃ mr, Fr c.g c.L s.heap mr ∧ NR T (μs R) mr m
  news : News c.g c.L s.heap (T ++ R)
  nd : ((T ++ R).map (·.1)).Nodup
  len : R.length = σ.length
  objs : ∀ (n : Nat) (p : Addr × Obj) (ao : AO), R[n]? = some p → σ[n]? = some ao → OR T (μs R) p.2 ao
  sh : s = { c.s₀ with heap := s.heap, toks := s.toks }
  cel : ∀ x n, c.ce.lookup x = some n → ∃ a, c.env.cells.lookup x = some a ∧ (μs R)[n]? = some a
  nso : NsOk c T (μs R)
theorem St.tok {c T R σ m s} (h : St c T R σ m s) (t : Nat) : St c T R σ m { s with toks := t } :=
  ⟨h.ok, h.fr, h.news, h.nd, h.len, h.objs, by rw [h.sh], h.cel, h.nso⟩
theorem St.obj {c T R σ m s} (h : St c T R σ m s) {n : Nat} {ao : AO} (e : σ[n]? = some ao) : ∃ a o, R[n]? = some (a, o) ∧ s.heap.get? a = some o ∧ OR T (μs R) o ao := by
  have hn : n < R.length := by rw [h.len]; exact (List.getElem?_eq_some_iff.mp e).1
  have e' : R[n]? = some R[n] := List.getElem?_eq_getElem hn
  refine ⟨R[n].1, R[n].2, e', ?_, h.objs n _ ao e' e⟩
  exact (h.news R[n] (List.mem_append_right _ (List.getElem_mem hn))).1
theorem μs_get {R : Led} {n : Nat} {a : Addr} : (μs R)[n]? = some a ↔ ∃ o, R[n]? = some (a, o) := by
  unfold μs
  rw [List.getElem?_map]
  constructor
  · intro h
    obtain ⟨⟨a', o⟩, h1, h2⟩ := Option.map_eq_some_iff.mp h
    exact ⟨o, by rw [h1, ← h2]⟩
  · rintro ⟨o, h⟩; rw [h]; rfl
theorem St.at {c T R σ m s} (h : St c T R σ m s) {n : Nat} {ao : AO} {a : Addr} (e : σ[n]? = some ao) (ha : (μs R)[n]? = some a) : ∃ o, R[n]? = some (a, o) ∧ s.heap.get? a = some o ∧ OR T (μs R) o ao := by
  obtain ⟨a', o, h1, h2, h3⟩ := h.obj e
  obtain ⟨o', h4⟩ := μs_get.mp ha
  rw [h1] at h4; cases h4
  exact ⟨o, h1, h2, h3⟩
theorem St.tupGet {c T R σ m s} (h : St c T R σ m s) {a : Addr} {o : Obj} (e : (a, o) ∈ T) : s.heap.get? a = some o := (h.news _ (List.mem_append_left _ e)).1
theorem St.grow {c T R σ m s} (h : St c T R σ m s) {h' : Heap} {tk : Nat} (hk : ∀ b o, s.heap.get? b = some o → h'.get? b = some o) : St c T R σ m { s with heap := h', toks := tk } := by
  obtain ⟨mr, F, n⟩ := h.fr
  refine ⟨h.ok, ⟨mr, F.keeps hk, n⟩, fun p hp => ⟨hk _ _ (h.news p hp).1, (h.news p hp).2⟩, h.nd, h.len, h.objs, ?_, h.cel, h.nso⟩
  show ({ s with heap := h', toks := tk } : Shared) = _
  rw [h.sh]
theorem notIn_of_fresh {g h : Heap} {L a : Addr} {N : Led} (n : News g L h N) (ha : h.get? a = none) : a ∉ N.map (·.1) := fun hm => by
  obtain ⟨p, hp, rfl⟩ := List.mem_map.mp hm
  rw [(n p hp).1] at ha; cases ha
theorem none_of_size (h : Heap) : h.get? h.objs.size = none := by
  cases e : h.get? h.objs.size with
  | none => rfl
  | some o => exact absurd (Heap.lt_size e) (Nat.lt_irrefl _)
theorem St.freshL {c T R σ m s} (h : St c T R σ m s) {a : Addr} (hn : s.heap.get? a = none) : a ∉ (T ++ R).map (·.1) ∧ a ≠ c.L ∧ c.g.get? a = none := by
  obtain ⟨mr, F, n⟩ := h.fr
  refine ⟨notIn_of_fresh h.news hn, fun e => ?_, ?_⟩
  · obtain ⟨oL, _, _, hL, _⟩ := F.ns
    rw [e] at hn; rw [hL] at hn; cases hn
  · cases e : c.g.get? a with
    | none => rfl
    | some o' => have := F.keep a o' e; rw [hn] at this; cases this
theorem St.addT' {c T R σ m s} (h : St c T R σ m s) {h' : Heap} {tk : Nat} {a : Addr} {o : Obj} (hk : ∀ b o, b ≠ a → s.heap.get? b = some o → h'.get? b = some o) (hn : a ∉ (T ++ R).map (·.1) ∧ a ≠ c.L ∧ c.g.get? a = none) (ho : h'.get? a = some o) :
    St c ((a, o) :: T) R σ m { s with heap := h', toks := tk } := by
  obtain ⟨mr, F, n⟩ := h.fr
  obtain ⟨hn1, hL, hg⟩ := hn
  have g : Gr T (μs R) ((a, o) :: T) (μs R) := ⟨fun p hp => List.mem_cons_of_mem _ hp, List.prefix_refl _⟩
  have hne : ∀ p ∈ T ++ R, p.1 ≠ a := fun p hp e => hn1 (e ▸ List.mem_map_of_mem (f := (·.1)) hp)
  refine ⟨h.ok, ⟨mr, ⟨F.ns.at' fun o' e => hk _ _ (Ne.symm hL) e, fun b ob e => hk b ob (fun z => by rw [z, hg] at e; cases e) (F.keep b ob e), F.above⟩, n.mono g⟩, fun p hp => ?_, ?_, h.len, fun n p ao e1 e2 => (h.objs n p ao e1 e2).mono g, ?_, h.cel, h.nso.mono g⟩
  · rcases List.mem_cons.mp hp with rfl | hp
    · exact ⟨ho, hL, hg⟩
    · exact ⟨hk _ _ (hne p hp) (h.news p hp).1, (h.news p hp).2⟩
  · rw [List.cons_append, List.map_cons, List.nodup_cons]
    exact ⟨hn1, h.nd⟩
  · show ({ s with heap := h', toks := tk } : Shared) = _
    rw [h.sh]
theorem VR.drop {T : Led} {μ : List Addr} {I : Addr} (hI : ∀ o, (I, o) ∈ T → volatile o = true) {v : Value} {pv : PV} (h : VR T μ v pv) : VR (T.filter (·.1 ≠ I)) μ v pv :=
  have key : ∀ a o, volatile o = false → (a, o) ∈ T → (a, o) ∈ T.filter (·.1 ≠ I) := fun a o ho hm => List.mem_filter.mpr ⟨hm, decide_eq_true fun e => by
    subst e
    rw [hI _ hm] at ho
    cases ho⟩
  h.map (fun a vs n => key _ _ (by simp [volatile])) (fun r a b t u v => key _ _ (by simp [volatile])) fun _ _ e => e
theorem VRs.drop' {T : Led} {μ : List Addr} {I : Addr} (hI : ∀ o, (I, o) ∈ T → volatile o = true) {vs : List Value} {l : List PV} (h : VRs T μ vs l) : VRs (T.filter (·.1 ≠ I)) μ vs l := h.ind .nil fun r _ ih => .cons (r.drop hI) ih
theorem DR.drop {T : Led} {μ : List Addr} {I : Addr} (hI : ∀ o, (I, o) ∈ T → volatile o = true) {es fs} (h : DR T μ es fs) : DR (T.filter (·.1 ≠ I)) μ es fs := by
  induction h with
  | nil => exact .nil
  | cons h _ ih => exact .cons (h.drop hI) ih
theorem OR.drop {T : Led} {μ : List Addr} {I : Addr} {oI : Obj} (hm : (I, oI) ∈ T) (hv : volatile oI = true) (hnd : (T.map (·.1)).Nodup) {o ao} (h : OR T μ o ao) : OR (T.filter (·.1 ≠ I)) μ o ao := by
  have uniq : ∀ o', (I, o') ∈ T → o' = oI := fun o' h' => by
    have : ∀ {l : Led}, (l.map (·.1)).Nodup → (I, o') ∈ l → (I, oI) ∈ l → o' = oI := by
      intro l
      induction l with
      | nil => intro _ h; cases h
      | cons p r ih =>
        intro hn h1 h2
        rw [List.map_cons, List.nodup_cons] at hn
        rcases List.mem_cons.mp h1 with e1 | h1 <;> rcases List.mem_cons.mp h2 with e2 | h2
        · rw [← e2] at e1; exact (Prod.mk.inj e1).2
        · exact absurd (List.mem_map_of_mem (f := (·.1)) h2) (by rw [← e1] at hn; exact hn.1)
        · exact absurd (List.mem_map_of_mem (f := (·.1)) h1) (by rw [← e2] at hn; exact hn.1)
        · exact ih hn.2 h1 h2
    exact this hnd h' hm
  have hI : ∀ o, (I, o) ∈ T → volatile o = true := fun o h' => by rw [uniq _ h']; exact hv
  cases h with
  | list h => exact .list (h.drop' hI)
  | ba b => exact .ba b
  | inst h => exact .inst h
  | dict h => exact .dict (h.drop hI)
  | cell h k => exact .cell h (by cases k with | none => exact .none | some k => exact .some (k.drop hI))
  | ns h k => exact .ns h (fun x pv e => let ⟨v, a, b⟩ := k x pv e; ⟨v, a, b.drop hI⟩)
  | fix o => exact .fix o
  | tab h => exact .tab (h.imp fun p hp hv' => List.mem_filter.mpr ⟨hp, by
      have : p.1 ≠ I := fun e => by
        have := hI p.2 (e ▸ hp)
        rw [hv'] at this; cases this
      simpa using this⟩)
  | clo h1 h2 h3 h4 h5 h6 h7 h8 h9 h10 h11 h12 h13 =>
    refine .clo h1 h2 h3 h4 h5 h6 h7 h8 h9 h10 (List.mem_filter.mpr ⟨h11, ?_⟩) h12 h13
    rename_i c oc
    have : c ≠ I := fun e => by
      have := uniq _ (e ▸ h11)
      rw [this, hv] at h12; cases h12
    simpa using this
theorem St.drop {c T R σ m s} (h : St c T R σ m s) {I : Addr} {oI : Obj} (hns : c.ns = none) (hm : (I, oI) ∈ T) (hv : volatile oI = true) : St c (T.filter (·.1 ≠ I)) R σ m s ∧ (I ∉ ((T.filter (·.1 ≠ I)) ++ R).map (·.1) ∧ I ≠ c.L ∧ c.g.get? I = none) ∧ s.heap.get? I = some oI := by
  obtain ⟨mr, F, n⟩ := h.fr
  have hnd := h.nd
  rw [List.map_append, List.nodup_append] at hnd
  have hI : ∀ o, (I, o) ∈ T → volatile o = true := fun o h' => by
    have e1 := h.tupGet h'
    have e2 := h.tupGet hm
    rw [e1] at e2
    rw [Option.some.inj e2]; exact hv
  refine ⟨⟨h.ok, ⟨mr, F, fun x pv e => let ⟨v, a, b⟩ := n x pv e; ⟨v, a, b.drop hI⟩⟩, fun p hp => ?_, ?_, h.len, fun n p ao e1 e2 => (h.objs n p ao e1 e2).drop hm hv hnd.1, h.sh, h.cel, h.nso.of_none hns⟩, ⟨fun hx => ?_, (h.news _ (List.mem_append_left _ hm)).2⟩, h.tupGet hm⟩
  · rcases List.mem_append.mp hp with hp | hp
    · exact h.news p (List.mem_append_left _ (List.mem_filter.mp hp).1)
    · exact h.news p (List.mem_append_right _ hp)
  · rw [List.map_append, List.nodup_append]
    refine ⟨hnd.1.sublist (List.filter_sublist.map _), hnd.2.1, fun a ha b hb => ?_⟩
    obtain ⟨p, hp, rfl⟩ := List.mem_map.mp ha
    exact hnd.2.2 p.1 (List.mem_map_of_mem (List.mem_filter.mp hp).1) b hb
  · rw [List.map_append] at hx
    rcases List.mem_append.mp hx with hx | hx
    · obtain ⟨p, hp, e⟩ := List.mem_map.mp hx
      have := (List.mem_filter.mp hp).2
      rw [e] at this; simp at this
    · exact hnd.2.2 I (List.mem_map_of_mem (f := (·.1)) hm) I hx rfl
theorem St.addT {c T R σ m s} (h : St c T R σ m s) {h' : Heap} {tk : Nat} {a : Addr} {o : Obj} (hk : ∀ b o, s.heap.get? b = some o → h'.get? b = some o) (hn : s.heap.get? a = none) (ho : h'.get? a = some o) :
    St c ((a, o) :: T) R σ m { s with heap := h', toks := tk } := by
  obtain ⟨mr, F, n⟩ := h.fr
  have g : Gr T (μs R) ((a, o) :: T) (μs R) := ⟨fun p hp => List.mem_cons_of_mem _ hp, List.prefix_refl _⟩
  have hL : a ≠ c.L := fun e => by
    obtain ⟨oL, _, _, hL, _⟩ := F.ns
    rw [e] at hn; rw [hL] at hn; cases hn
  have hg : c.g.get? a = none := by
    cases e : c.g.get? a with
    | none => rfl
    | some o' => have := F.keep a o' e; rw [hn] at this; cases this
  refine ⟨h.ok, ⟨mr, F.keeps hk, n.mono g⟩, fun p hp => ?_, ?_, h.len, fun n p ao e1 e2 => (h.objs n p ao e1 e2).mono g, ?_, h.cel, h.nso.mono g⟩
  · rcases List.mem_cons.mp hp with rfl | hp
    · exact ⟨ho, hL, hg⟩
    · exact ⟨hk _ _ (h.news p hp).1, (h.news p hp).2⟩
  · rw [List.cons_append, List.map_cons, List.nodup_cons]
    exact ⟨notIn_of_fresh h.news hn, h.nd⟩
  · show ({ s with heap := h', toks := tk } : Shared) = _
    rw [h.sh]
theorem St.addR {c T R σ m s} (h : St c T R σ m s) {h' : Heap} {tk : Nat} {a : Addr} {o : Obj} {ao : AO} (hk : ∀ b o, s.heap.get? b = some o → h'.get? b = some o) (hn : s.heap.get? a = none) (ho : h'.get? a = some o)
    (hr : OR T (μs (R ++ [(a, o)])) o ao) : St c T (R ++ [(a, o)]) (σ ++ [ao]) m { s with heap := h', toks := tk } ∧ Gr T (μs R) T (μs (R ++ [(a, o)])) ∧ (μs (R ++ [(a, o)]))[σ.length]? = some a := by
  obtain ⟨mr, F, n⟩ := h.fr
  have g : Gr T (μs R) T (μs (R ++ [(a, o)])) := ⟨fun p hp => hp, by unfold μs; rw [List.map_append]; exact List.prefix_append _ _⟩
  have hL : a ≠ c.L := fun e => by
    obtain ⟨oL, _, _, hL, _⟩ := F.ns
    rw [e] at hn; rw [hL] at hn; cases hn
  have hg : c.g.get? a = none := by
    cases e : c.g.get? a with
    | none => rfl
    | some o' => have := F.keep a o' e; rw [hn] at this; cases this
  refine ⟨⟨h.ok, ⟨mr, F.keeps hk, n.mono g⟩, fun p hp => ?_, ?_, ?_, fun n p ao' e1 e2 => ?_, ?_, fun x n e => ?_, ?_⟩, g, ?_⟩
  · rw [← List.append_assoc] at hp
    rcases List.mem_append.mp hp with hp | hp
    · exact ⟨hk _ _ (h.news p hp).1, (h.news p hp).2⟩
    · rw [List.mem_singleton.mp hp]; exact ⟨ho, hL, hg⟩
  · rw [← List.append_assoc, List.map_append, List.nodup_append]
    refine ⟨h.nd, by simp, fun x hx y hy => ?_⟩
    simp only [List.map_cons, List.map_nil, List.mem_singleton] at hy
    subst hy
    exact fun e => notIn_of_fresh h.news hn (e ▸ hx)
  · rw [List.length_append, List.length_append, h.len]; rfl
  · by_cases hlt : n < R.length
    · rw [List.getElem?_append_left hlt] at e1
      rw [List.getElem?_append_left (by rw [← h.len]; exact hlt)] at e2
      exact (h.objs n p ao' e1 e2).mono g
    · have hge := Nat.le_of_not_lt hlt
      rw [List.getElem?_append_right hge] at e1
      rw [List.getElem?_append_right (by rw [← h.len]; exact hge)] at e2
      have hz : n - R.length = 0 := by
        have := (List.getElem?_eq_some_iff.mp e1).1
        simp at this; omega
      rw [hz] at e1
      rw [← h.len, hz] at e2
      simp only [List.getElem?_cons_zero, Option.some.injEq] at e1 e2
      subst e1 e2
      exact hr
  · show ({ s with heap := h', toks := tk } : Shared) = _
    rw [h.sh]
  · obtain ⟨a', h1, h2⟩ := h.cel x n e
    exact ⟨a', h1, g.get h2⟩
  · exact h.nso.mono g
  · unfold μs
    rw [List.map_append, List.getElem?_append_right (by rw [List.length_map, h.len]; exact Nat.le_refl _), List.length_map, h.len, Nat.sub_self]; rfl
theorem St.addR' {c T R σ m s} (h : St c T R σ m s) {a : Addr} {o : Obj} {ao : AO} (hn : a ∉ (T ++ R).map (·.1) ∧ a ≠ c.L ∧ c.g.get? a = none) (ho : s.heap.get? a = some o)
    (hr : OR T (μs (R ++ [(a, o)])) o ao) : St c T (R ++ [(a, o)]) (σ ++ [ao]) m s ∧ Gr T (μs R) T (μs (R ++ [(a, o)])) ∧ (μs (R ++ [(a, o)]))[σ.length]? = some a := by
  obtain ⟨mr, F, n⟩ := h.fr
  obtain ⟨hn1, hL, hg⟩ := hn
  have g : Gr T (μs R) T (μs (R ++ [(a, o)])) := ⟨fun p hp => hp, by unfold μs; rw [List.map_append]; exact List.prefix_append _ _⟩
  refine ⟨⟨h.ok, ⟨mr, F, n.mono g⟩, fun p hp => ?_, ?_, ?_, fun n p ao' e1 e2 => ?_, h.sh, fun x n e => ?_, ?_⟩, g, ?_⟩
  · rw [← List.append_assoc] at hp
    rcases List.mem_append.mp hp with hp | hp
    · exact h.news p hp
    · rw [List.mem_singleton.mp hp]; exact ⟨ho, hL, hg⟩
  · rw [← List.append_assoc, List.map_append, List.nodup_append]
    refine ⟨h.nd, by simp, fun x hx y hy => ?_⟩
    simp only [List.map_cons, List.map_nil, List.mem_singleton] at hy
    subst hy
    exact fun e => hn1 (e ▸ hx)
  · rw [List.length_append, List.length_append, h.len]; rfl
  · by_cases hlt : n < R.length
    · rw [List.getElem?_append_left hlt] at e1
      rw [List.getElem?_append_left (by rw [← h.len]; exact hlt)] at e2
      exact (h.objs n p ao' e1 e2).mono g
    · have hge := Nat.le_of_not_lt hlt
      rw [List.getElem?_append_right hge] at e1
      rw [List.getElem?_append_right (by rw [← h.len]; exact hge)] at e2
      have hz : n - R.length = 0 := by
        have := (List.getElem?_eq_some_iff.mp e1).1
        simp at this; omega
      rw [hz] at e1
      rw [← h.len, hz] at e2
      simp only [List.getElem?_cons_zero, Option.some.injEq] at e1 e2
      subst e1 e2
      exact hr
  · obtain ⟨a', h1, h2⟩ := h.cel x n e
    exact ⟨a', h1, g.get h2⟩
  · exact h.nso.mono g
  · unfold μs
    rw [List.map_append, List.getElem?_append_right (by rw [List.length_map, h.len]; exact Nat.le_refl _), List.length_map, h.len, Nat.sub_self]; rfl
theorem St.setR {c T R σ m s} (h : St c T R σ m s) {h' : Heap} {tk : Nat} {n : Nat} {a : Addr} {o o' : Obj} {ao : AO} (e : R[n]? = some (a, o)) (hs : Heap.SameBut a s.heap h') (ho : h'.get? a = some o') (hr : OR T (μs R) o' ao) :
    St c T (R.set n (a, o')) (σ.set n ao) m { s with heap := h', toks := tk } ∧ μs (R.set n (a, o')) = μs R := by
  obtain ⟨mr, F, nr⟩ := h.fr
  have hμ : μs (R.set n (a, o')) = μs R := by
    unfold μs
    rw [List.map_set]
    apply List.ext_getElem?
    intro i
    rw [List.getElem?_set]
    split
    · rename_i hi; subst hi
      split
      · rw [List.getElem?_map, e]; rfl
      · rename_i hlt
        rw [List.getElem?_eq_none (Nat.le_of_not_lt hlt)]
    · rfl
  have hmem : (a, o) ∈ R := List.mem_of_getElem? e
  have hold := h.news (a, o) (List.mem_append_right _ hmem)
  have hlt : n < R.length := (List.getElem?_eq_some_iff.mp e).1
  have hnd2 : ∀ i p, R[i]? = some p → p.1 = a → i = n := fun i p hi hp => by
    have hR : (R.map (·.1)).Nodup := by
      have := h.nd; rw [List.map_append, List.nodup_append] at this; exact this.2.1
    have h1 : (R.map (·.1))[i]? = some a := by rw [List.getElem?_map, hi]; simp [hp]
    have h2 : (R.map (·.1))[n]? = some a := by rw [List.getElem?_map, e]; rfl
    have hi' : i < (R.map (·.1)).length := (List.getElem?_eq_some_iff.mp h1).1
    exact (List.getElem?_inj hi' hR).mp (h1.trans h2.symm)
  have hneT : ∀ p ∈ T, p.1 ≠ a := fun p hp e' => by
    have := h.nd; rw [List.map_append, List.nodup_append] at this
    exact this.2.2 p.1 (List.mem_map_of_mem hp) a (List.mem_map_of_mem (f := (·.1)) hmem) e'
  refine ⟨⟨h.ok, ⟨mr, ⟨F.ns.sameBut hs (Ne.symm hold.2.1), fun b ob q => (hs.2 b fun z => ?_).trans (F.keep b ob q), F.above⟩, hμ ▸ nr⟩, fun p hp => ?_, ?_, ?_, fun i p ao' e1 e2 => ?_, ?_, ?_, ?_⟩, hμ⟩
  · rw [z, hold.2.2] at q; cases q
  · rcases List.mem_append.mp hp with hp | hp
    · have := h.news p (List.mem_append_left _ hp)
      exact ⟨(hs.2 p.1 (hneT p hp)).trans this.1, this.2⟩
    · obtain ⟨i, hi⟩ := List.getElem?_of_mem hp
      rw [List.getElem?_set] at hi
      split at hi
      · cases hi; exact ⟨ho, hold.2⟩
      · rename_i hin
        have hp' : p ∈ R := List.mem_of_getElem? hi
        have := h.news p (List.mem_append_right _ hp')
        exact ⟨(hs.2 p.1 fun z => hin (hnd2 i p hi z).symm).trans this.1, this.2⟩
  · rw [List.map_append]
    have := h.nd
    rw [List.map_append] at this
    show (T.map (·.1) ++ μs (R.set n (a, o'))).Nodup
    rw [hμ]; exact this
  · rw [List.length_set, List.length_set, h.len]
  · rw [hμ]
    rw [List.getElem?_set] at e1 e2
    split at e1
    · rename_i hin
      rw [if_pos hin] at e2
      cases e1
      split at e2
      · cases e2; exact hr
      · cases e2
    · rename_i hin
      rw [if_neg hin] at e2
      exact h.objs i p ao' e1 e2
  · show ({ s with heap := h', toks := tk } : Shared) = _
    rw [h.sh]
  · intro x k hx; rw [hμ]; exact h.cel x k hx
  · rw [hμ]; exact h.nso
structure StA (c : Cx) (T R : Led) (σ : List AO) : Prop where
  ok : c.Ok
  nd : ((T ++ R).map (·.1)).Nodup
  len : R.length = σ.length
  objs : ∀ (n : Nat) (p : Addr × Obj) (ao : AO), R[n]? = some p → σ[n]? = some ao → OR T (μs R) p.2 ao
  cel : ∀ x n, c.ce.lookup x = some n → ∃ a, c.env.cells.lookup x = some a ∧ (μs R)[n]? = some a
  nso : NsOk c T (μs R)
theorem St.a {c T R σ m s} (h : St c T R σ m s) : StA c T R σ := ⟨h.ok, h.nd, h.len, h.objs, h.cel, h.nso⟩
noncomputable def ExcNew (h h' : Heap) (e : Addr) (cls : Value) : Prop :=
  (∀ b o, h.get? b = some o → h'.get? b = some o) ∧ h.get? e = none ∧ ∃ ob tp, h'.get? e = some ob ∧ ob.cls = cls ∧ ob.data = .fields #[tp, .none, .none, .none, .bool false, .none]
noncomputable def RaisedW (base G : Heap) (l : List Env) (e : Addr) (cls : Value) (news : Led) (h : Heap) : Prop :=
  ∃ B a0, base.StaysIn B ∧ (∀ b o, G.get? b = some o → b ∉ l.filterMap (·.frame) → B.get? b = some o) ∧ (∀ q ∈ news, B.get? q.1 = some q.2 ∧ base.get? q.1 = none ∧ G.get? q.1 = none) ∧ Heap.FlyingW B l e cls a0 h
inductive ExcS (c : Cx) (m : List (Str × PV)) (T₀ : Led) (μ₀ : List Addr) (σ : List AO) (v : Value) (s' : Shared) : Prop
  | mk (e : Addr) (T R : Led) (mr : Str → Option Value) (h : Heap) (he : v = .ref e) (g : Gr T₀ μ₀ T (μs R)) (n : NR T (μs R) mr m) (F : Fr c.g c.L h mr) (S : StA c T R σ) (hs : s' = { c.s₀ with heap := s'.heap, toks := s'.toks })
    (hc : (News c.g c.L h (T ++ R) ∧ ExcNew h s'.heap e (.ref c.xc)) ∨ (h.UpToSlots s'.heap ∧ RaisedW c.base h (c.fenv :: c.outer) e (.ref c.xc) (T ++ R) s'.heap)) : ExcS c m T₀ μ₀ σ v s'
theorem ExcS.mono {c m T₀ μ₀ T₁ μ₁ σ v s'} (g : Gr T₀ μ₀ T₁ μ₁) (h : ExcS c m T₁ μ₁ σ v s') : ExcS c m T₀ μ₀ σ v s' := by
  obtain ⟨e, T, R, mr, hh, a, b, r1, r2, r3, r4, r5⟩ := h
  exact ⟨e, T, R, mr, hh, a, g.trans b, r1, r2, r3, r4, r5⟩
noncomputable def Run (c : Cx) (T R : Led) (σ : List AO) (m : List (Str × PV)) (s : Shared) (t : Sem Value) (K : PV → List AO → Prop) (X : List AO → Prop) : Prop :=
  ∀ (Q E : Value → Shared → Prop), (∀ v pv T' R' σ' s', Gr T (μs R) T' (μs R') → St c T' R' σ' m s' → VR T' (μs R') v pv → K pv σ' → Q v s') →
    (∀ e s' σ', ExcS c m T (μs R) σ' e s' → X σ' → E e s') → wpAny (model c.prog c.w) c.A t Q E s
noncomputable def RunB (c : Cx) (T R : Led) (σ : List AO) (m : List (Str × PV)) (s : Shared) (t : Sem Bool) (K : Bool → List AO → Prop) (X : List AO → Prop) : Prop :=
  ∀ (Q : Bool → Shared → Prop) (E : Value → Shared → Prop), (∀ b T' R' σ' s', Gr T (μs R) T' (μs R') → St c T' R' σ' m s' → K b σ' → Q b s') →
    (∀ e s' σ', ExcS c m T (μs R) σ' e s' → X σ' → E e s') → wpAny (model c.prog c.w) c.A t Q E s
noncomputable def RunL (c : Cx) (T R : Led) (σ : List AO) (m : List (Str × PV)) (s : Shared) (t : Sem (List Value)) (K : List PV → List AO → Prop) (X : List AO → Prop) : Prop :=
  ∀ (Q : List Value → Shared → Prop) (E : Value → Shared → Prop), (∀ vs l T' R' σ' s', Gr T (μs R) T' (μs R') → St c T' R' σ' m s' → VRs T' (μs R') vs l → K l σ' → Q vs s') →
    (∀ e s' σ', ExcS c m T (μs R) σ' e s' → X σ' → E e s') → wpAny (model c.prog c.w) c.A t Q E s
noncomputable def WE (c : Cx) (e : Expr) (σ : List AO) (m : List (Str × PV)) (K : PV → List AO → Prop) (X : List AO → Prop) : Prop :=
  ∀ T R s, St c T R σ m s → Run c T R σ m s (eval e c.env) K X
noncomputable def WB (c : Cx) (e : Expr) (σ : List AO) (m : List (Str × PV)) (K : Bool → List AO → Prop) (X : List AO → Prop) : Prop :=
  ∀ T R s, St c T R σ m s → RunB c T R σ m s (isTrue e c.env (eval e c.env)) K X
noncomputable def WL (c : Cx) (pos : Pos) (es : List Expr) (σ : List AO) (m : List (Str × PV)) (K : List PV → List AO → Prop) (X : List AO → Prop) : Prop :=
  ∀ T R s, St c T R σ m s → RunL c T R σ m s (spliced (backTo pos (starEach es c.env))) K X
noncomputable def WO1 (c : Cx) (t : Value → Sem Value) (a : PV) (σ : List AO) (m : List (Str × PV)) (K : PV → List AO → Prop) (X : List AO → Prop) : Prop :=
  ∀ T R s v, St c T R σ m s → VR T (μs R) v a → Run c T R σ m s (t v) K X
noncomputable def WO2 (c : Cx) (t : Value → Value → Sem Value) (a b : PV) (σ : List AO) (m : List (Str × PV)) (K : PV → List AO → Prop) (X : List AO → Prop) : Prop :=
  ∀ T R s v u, St c T R σ m s → VR T (μs R) v a → VR T (μs R) u b → Run c T R σ m s (t v u) K X
noncomputable def WT (c : Cx) (a : PV) (σ : List AO) (m : List (Str × PV)) (K : Bool → List AO → Prop) (X : List AO → Prop) : Prop :=
  ∀ T R s v, St c T R σ m s → VR T (μs R) v a → RunB c T R σ m s (truthy v) K X
noncomputable def WC (c : Cx) (f : Value) (as : List PV) (σ : List AO) (m : List (Str × PV)) (K : PV → List AO → Prop) (X : List AO → Prop) : Prop :=
  ∀ T R s vs, St c T R σ m s → VRs T (μs R) vs as → Run c T R σ m s (call f vs) K X
theorem Run.here {c T R σ m s K X} (st : St c T R σ m s) {v : Value} {pv : PV} (hv : VR T (μs R) v pv) (k : K pv σ) : Run c T R σ m s (pure v) K X :=
  fun _ _ q _ => wpAny_pure (q v pv T R σ s (Gr.refl _ _) st hv k)
end Nv
end
section
open PySem PySem.W PySem.Calls PyProof.Rows PyProof.V PySem.Spec
namespace Nv
noncomputable def sel (v : Bool) (p q : Prop) : Prop := match v with
  | true => p
  | false => q
noncomputable abbrev jBR (c : Cx) (t : Value → Value → Sem Value) (a : PV) (m : List (Str × PV)) (K : PV → List AO → Prop) (X : List AO → Prop) (b : PV) (σ : List AO) : Prop := WO2 c t a b σ m K X
noncomputable abbrev jBL (c : Cx) (t : Value → Value → Sem Value) (r : Expr) (m : List (Str × PV)) (K : PV → List AO → Prop) (X : List AO → Prop) (a : PV) (σ : List AO) : Prop := WE c r σ m (jBR c t a m K X) X
noncomputable abbrev jT (c : Cx) (m : List (Str × PV)) (KB : Bool → List AO → Prop) (X : List AO → Prop) (v : PV) (σ : List AO) : Prop := WT c v σ m KB X
noncomputable abbrev jU (c : Cx) (t : Value → Sem Value) (m : List (Str × PV)) (K : PV → List AO → Prop) (X : List AO → Prop) (a : PV) (σ : List AO) : Prop := WO1 c t a σ m K X
noncomputable abbrev jNot (KB : Bool → List AO → Prop) (b : Bool) (σ : List AO) : Prop := KB (!b) σ
noncomputable abbrev jAnd (c : Cx) (rest : List Expr) (pos : Pos) (m : List (Str × PV)) (KB : Bool → List AO → Prop) (X : List AO → Prop) (b : Bool) (σ : List AO) : Prop := sel b (WB c (.BoolOp .And rest pos) σ m KB X) (KB false σ)
noncomputable abbrev jOr (c : Cx) (rest : List Expr) (pos : Pos) (m : List (Str × PV)) (KB : Bool → List AO → Prop) (X : List AO → Prop) (b : Bool) (σ : List AO) : Prop := sel b (KB true σ) (WB c (.BoolOp .Or rest pos) σ m KB X)
noncomputable abbrev jIfE (c : Cx) (a b : Expr) (m : List (Str × PV)) (K : PV → List AO → Prop) (X : List AO → Prop) (v : Bool) (σ : List AO) : Prop := sel v (WE c a σ m K X) (WE c b σ m K X)
noncomputable abbrev jAn1 (c : Cx) (y : Expr) (rest : List Expr) (pos : Pos) (m : List (Str × PV)) (K : PV → List AO → Prop) (X : List AO → Prop) (v : PV) (b : Bool) (σ : List AO) : Prop := sel b (WE c (.BoolOp .And (y :: rest) pos) σ m K X) (K v σ)
noncomputable abbrev jAn2 (c : Cx) (y : Expr) (rest : List Expr) (pos : Pos) (m : List (Str × PV)) (K : PV → List AO → Prop) (X : List AO → Prop) (v : PV) (σ : List AO) : Prop := WT c v σ m (jAn1 c y rest pos m K X v) X
noncomputable abbrev jOr1 (c : Cx) (y : Expr) (rest : List Expr) (pos : Pos) (m : List (Str × PV)) (K : PV → List AO → Prop) (X : List AO → Prop) (v : PV) (b : Bool) (σ : List AO) : Prop := sel b (K v σ) (WE c (.BoolOp .Or (y :: rest) pos) σ m K X)
noncomputable abbrev jOr2 (c : Cx) (y : Expr) (rest : List Expr) (pos : Pos) (m : List (Str × PV)) (K : PV → List AO → Prop) (X : List AO → Prop) (v : PV) (σ : List AO) : Prop := WT c v σ m (jOr1 c y rest pos m K X v) X
section
variable {c : Cx} {σ : List AO} {m : List (Str × PV)} {K : PV → List AO → Prop} {KB : Bool → List AO → Prop} {KL : List PV → List AO → Prop} {X : List AO → Prop}
theorem WE_int {i : Int} {k pos} (h : K (.int i) σ) : WE c (.Constant (.int i) k pos) σ m K X :=
  fun T R s st Q E q _ => wpAny_Constant_int (q _ _ T R σ _ (Gr.refl _ _) (st.tok _) (.int i _) h)
theorem WE_bool {b : Bool} {k pos} (h : K (.bool b) σ) : WE c (.Constant (.bool b) k pos) σ m K X :=
  fun T R s st Q E q _ => Constant_bool (q _ _ T R σ _ (Gr.refl _ _) st (.bool b) h)
theorem WE_none {k pos} (h : K .none σ) : WE c (.Constant .none k pos) σ m K X :=
  fun T R s st Q E q _ => Constant_none (q _ _ T R σ _ (Gr.refl _ _) st .none h)
theorem WE_str {x : Str} {k pos} (h : K (.str x) σ) : WE c (.Constant (.str x) k pos) σ m K X :=
  fun T R s st Q E q _ => Constant_str (q _ _ T R σ _ (Gr.refl _ _) (st.tok _) (.str x _) h)
theorem WE_bytes {x : List UInt8} {k pos} (h : K (.bytes x) σ) : WE c (.Constant (.bytes x) k pos) σ m K X :=
  fun T R s st Q E q _ => fun _ _ _ => (q _ _ T R σ _ (Gr.refl _ _) (st.tok _) (.bytes x _) h)
theorem WE_loc {x : Str} {pos : Pos} {pv : PV} (hn : c.ns = none) (hk : c.env.kindOf x = some .local) (hv : m.lookup x = some pv) (h : K pv σ) (hd : (x == ("__debug__" : Str)) = false := by decide) : WE c (.Name x pos) σ m K X := by
  intro T R s st Q E q _
  obtain ⟨mr, F, n⟩ := st.fr
  obtain ⟨v, hv', r⟩ := n x pv hv
  have hl : c.env.locals = c.L := st.nso.atL hn
  exact wpAny_Name (wpAny_loadName_local st.ok.ek hk (hl ▸ F.ns) hv' (q v pv T R σ s (Gr.refl _ _) st r h)) hd
theorem cellAt {T R s} (st : St c T R σ m s) {n : Nat} {pv : PV} {a : Addr} (e : σ[n]? = some (.cell (some pv))) (ha : (μs R)[n]? = some a) : ∃ v, s.heap.IsCell a (some v) ∧ VR T (μs R) v pv := by
  obtain ⟨o, h1, h2, h3⟩ := st.at e ha
  obtain ⟨_, hd, hr⟩ := h3.inv
  replace hr := hr.inv; obtain ⟨_, rfl, hr⟩ := hr
  exact ⟨_, ⟨o, h2, hd⟩, hr⟩
theorem WE_cell {x : Str} {pos : Pos} {n : Nat} {pv : PV} (hk : c.env.kindOf x = some .cell) (hc : c.ce.lookup x = some n) (hv : σ[n]? = some (.cell (some pv))) (h : K pv σ) (hd : (x == ("__debug__" : Str)) = false := by decide) : WE c (.Name x pos) σ m K X := by
  intro T R s st Q E q _
  obtain ⟨a, h1, h2⟩ := st.cel x n hc
  obtain ⟨v, hcell, r⟩ := cellAt st hv h2
  exact wpAny_Name (wpAny_loadName_cell st.ok.ek hk h1 hcell (q v pv T R σ s (Gr.refl _ _) st r h)) hd
theorem WE_free {x : Str} {pos : Pos} {n : Nat} {pv : PV} (hk : c.env.kindOf x = some .free) (hc : c.ce.lookup x = some n) (hv : σ[n]? = some (.cell (some pv))) (h : K pv σ) (hd : (x == ("__debug__" : Str)) = false := by decide) (hn : (x == ("__classdict__" : Str)) = false := by decide) : WE c (.Name x pos) σ m K X := by
  intro T R s st Q E q _
  obtain ⟨a, h1, h2⟩ := st.cel x n hc
  obtain ⟨v, hcell, r⟩ := cellAt st hv h2
  exact wpAny_Name (wpAny_loadName_free st.ok.ek hk h1 hcell (q v pv T R σ s (Gr.refl _ _) st r h) hn) hd
theorem WE_cns {x : Str} {pos : Pos} {mc : List (Str × PV)} {pv : PV} (hn : c.ns = some mc) (hk : c.env.kindOf x = some .local) (hv : mc.lookup x = some pv) (h : K pv σ) (hd : (x == ("__debug__" : Str)) = false := by decide) : WE c (.Name x pos) σ m K X := by
  intro T R s st Q E q _
  have ha := st.nso.2
  unfold NsOk0 at ha
  rw [hn] at ha
  obtain ⟨o, mr, h1, _, h2, h3⟩ := ha
  obtain ⟨v, hv', r⟩ := h3 x pv hv
  exact wpAny_Name (wpAny_loadName_local st.ok.ek hk (h2.ns (st.tupGet h1)) hv' (q v pv T R σ s (Gr.refl _ _) st r h)) hd
theorem global_ {T R s} (st : St c T R σ m s) {x : Str} {pos : Pos} {v : Value} {Q : Value → Shared → Prop} {E : Value → Shared → Prop} (hk : c.env.kindOf x = some .globalImplicit) (e : nsIn c.K mainGlobals x = some (some v)) (h : Q v s) (hd : (x == ("__debug__" : Str)) = false) :
    wpAny (model c.prog c.w) c.A (eval (.Name x pos) c.env) Q E s := by
  obtain ⟨mr, F, n⟩ := st.fr
  exact Name_function_global st.ok.ek hk (loadGlobal_global (by rw [st.ok.glob]; exact st.ok.top.g.keeps F.keep) (mg_of st.ok.kin st.ok.top.g e) h) hd
theorem WE_globI {x : Str} {pos : Pos} {i : Int} {t : Tok} (hk : c.env.kindOf x = some .globalImplicit) (e : nsIn c.K mainGlobals x = some (some (.int i t))) (h : K (.int i) σ) (hd : (x == ("__debug__" : Str)) = false := by decide) : WE c (.Name x pos) σ m K X :=
  fun T R s st Q E q _ => global_ st hk e (q _ _ T R σ s (Gr.refl _ _) st (.int i t) h) hd
theorem WE_glob {x : Str} {pos : Pos} {v : Value} (hk : c.env.kindOf x = some .globalImplicit) (e : nsIn c.K mainGlobals x = some (some v)) (h : K (.raw v) σ) (hd : (x == ("__debug__" : Str)) = false := by decide) : WE c (.Name x pos) σ m K X :=
  fun T R s st Q E q _ => global_ st hk e (q _ _ T R σ s (Gr.refl _ _) st (.raw v) h) hd
theorem WE_bltn {x : Str} {pos : Pos} {v : Value} (hk : c.env.kindOf x = some .globalImplicit) (e : nsIn c.K mainGlobals x = some none) (hv : bootBuiltins x = some v) (h : K (.raw v) σ) (hn : x ≠ "__name__" := by decide) (hd : (x == ("__debug__" : Str)) = false := by decide) : WE c (.Name x pos) σ m K X := by
  intro T R s st Q E q _
  obtain ⟨mr, F, n⟩ := st.fr
  exact Name_function_global st.ok.ek hk (loadGlobal_builtin (by rw [st.ok.glob]; exact st.ok.top.g.keeps F.keep) (mg_none_of st.ok.kin st.ok.top.g e) (by rw [st.ok.bl]; exact st.ok.top.b.keeps F.keep) ((st.ok.top.builtins x hn).trans hv) (q _ _ T R σ s (Gr.refl _ _) st (.raw v) h)) hd
theorem WE_bin {l r : Expr} {op pos} (h : WE c l σ m (jBL c (binaryOp op) r m K X) X) : WE c (.BinOp l op r pos) σ m K X := by
  intro T R s st Q E q e
  refine wpAny_BinOp (h T R s st _ _ (fun va a T1 R1 σ1 s1 g1 st1 ra h1 => ?_) e)
  refine h1 T1 R1 s1 st1 _ _ (fun vb b T2 R2 σ2 s2 g2 st2 rb h2 => ?_) (fun e' s' σ' hx hX => e e' s' σ' (hx.mono g1) hX)
  exact h2 T2 R2 s2 va vb st2 (ra.mono g2) rb Q E (fun v pv T' R' σ' s' g st' r k => q v pv T' R' σ' s' (g1.trans (g2.trans g)) st' r k) (fun e' s' σ' hx hX => e e' s' σ' (hx.mono (g1.trans g2)) hX)
theorem WE_un {x : Expr} {op pos} (h : WE c x σ m (jU c (unaryOp op) m K X) X) : WE c (.UnaryOp op x pos) σ m K X := by
  intro T R s st Q E q e
  refine UnaryOp_ (h T R s st _ _ (fun va a T1 R1 σ1 s1 g1 st1 ra h1 => ?_) e)
  exact h1 T1 R1 s1 va st1 ra Q E (fun v pv T' R' σ' s' g st' r k => q v pv T' R' σ' s' (g1.trans g) st' r k) (fun e' s' σ' hx hX => e e' s' σ' (hx.mono g1) hX)
theorem WE_cmp {l r : Expr} {op pos} (h : WE c l σ m (jBL c (compareOp op) r m K X) X) (hm : behindInMarks op r = false := by with_unfolding_all rfl) : WE c (.Compare l [op] [r] pos) σ m K X := by
  intro T R s st Q E q e
  refine wpAny_Compare1 (hm := hm) (h T R s st _ _ (fun va a T1 R1 σ1 s1 g1 st1 ra h1 => ?_) e)
  refine h1 T1 R1 s1 st1 _ _ (fun vb b T2 R2 σ2 s2 g2 st2 rb h2 => ?_) (fun e' s' σ' hx hX => e e' s' σ' (hx.mono g1) hX)
  exact h2 T2 R2 s2 va vb st2 (ra.mono g2) rb Q E (fun v pv T' R' σ' s' g st' r k => q v pv T' R' σ' s' (g1.trans (g2.trans g)) st' r k) (fun e' s' σ' hx hX => e e' s' σ' (hx.mono (g1.trans g2)) hX)
theorem WB_cmp {l r : Expr} {op pos} (h : WE c l σ m (jBL c (compareOp op) r m (jT c m KB X) X) X) (hm : behindInMarks op r = false := by with_unfolding_all rfl) : WB c (.Compare l [op] [r] pos) σ m KB X := by
  intro T R s st Q E q e
  refine wpAny_isTrue_Compare1 (hm := hm) (h T R s st _ _ (fun va a T1 R1 σ1 s1 g1 st1 ra h1 => ?_) e)
  refine h1 T1 R1 s1 st1 _ _ (fun vb b T2 R2 σ2 s2 g2 st2 rb h2 => ?_) (fun e' s' σ' hx hX => e e' s' σ' (hx.mono g1) hX)
  refine h2 T2 R2 s2 va vb st2 (ra.mono g2) rb _ _ (fun v pv T3 R3 σ3 s3 g3 st3 r3 h3 => ?_) (fun e' s' σ' hx hX => e e' s' σ' (hx.mono (g1.trans g2)) hX)
  exact h3 T3 R3 s3 v st3 r3 Q E (fun b T' R' σ' s' g st' k => q b T' R' σ' s' (g1.trans (g2.trans (g3.trans g))) st' k) (fun e' s' σ' hx hX => e e' s' σ' (hx.mono (g1.trans (g2.trans g3))) hX)
theorem WB_plain {e : Expr} (h : WE c e σ m (jT c m KB X) X) (he : ∀ env whole, isTrue e env whole = (do let v ← whole; standAt e.pos; holding [v] (truthy v)) := by intro _ _; rfl) : WB c e σ m KB X := by
  intro T R s st Q E q ex
  refine isTrue_plain (he := he _ _) (h T R s st _ _ (fun va a T1 R1 σ1 s1 g1 st1 ra h1 => ?_) ex)
  exact h1 T1 R1 s1 va st1 ra Q E (fun b T' R' σ' s' g st' k => q b T' R' σ' s' (g1.trans g) st' k) (fun e' s' σ' hx hX => ex e' s' σ' (hx.mono g1) hX)
theorem WB_not {x : Expr} {pos} (h : WB c x σ m (jNot KB) X) : WB c (.UnaryOp .Not x pos) σ m KB X :=
  fun T R s st Q E q ex => isTrue_not (h T R s st _ _ (fun b T' R' σ' s' g st' k => q _ T' R' σ' s' g st' k) ex)
theorem WB_and1 {x : Expr} {rest : List Expr} {pos} (h : WB c x σ m (jAnd c rest pos m KB X) X) : WB c (.BoolOp .And (x :: rest) pos) σ m KB X := by
  intro T R s st Q E q ex
  refine isTrue_and (h T R s st _ _ (fun b T1 R1 σ1 s1 g1 st1 k => ?_) ex)
  cases b with
  | false => exact q _ T1 R1 σ1 s1 g1 st1 k
  | true =>
    exact k T1 R1 s1 st1 Q E (fun b T' R' σ' s' g st' k => q b T' R' σ' s' (g1.trans g) st' k) (fun e' s' σ' hx hX => ex e' s' σ' (hx.mono g1) hX)
theorem WB_and0 {pos} (h : KB true σ) : WB c (.BoolOp .And [] pos) σ m KB X := fun T R s st Q E q ex => isTrue_and_nil (q _ T R σ s (Gr.refl _ _) st h)
theorem WB_or1 {x : Expr} {rest : List Expr} {pos} (h : WB c x σ m (jOr c rest pos m KB X) X) : WB c (.BoolOp .Or (x :: rest) pos) σ m KB X := by
  intro T R s st Q E q ex
  refine isTrue_or (h T R s st _ _ (fun b T1 R1 σ1 s1 g1 st1 k => ?_) ex)
  cases b with
  | true => exact q _ T1 R1 σ1 s1 g1 st1 k
  | false =>
    exact k T1 R1 s1 st1 Q E (fun b T' R' σ' s' g st' k => q b T' R' σ' s' (g1.trans g) st' k) (fun e' s' σ' hx hX => ex e' s' σ' (hx.mono g1) hX)
theorem WB_or0 {pos} (h : KB false σ) : WB c (.BoolOp .Or [] pos) σ m KB X := fun T R s st Q E q ex => isTrue_or_nil (q _ T R σ s (Gr.refl _ _) st h)
theorem WE_ife {t a b : Expr} {pos} (h : WB c t σ m (jIfE c a b m K X) X) : WE c (.IfExp t a b pos) σ m K X := by
  intro T R s st Q E q ex
  refine IfExp_ (h T R s st _ _ (fun v T1 R1 σ1 s1 g1 st1 k => ?_) ex)
  cases v <;> exact k T1 R1 s1 st1 Q E (fun b _ T' R' σ' s' g st' r k => q b _ T' R' σ' s' (g1.trans g) st' r k) (fun e' s' σ' hx hX => ex e' s' σ' (hx.mono g1) hX)
theorem WE_and1 {x : Expr} {pos} (h : WE c x σ m K X) : WE c (.BoolOp .And [x] pos) σ m K X := fun T R s st => h T R s st
theorem WE_or1 {x : Expr} {pos} (h : WE c x σ m K X) : WE c (.BoolOp .Or [x] pos) σ m K X := fun T R s st => h T R s st
theorem WE_and2 {x y : Expr} {rest : List Expr} {pos} (h : WE c x σ m (jAn2 c y rest pos m K X) X) : WE c (.BoolOp .And (x :: y :: rest) pos) σ m K X := by
  intro T R s st Q E q ex
  refine BoolOp_and (h T R s st _ _ (fun v pv T1 R1 σ1 s1 g1 st1 r1 h1 => ?_) ex)
  refine h1 T1 R1 s1 v st1 r1 _ _ (fun b T2 R2 σ2 s2 g2 st2 k => ?_) (fun e' s' σ' hx hX => ex e' s' σ' (hx.mono g1) hX)
  cases b with
  | false => exact q v pv T2 R2 σ2 s2 (g1.trans g2) st2 (r1.mono g2) k
  | true => exact k T2 R2 s2 st2 Q E (fun b _ T' R' σ' s' g st' r k => q b _ T' R' σ' s' (g1.trans (g2.trans g)) st' r k) (fun e' s' σ' hx hX => ex e' s' σ' (hx.mono (g1.trans g2)) hX)
theorem WE_or2 {x y : Expr} {rest : List Expr} {pos} (h : WE c x σ m (jOr2 c y rest pos m K X) X) : WE c (.BoolOp .Or (x :: y :: rest) pos) σ m K X := by
  intro T R s st Q E q ex
  refine BoolOp_or (h T R s st _ _ (fun v pv T1 R1 σ1 s1 g1 st1 r1 h1 => ?_) ex)
  refine h1 T1 R1 s1 v st1 r1 _ _ (fun b T2 R2 σ2 s2 g2 st2 k => ?_) (fun e' s' σ' hx hX => ex e' s' σ' (hx.mono g1) hX)
  cases b with
  | true => exact q v pv T2 R2 σ2 s2 (g1.trans g2) st2 (r1.mono g2) k
  | false => exact k T2 R2 s2 st2 Q E (fun b _ T' R' σ' s' g st' r k => q b _ T' R' σ' s' (g1.trans (g2.trans g)) st' r k) (fun e' s' σ' hx hX => ex e' s' σ' (hx.mono (g1.trans g2)) hX)
theorem WT_bool {b : Bool} (h : KB b σ) : WT c (.bool b) σ m KB X := by
  intro T R s v st hv Q E q ex
  (first | (replace hv := hv.inv; obtain rfl := hv) | (replace hv := hv.inv; obtain ⟨_, rfl⟩ := hv) | cases hv); exact wpAny_truthy_bool (q b T R σ s (Gr.refl _ _) st h)
theorem int2 {t : Value → Value → Sem Value} {a b r : Int} (f : ∀ (A : Around) (E : Value → Shared → Prop) (s : Shared) (tk u : Tok) (Q : Value → Shared → Prop), Q (.int r s.toks) { s with toks := s.toks + 1 } → wpAny (model c.prog c.w) A (t (.int a tk) (.int b u)) Q E s)
    (h : K (.int r) σ) : WO2 c t (.int a) (.int b) σ m K X := by
  intro T R s v u st hv hu Q E q ex; (first | (replace hv := hv.inv; obtain rfl := hv) | (replace hv := hv.inv; obtain ⟨_, rfl⟩ := hv) | cases hv); (first | (replace hu := hu.inv; obtain rfl := hu) | (replace hu := hu.inv; obtain ⟨_, rfl⟩ := hu) | cases hu)
  exact f _ _ _ _ _ _ (q _ _ T R σ _ (Gr.refl _ _) (st.tok _) (.int _ _) h)
theorem cmp2 {t : Value → Value → Sem Value} {a b : Int} {r : Bool} (f : ∀ (A : Around) (E : Value → Shared → Prop) (s : Shared) (tk u : Tok) (Q : Value → Shared → Prop), Q (.bool r) s → wpAny (model c.prog c.w) A (t (.int a tk) (.int b u)) Q E s)
    (h : K (.bool r) σ) : WO2 c t (.int a) (.int b) σ m K X := by
  intro T R s v u st hv hu Q E q ex; (first | (replace hv := hv.inv; obtain rfl := hv) | (replace hv := hv.inv; obtain ⟨_, rfl⟩ := hv) | cases hv); (first | (replace hu := hu.inv; obtain rfl := hu) | (replace hu := hu.inv; obtain ⟨_, rfl⟩ := hu) | cases hu)
  exact f _ _ _ _ _ _ (q _ _ T R σ _ (Gr.refl _ _) st (.bool _) h)
theorem WO_add {a b : Int} (h : K (.int (a + b)) σ) : WO2 c (binaryOp .Add) (.int a) (.int b) σ m K X := int2 (fun _ _ _ _ _ _ z => add_int z) h
theorem WO_sub {a b : Int} (h : K (.int (a - b)) σ) : WO2 c (binaryOp .Sub) (.int a) (.int b) σ m K X := int2 (fun _ _ _ _ _ _ z => sub_int z) h
theorem WO_mul {a b : Int} (hm : IntMulOk a b) (h : K (.int (a * b)) σ) : WO2 c (binaryOp .Mult) (.int a) (.int b) σ m K X := int2 (fun _ _ _ _ _ _ z => mul_int z (hm := hm)) h
theorem noPy {x y : Int} (h : y.natAbs < 2 ^ 64) : Builtin.divisionGoesByPylong x y = false :=
  PyProof.noPylong_of_log2 (by
    by_cases h0 : y.natAbs = 0
    · rw [h0]; decide
    · have := (Nat.log2_lt h0).mpr h; omega)
theorem WO_fdiv {a b : Int} (hb : b ≠ 0) (h2 : b.natAbs < 2 ^ 64) (h : K (.int (a.fdiv b)) σ) : WO2 c (binaryOp .FloorDiv) (.int a) (.int b) σ m K X := int2 (fun _ _ _ _ _ _ z => floordiv_int hb z (hp := .inl (noPy h2))) h
theorem WO_mod {a b : Int} (hb : b ≠ 0) (h : K (.int (a.fmod b)) σ) : WO2 c (binaryOp .Mod) (.int a) (.int b) σ m K X := int2 (fun _ _ _ _ _ _ z => mod_int hb z) h
theorem WO_and {a b : Int} (h : K (.int (Builtin.bitAnd a b)) σ) : WO2 c (binaryOp .BitAnd) (.int a) (.int b) σ m K X := int2 (fun _ _ _ _ _ _ z => and_int z) h
theorem WO_or {a b : Int} (h : K (.int (Builtin.bitOr a b)) σ) : WO2 c (binaryOp .BitOr) (.int a) (.int b) σ m K X := int2 (fun _ _ _ _ _ _ z => or_int z) h
theorem WO_shl {a b : Int} (h0 : 0 ≤ b) (h1 : b ≤ 1000) (h2 : a.natAbs < 2 ^ 64) (h : K (.int (a * 2 ^ b.toNat)) σ) : WO2 c (binaryOp .LShift) (.int a) (.int b) σ m K X := int2 (fun _ _ _ _ _ _ z => lshift_int_small h0 (by omega) h2 z) h
theorem WO_pow {a b : Int} (h0 : 0 ≤ b) (h1 : b ≤ 1000) (h2 : a.natAbs < 2 ^ 64) (h : K (.int (a ^ b.toNat)) σ) : WO2 c (binaryOp .Pow) (.int a) (.int b) σ m K X := int2 (fun _ _ _ _ _ _ z => pow_int_small h0 (by omega) h2 z) h
theorem WO_neg {a : Int} (h : K (.int (-a)) σ) : WO1 c (unaryOp .USub) (.int a) σ m K X := by
  intro T R s v st hv Q E q ex; (first | (replace hv := hv.inv; obtain rfl := hv) | (replace hv := hv.inv; obtain ⟨_, rfl⟩ := hv) | cases hv); exact neg_int (q _ _ T R σ _ (Gr.refl _ _) (st.tok _) (.int _ _) h)
theorem WO_not {b : Bool} (h : K (.bool (!b)) σ) : WO1 c (unaryOp .Not) (.bool b) σ m K X := by
  intro T R s v st hv Q E q ex; (first | (replace hv := hv.inv; obtain rfl := hv) | (replace hv := hv.inv; obtain ⟨_, rfl⟩ := hv) | cases hv); exact not_of (wpAny_truthy_bool (q _ _ T R σ _ (Gr.refl _ _) st (.bool _) h))
theorem WO_lt {a b : Int} (h : K (.bool (decide (a < b))) σ) : WO2 c (compareOp .Lt) (.int a) (.int b) σ m K X := cmp2 (fun _ _ _ _ _ _ z => lt_int z) h
theorem WO_gt {a b : Int} (h : K (.bool (decide (b < a))) σ) : WO2 c (compareOp .Gt) (.int a) (.int b) σ m K X := cmp2 (fun _ _ _ _ _ _ z => gt_int z) h
theorem WO_le {a b : Int} (h : K (.bool (decide (a ≤ b))) σ) : WO2 c (compareOp .LtE) (.int a) (.int b) σ m K X := cmp2 (fun _ _ _ _ _ _ z => le_int z) h
theorem WO_ge {a b : Int} (h : K (.bool (decide (b ≤ a))) σ) : WO2 c (compareOp .GtE) (.int a) (.int b) σ m K X := cmp2 (fun _ _ _ _ _ _ z => ge_int z) h
theorem WO_eqI {a b : Int} (h : K (.bool (a == b)) σ) : WO2 c (compareOp .Eq) (.int a) (.int b) σ m K X := cmp2 (fun _ _ _ _ _ _ z => eq_int z) h
theorem WO_neI {a b : Int} (h : K (.bool (a != b)) σ) : WO2 c (compareOp .NotEq) (.int a) (.int b) σ m K X := cmp2 (fun _ _ _ _ _ _ z => ne_int z) h
end
end Nv
end
section
open PySem PySem.W PySem.Calls PyProof.Rows PyProof.V PySem.Spec
namespace Nv
noncomputable abbrev Nm := List (Str × PV)
noncomputable def WN (c : Cx) (x : Str) (pv : PV) (σ : List AO) (m : Nm) (Kn : Nm → List AO → Prop) : Prop :=
  ∀ T R s v, St c T R σ m s → VR T (μs R) v pv → ∀ (Q : Unit → Shared → Prop) (E : Value → Shared → Prop), (∀ m' R' σ' s', Gr T (μs R) T (μs R') → St c T R' σ' m' s' → Kn m' σ' → Q () s') → wpAny (model c.prog c.w) c.A (storeName c.env x v) Q E s
noncomputable def WS (c : Cx) (ss : List Stmt) (σ : List AO) (m : Nm) (Kn : Nm → List AO → Prop) (Kr : PV → List AO → Prop) (X : List AO → Prop) : Prop :=
  ∀ T R s, St c T R σ m s → ∀ (Q : Flow → Shared → Prop) (E : Value → Shared → Prop), (∀ m' T' R' σ' s', Gr T (μs R) T' (μs R') → St c T' R' σ' m' s' → Kn m' σ' → Q .next s') →
    (∀ v pv m' T' R' σ' s', Gr T (μs R) T' (μs R') → St c T' R' σ' m' s' → VR T' (μs R') v pv → Kr pv σ' → Q (.ret v) s') →
    (∀ e m' s' σ', ExcS c m' T (μs R) σ' e s' → X σ' → E e s') → wpAny (model c.prog c.w) c.A (execs ss c.env) Q E s
noncomputable def WS1 (c : Cx) (st : Stmt) (σ : List AO) (m : Nm) (Kn : Nm → List AO → Prop) (Kr : PV → List AO → Prop) (X : List AO → Prop) : Prop :=
  ∀ T R s, St c T R σ m s → ∀ (Q : Flow → Shared → Prop) (E : Value → Shared → Prop), (∀ m' T' R' σ' s', Gr T (μs R) T' (μs R') → St c T' R' σ' m' s' → Kn m' σ' → Q .next s') →
    (∀ v pv m' T' R' σ' s', Gr T (μs R) T' (μs R') → St c T' R' σ' m' s' → VR T' (μs R') v pv → Kr pv σ' → Q (.ret v) s') →
    (∀ e m' s' σ', ExcS c m' T (μs R) σ' e s' → X σ' → E e s') → wpAny (model c.prog c.w) c.A (exec st c.env) Q E s
noncomputable def WA (c : Cx) (elts : List Expr) (l : List PV) (σ : List AO) (m : Nm) (Kn : Nm → List AO → Prop) : Prop :=
  ∀ T R s vs, St c T R σ m s → VRs T (μs R) vs l → ∀ (Q : Unit → Shared → Prop) (E : Value → Shared → Prop), (∀ m' R' σ' s', Gr T (μs R) T (μs R') → St c T R' σ' m' s' → Kn m' σ' → Q () s') → wpAny (model c.prog c.w) c.A (assignInOrder ((assignEach elts c.env).map (·.2)) vs) Q E s
noncomputable def WAn (c : Cx) (ns : List Str) (l : List PV) (σ : List AO) (m : Nm) (Kn : Nm → List AO → Prop) : Prop :=
  ∀ T R s vs, St c T R σ m s → VRs T (μs R) vs l → ∀ (Q : Unit → Shared → Prop) (E : Value → Shared → Prop), (∀ m' R' σ' s', Gr T (μs R) T (μs R') → St c T R' σ' m' s' → Kn m' σ' → Q () s') → wpAny (model c.prog c.w) c.A (assignInOrder (ns.map fun n => bindName c.env n) vs) Q E s
noncomputable def WM (c : Cx) (ov : PV) (name : Str) (σ : List AO) (m : Nm) (KM : Value → List PV → List AO → Prop) (X : List AO → Prop) : Prop :=
  ∀ T R s v (pl : Sem Bool), St c T R σ m s → VR T (μs R) v ov → ∀ (Q : Value × List Value → Shared → Prop) (E : Value → Shared → Prop), (∀ f first l T' R' σ' s', Gr T (μs R) T' (μs R') → St c T' R' σ' m s' → VRs T' (μs R') first l → KM f l σ' → Q (f, first) s') →
    (∀ e s' σ', ExcS c m T (μs R) σ' e s' → X σ' → E e s') → wpAny (model c.prog c.w) c.A (getMethod v name pl) Q E s
noncomputable abbrev jS (c : Cx) (rest : List Stmt) (Kn : Nm → List AO → Prop) (Kr : PV → List AO → Prop) (X : List AO → Prop) (m : List (Str × PV)) (σ : List AO) : Prop := WS c rest σ m Kn Kr X
noncomputable abbrev jN (c : Cx) (x : Str) (m : List (Str × PV)) (Kn : Nm → List AO → Prop) (pv : PV) (σ : List AO) : Prop := WN c x pv σ m Kn
noncomputable abbrev jAug (c : Cx) (t : Value → Value → Sem Value) (x : Str) (a : PV) (m : List (Str × PV)) (Kn : Nm → List AO → Prop) (X : List AO → Prop) (b : PV) (σ : List AO) : Prop := WO2 c t a b σ m (jN c x m Kn) X
noncomputable abbrev jIf (c : Cx) (a b : List Stmt) (m : List (Str × PV)) (Kn : Nm → List AO → Prop) (Kr : PV → List AO → Prop) (X : List AO → Prop) (v : Bool) (σ : List AO) : Prop := sel v (WS c a σ m Kn Kr X) (WS c b σ m Kn Kr X)
noncomputable abbrev jA (c : Cx) (rest : List Expr) (l : List PV) (Kn : Nm → List AO → Prop) (m : List (Str × PV)) (σ : List AO) : Prop := WA c rest l σ m Kn
noncomputable abbrev jAn (c : Cx) (rest : List Str) (l : List PV) (Kn : Nm → List AO → Prop) (m : List (Str × PV)) (σ : List AO) : Prop := WAn c rest l σ m Kn
noncomputable abbrev jTA (c : Cx) (elts : List Expr) (m : List (Str × PV)) (Kn : Nm → List AO → Prop) (pv : PV) (σ : List AO) : Prop := ∃ l, pv = .tup l ∧ l.length = elts.length ∧ WA c elts l σ m Kn
noncomputable abbrev jTS (c : Cx) (names : List Str) (m : List (Str × PV)) (Kn : Nm → List AO → Prop) (pv : PV) (σ : List AO) : Prop := ∃ l, pv = .tup l ∧ l.length = names.length ∧ WAn c names.reverse l.reverse σ m Kn
noncomputable abbrev jC1 (KL : List PV → List AO → Prop) (pv : PV) (l : List PV) (σ : List AO) : Prop := KL (pv :: l) σ
noncomputable abbrev jC (c : Cx) (pos : Pos) (rest : List Expr) (m : List (Str × PV)) (KL : List PV → List AO → Prop) (X : List AO → Prop) (pv : PV) (σ : List AO) : Prop := WL c pos rest σ m (jC1 KL pv) X
noncomputable abbrev jTu (K : PV → List AO → Prop) (l : List PV) (σ : List AO) : Prop := l.length ≤ 1000 ∧ K (.tup l) σ
noncomputable abbrev jLi (K : PV → List AO → Prop) (l : List PV) (σ : List AO) : Prop := l.length ≤ 1000 ∧ K (.loc σ.length) (σ ++ [.list l])
noncomputable abbrev jAt (c : Cx) (name : Str) (m : List (Str × PV)) (K : PV → List AO → Prop) (X : List AO → Prop) (ov : PV) (σ : List AO) : Prop := WO1 c (fun v => getAttr v name true) ov σ m K X
section
variable {c : Cx} {σ : List AO} {m : Nm} {K : PV → List AO → Prop} {Kn : Nm → List AO → Prop} {Kr : PV → List AO → Prop} {KL : List PV → List AO → Prop} {X : List AO → Prop}
theorem NR.cons {T μ mr} {m : Nm} (n : NR T μ mr m) {x : Str} {v : Value} {pv : PV} (r : VR T μ v pv) : NR T μ (fun y => if y = x then some v else mr y) ((x, pv) :: m) := by
  intro y py hy
  rw [List.lookup_cons] at hy
  by_cases h : y = x
  · subst h
    simp only [beq_self_eq_true, Option.some.injEq] at hy
    subst hy
    exact ⟨v, by simp, r⟩
  · rw [beq_eq_false_iff_ne.mpr h] at hy
    obtain ⟨v', a, b⟩ := n y py hy
    exact ⟨v', by simp [h, a], b⟩
theorem WN_loc {x : Str} {pv : PV} (hn : c.ns = none) (hk : c.env.kindOf x = some .local) (h : Kn ((x, pv) :: m) σ) : WN c x pv σ m Kn := by
  intro T R s v st r Q E q
  obtain ⟨mr, F, n⟩ := st.fr
  have hl : c.env.locals = c.L := st.nso.atL hn
  refine wpAny_storeName_local hk (hl ▸ F.ns) (fun h' hns hs => ?_) (by rw [st.ok.ek]; rfl)
  rw [hl] at hns hs
  have hb : ∀ p ∈ T ++ R, h'.get? p.1 = some p.2 ∧ p.1 ≠ c.L ∧ c.g.get? p.1 = none := fun p hp => ⟨(hs.2 p.1 (st.news p hp).2.1).trans (st.news p hp).1, (st.news p hp).2⟩
  refine q _ R σ _ (Gr.refl _ _) ⟨st.ok, ⟨_, F.set hns hs, n.cons r⟩, hb, st.nd, st.len, st.objs, ?_, st.cel, st.nso⟩ h
  show ({ s with heap := h', toks := s.toks + 1 } : Shared) = _
  rw [st.sh]
theorem WN_cell {x : Str} {pv : PV} {n : Nat} {p0 : Option PV} (hk : c.env.kindOf x = some .cell) (hc : c.ce.lookup x = some n) (ho : σ[n]? = some (.cell p0)) (h : Kn m (σ.set n (.cell (some pv)))) : WN c x pv σ m Kn := by
  intro T R s v st r Q E q
  obtain ⟨a, h1, h2⟩ := st.cel x n hc
  obtain ⟨o, e1, e2, e3⟩ := st.at ho h2
  replace e3 := e3.inv; obtain ⟨_, hd, hr⟩ := e3
  refine wpAny_storeName_cell st.ok.ek hk h1 ⟨o, e2, hd⟩ fun h' hv hs => ?_
  obtain ⟨o', ho', hd'⟩ := hv
  obtain ⟨S, hμ⟩ := st.setR (tk := s.toks) e1 hs ho' (.cell hd' (.some r))
  exact q m _ _ _ ⟨fun _ h => h, by rw [hμ]; exact List.prefix_refl _⟩ S h
theorem WS_nil (h : Kn m σ) : WS c [] σ m Kn Kr X := fun T R s st Q E q1 q2 e => wpAny_execs_nil (q1 m T R σ s (Gr.refl _ _) st h)
theorem WS_cons {st : Stmt} {rest : List Stmt} (h : WS1 c st σ m (jS c rest Kn Kr X) Kr X) : WS c (st :: rest) σ m Kn Kr X := by
  intro T R s S Q E q1 q2 e
  refine wpAny_execs_cons (h T R s S _ _ (fun m' T1 R1 σ1 s1 g1 S1 k => ?_) (fun v pv m' T' R' σ' s' g S' r k => q2 v pv m' T' R' σ' s' g S' r k) e)
  exact k T1 R1 s1 S1 Q E (fun m' T' R' σ' s' g S' k' => q1 m' T' R' σ' s' (g1.trans g) S' k') (fun v pv m' T' R' σ' s' g S' r k => q2 v pv m' T' R' σ' s' (g1.trans g) S' r k) (fun e' m' s' σ' hx hX => e e' m' s' σ' (hx.mono g1) hX)
theorem WS1_pass {pos} (h : Kn m σ) : WS1 c (.Pass pos) σ m Kn Kr X := fun T R s st Q E q1 q2 e => wpAny_Pass (q1 m T R σ s (Gr.refl _ _) st h)
theorem WS1_ret {e : Expr} {pos} (h : WE c e σ m Kr X) : WS1 c (.Return (some e) pos) σ m Kn Kr X :=
  fun T R s st Q E q1 q2 ex => wpAny_Return_some (h T R s st _ _ (fun v pv T' R' σ' s' g S r k => q2 v pv m T' R' σ' s' g S r k) (fun e' s' σ' hx hX => ex e' m s' σ' hx hX))
theorem WS1_asg {x : Str} {p pos} {e : Expr} (h : WE c e σ m (jN c x m Kn) X) (hs : swapsWith e (some (.Name x p)) pos.line c.env = pure false := by rfl) : WS1 c (.Assign [.Name x p] e pos) σ m Kn Kr X := by
  intro T R s st Q E q1 q2 ex
  refine wpAny_Assign_Name (hs := hs) (h T R s st _ _ (fun v pv T1 R1 σ1 s1 g1 S1 r k => ?_) (fun e' s' σ' hx hX => ex e' m s' σ' hx hX))
  exact k T1 R1 s1 v S1 r _ _ fun m' R' σ' s' g S' k' => q1 m' T1 R' σ' s' (g1.trans g) S' k'
theorem WS1_aug {x : Str} {p pos} {op : Operator} {e : Expr} {a : PV} (hn : c.ns = none) (hk : c.env.kindOf x = some .local) (hv : m.lookup x = some a) (h : WE c e σ m (jAug c (inplaceOp op) x a m Kn X) X) : WS1 c (.AugAssign (.Name x p) op e pos) σ m Kn Kr X := by
  intro T R s st Q E q1 q2 ex
  obtain ⟨mr, F, n⟩ := st.fr
  obtain ⟨va, hv', ra⟩ := n x a hv
  have hl : c.env.locals = c.L := st.nso.atL hn
  refine wpAny_AugAssign_Name (wpAny_loadName_local st.ok.ek hk (hl ▸ F.ns) hv' ?_)
  refine h T R s st _ _ (fun vb b T2 R2 σ2 s2 g2 S2 rb h2 => ?_) (fun e' s' σ' hx hX => ex e' m s' σ' hx hX)
  refine h2 T2 R2 s2 va vb S2 (ra.mono g2) rb _ _ (fun vc pc T3 R3 σ3 s3 g3 S3 rc h3 => ?_) (fun e' s' σ' hx hX => ex e' m s' σ' (hx.mono g2) hX)
  exact h3 T3 R3 s3 vc S3 rc _ _ fun m' R' σ' s' g S' k' => q1 m' T3 R' σ' s' (g2.trans (g3.trans g)) S' k'
theorem WS1_if {t : Expr} {a b : List Stmt} {pos} (h : WB c t σ m (jIf c a b m Kn Kr X) X) : WS1 c (.If t a b pos) σ m Kn Kr X := by
  intro T R s st Q E q1 q2 ex
  refine wpAny_If (h T R s st _ _ (fun v T1 R1 σ1 s1 g1 S1 k => ?_) (fun e' s' σ' hx hX => ex e' m s' σ' hx hX))
  cases v <;> exact k T1 R1 s1 S1 Q E (fun m' T' R' σ' s' g S' k' => q1 m' T' R' σ' s' (g1.trans g) S' k') (fun v pv m' T' R' σ' s' g S' r k => q2 v pv m' T' R' σ' s' (g1.trans g) S' r k) (fun e' m' s' σ' hx hX => ex e' m' s' σ' (hx.mono g1) hX)
theorem WA_nil (h : Kn m σ) : WA c [] [] σ m Kn := by
  intro T R s vs st r Q E q
  (first | (replace r := r.inv; obtain rfl := r) | (replace r := r.inv; obtain ⟨_, rfl⟩ := r) | cases r)
  exact assignInOrder_nil (q m R σ s (Gr.refl _ _) st h)
theorem WA_cons {x : Str} {p} {rest : List Expr} {pv : PV} {l : List PV} (h : WN c x pv σ m (jA c rest l Kn)) : WA c (.Name x p :: rest) (pv :: l) σ m Kn := by
  intro T R s vs st r Q E q
  replace r := r.inv; obtain ⟨_, _, rfl, r1, r2⟩ := r
  refine assignInOrder_cons (assign_Name (h T R s _ st r1 _ _ fun m1 R1 σ1 s1 g1 S1 k => ?_))
  exact k T R1 s1 _ S1 (r2.mono g1) Q E fun m' R' σ' s' g S' k' => q m' R' σ' s' (g1.trans g) S' k'
theorem WAn_nil (h : Kn m σ) : WAn c [] [] σ m Kn := by
  intro T R s vs st r Q E q
  (first | (replace r := r.inv; obtain rfl := r) | (replace r := r.inv; obtain ⟨_, rfl⟩ := r) | cases r)
  exact assignInOrder_nil (q m R σ s (Gr.refl _ _) st h)
theorem WAn_cons {x : Str} {rest : List Str} {pv : PV} {l : List PV} (h : WN c x pv σ m (jAn c rest l Kn)) : WAn c (x :: rest) (pv :: l) σ m Kn := by
  intro T R s vs st r Q E q
  replace r := r.inv; obtain ⟨_, _, rfl, r1, r2⟩ := r
  refine assignInOrder_cons (bindName_ (h T R s _ st r1 _ _ fun m1 R1 σ1 s1 g1 S1 k => ?_))
  exact k T R1 s1 _ S1 (r2.mono g1) Q E fun m' R' σ' s' g S' k' => q m' R' σ' s' (g1.trans g) S' k'
theorem VRs.reverse {T μ} {vs : List Value} {l : List PV} (h : VRs T μ vs l) : VRs T μ vs.reverse l.reverse := h.ind (P := fun vs l => VRs T μ vs.reverse l.reverse) .nil fun r _ ih => by rw [List.reverse_cons, List.reverse_cons]; exact ih.append (.cons r .nil)
theorem St.extBut {T R s} (st : St c T R σ m s) {h' : Heap} (he : Heap.ExtBut s.heap.objs.size s.heap h') : St c T R σ m { s with heap := h' } :=
  st.grow (tk := s.toks) fun b o e => he b o (Nat.ne_of_lt (Heap.lt_size e)) e
theorem tupIs {T R s} (st : St c T R σ m s) {a : Addr} {vs : List Value} {n : Nat} (h : (a, tupOf vs n) ∈ T) : IsTup s.heap a vs.toArray := ⟨_, st.tupGet h, rfl, n, rfl⟩
theorem WS1_asgT {elts : List Expr} {k tpos pos} {e : Expr} (h : WE c e σ m (jTA c elts m Kn) X)
    (hlen : (assignEach elts c.env).length = elts.length := by rfl) (hstar : (assignEach elts c.env).findIdx? (·.1) = none := by rfl)
    (hs : swapsWithSole [.Tuple elts k tpos] e pos.line c.env = pure false := by rfl) (hw : swappedStores [.Tuple elts k tpos] e c.env = pure none := by rfl) : WS1 c (.Assign [.Tuple elts k tpos] e pos) σ m Kn Kr X := by
  intro T R s st Q E q1 q2 ex
  refine Assign_Tuple (hs := hs) (hw := hw) (h T R s st _ _ (fun v pv T1 R1 σ1 s1 g1 S1 r k => ?_) (fun e' s' σ' hx hX => ex e' m s' σ' hx hX))
  obtain ⟨l, rfl, hl, kA⟩ := k
  replace r := r.inv; obtain ⟨_, _, _, rfl, hm, hr⟩ := r
  refine assign_Tuple_tuple S1.ok.hh (tupIs S1 hm) (by rw [hlen, ← hl, List.size_toArray, hr.length]) hstar fun h' he => ?_
  exact kA T1 R1 _ _ (S1.extBut he) hr _ _ fun m' R' σ' s' g S' k' => q1 m' T1 R' σ' s' (g1.trans g) S' k'
theorem WS1_asgS {elts : List Expr} {k tpos pos} {e : Expr} {names : List Str} (h : WE c e σ m (jTS c names m Kn) X)
    (hw : swappedStores [.Tuple elts k tpos] e c.env = pure (some names) := by rfl)
    (hs : swapsWithSole [.Tuple elts k tpos] e pos.line c.env = pure false := by rfl) : WS1 c (.Assign [.Tuple elts k tpos] e pos) σ m Kn Kr X := by
  intro T R s st Q E q1 q2 ex
  refine Assign_Tuple_swapped (hs := hs) (hw := hw) (h T R s st _ _ (fun v pv T1 R1 σ1 s1 g1 S1 r k => ?_) (fun e' s' σ' hx hX => ex e' m s' σ' hx hX))
  obtain ⟨l, rfl, hl, kA⟩ := k
  replace r := r.inv; obtain ⟨_, _, _, rfl, hm, hr⟩ := r
  rename_i vs n
  have hn : names.length = vs.toArray.size := by rw [← hl, List.size_toArray, hr.length]
  rw [hn]
  refine unpackItems_tuple S1.ok.hh (tupIs S1 hm) fun h' he => ?_
  exact kA T1 R1 _ _ (S1.extBut he) hr.reverse _ _ fun m' R' σ' s' g S' k' => q1 m' T1 R' σ' s' (g1.trans g) S' k'
theorem WL_nil {pos} (h : KL [] σ) : WL c pos [] σ m KL X := fun T R s st Q E q e => args_nil (q [] [] T R σ s (Gr.refl _ _) st .nil h)
theorem WL_cons {pos} {e : Expr} {rest : List Expr} (h : WE c e σ m (jC c pos rest m KL X) X) (he : ∀ env, starEach (e :: rest) env = (false, eval e env) :: starEach rest env := by intro _; rfl) : WL c pos (e :: rest) σ m KL X := by
  intro T R s st Q E q ex
  refine args_cons (he := he _) (h T R s st _ _ (fun v pv T1 R1 σ1 s1 g1 S1 r k => ?_) ex)
  exact k T1 R1 s1 S1 _ _ (fun vs l T' R' σ' s' g S' rs k' => q (v :: vs) (pv :: l) T' R' σ' s' (g1.trans g) S' (.cons (r.mono g) rs) k') (fun e' s' σ' hx hX => ex e' s' σ' (hx.mono g1) hX)
theorem WE_tup {es : List Expr} {k pos} (h : WL c pos es σ m (jTu K) X) : WE c (.Tuple es k pos) σ m K X := by
  intro T R s st Q E q ex
  refine Tuple_ (h T R s st _ _ (fun vs l T1 R1 σ1 s1 g1 S1 rs k => ?_) ex)
  obtain ⟨hl, k⟩ := k
  have S2 := S1.addT (tk := s1.toks) (o := tupOf vs 0) (fun b o e => Heap.get?_push_of_some _ e) (none_of_size s1.heap) (Heap.get?_push_size _ rfl)
  refine wpAny_newObj_type (q (.ref s1.heap.objs.size) (.tup l) _ R1 σ1 _ (g1.trans ⟨fun p hp => List.mem_cons_of_mem _ hp, List.prefix_refl _⟩) S2 (.tup (.head _) (rs.mono ⟨fun p hp => List.mem_cons_of_mem _ hp, List.prefix_refl _⟩)) k) ?_
  show vs.toArray.size ≤ sizeLine
  rw [List.size_toArray, rs.length]
  exact Nat.le_trans hl (by decide)
theorem St.newList {T R s} (st : St c T R σ m s) {vs : List Value} {l : List PV} (rs : VRs T (μs R) vs l) {Q : Value → Shared → Prop} {E : Value → Shared → Prop} (hl : l.length ≤ sizeLine)
    (q : ∀ T' R' s', Gr T (μs R) T' (μs R') → St c T' R' (σ ++ [.list l]) m s' → ∀ a, VR T' (μs R') (.ref a) (.loc σ.length) → Q (.ref a) s') : wpAny (model c.prog c.w) c.A (PySem.newList vs) Q E s := by
  have g0 : Gr T (μs R) T (μs (R ++ [(s.heap.objs.size, listOf vs.toArray 0)])) := ⟨fun p hp => hp, by unfold μs; rw [List.map_append]; exact List.prefix_append _ _⟩
  obtain ⟨S2, g2, hn⟩ := st.addR (tk := s.toks) (o := listOf vs.toArray 0) (fun b o e => Heap.get?_push_of_some _ e) (none_of_size s.heap) (Heap.get?_push_size _ rfl) (.list (rs.mono g0))
  refine wpAny_newObj_type (q T _ _ g2 S2 s.heap.objs.size (.loc hn)) ?_
  show vs.toArray.size ≤ sizeLine
  rw [List.size_toArray, rs.length]; exact hl
theorem WE_list {es : List Expr} {pos} (h : WL c pos es σ m (jLi K) X) : WE c (.List es pos) σ m K X := by
  intro T R s st Q E q ex
  refine List_ (h T R s st _ _ (fun vs l T1 R1 σ1 s1 g1 S1 rs k => ?_) ex)
  obtain ⟨hl, k⟩ := k
  exact S1.newList rs (Nat.le_trans hl (by decide)) fun T' R' s' g S' a r => q _ _ T' R' _ s' (g1.trans g) S' r k
noncomputable def keepOk (K : Frag) : Value → Bool
  | .builtin _ => true
  | .type _ => true
  | v => keepIn K v
theorem keeps_ok {M : Model} {f : Value} {K : Frag} (hk : keepOk K f = true) (h : Heap) (x : K.In h) : ∃ k, (k = Keeper.frame ∨ k = Keeper.machine ∨ k = Keeper.boundFrame) ∧ Looks M h (keeperOf f) k := by
  cases f with
  | builtin i => exact ⟨.machine, .inr (.inl rfl), Looks.of_pure rfl⟩
  | type i => exact ⟨.machine, .inr (.inl rfl), Looks.of_pure rfl⟩
  | ref a => exact keeps_K (K := K) (f := .ref a) hk h x
  | _ => cases hk
theorem St.kin {T R s} (st : St c T R σ m s) : c.K.In s.heap := by
  obtain ⟨mr, F, _⟩ := st.fr
  exact st.ok.kin.keeps F.keep
theorem callWith_W {T R s} (S : St c T R σ m s) {f : Value} {first : List Value} {fl : List PV} (hk : keepOk c.K f = true) (rf : VRs T (μs R) first fl) {pos} {e : Expr} {rest : List Expr} {Q : Value → Shared → Prop} {E : Value → Shared → Prop}
    (h : WL c pos (e :: rest) σ m (fun as σ2 => WC c f (fl ++ as) σ2 m K X) X) (q : ∀ v pv T' R' σ' s', Gr T (μs R) T' (μs R') → St c T' R' σ' m s' → VR T' (μs R') v pv → K pv σ' → Q v s')
    (ex : ∀ e s' σ', ExcS c m T (μs R) σ' e s' → X σ' → E e s')
    (he : ∀ env, starEach (e :: rest) env = (false, eval e env) :: starEach rest env) (hplain : ∀ env, (backTo pos (starEach rest env)).any (·.1) = false) :
    wpAny (model c.prog c.w) c.A (callWith pos f first (backTo pos (starEach (e :: rest) c.env)) []) Q E s := by
  have body : wpAny (model c.prog c.w) c.A (spliced (backTo pos (starEach (e :: rest) c.env))) (fun vs s₁ => c.K.In s₁.heap ∧ wpAny (model c.prog c.w) c.A (call f (first ++ vs) []) Q E s₁) E s := by
    refine h T R s S _ _ (fun vs l T1 R1 σ1 s1 g1 S1 rs k => ⟨S1.kin, ?_⟩) ex
    exact k T1 R1 s1 _ S1 ((rf.mono g1).append rs) Q E (fun v pv T' R' σ' s' g S' r k' => q v pv T' R' σ' s' (g1.trans g) S' r k') (fun e' s' σ' hx hX => ex e' s' σ' (hx.mono g1) hX)
  rw [he] at body ⊢
  exact callWith_of (P := c.K.In) (by show ((false || (backTo pos (starEach rest c.env)).any (·.1)) || false) = false; rw [hplain]; rfl) (keeps_ok hk) (evalArgs_plain body)
theorem callWith_W0 {T R s} (S : St c T R σ m s) {f : Value} {first : List Value} {fl : List PV} (hk : keepOk c.K f = true) (rf : VRs T (μs R) first fl) {pos} {Q : Value → Shared → Prop} {E : Value → Shared → Prop}
    (h : WC c f (fl ++ []) σ m K X) (q : ∀ v pv T' R' σ' s', Gr T (μs R) T' (μs R') → St c T' R' σ' m s' → VR T' (μs R') v pv → K pv σ' → Q v s')
    (ex : ∀ e s' σ', ExcS c m T (μs R) σ' e s' → X σ' → E e s') :
    wpAny (model c.prog c.w) c.A (callWith pos f first (backTo pos (starEach [] c.env)) []) Q E s :=
  callWith_of (P := c.K.In) rfl (keeps_ok hk) (evalArgs_nil3 ⟨S.kin, h T R s _ S (rf.append .nil) Q E q ex⟩)
noncomputable abbrev jF1 (c : Cx) (v : Value) (m : List (Str × PV)) (K : PV → List AO → Prop) (X : List AO → Prop) (as : List PV) (σ : List AO) : Prop := WC c v as σ m K X
noncomputable abbrev jF (c : Cx) (pos : Pos) (es : List Expr) (m : List (Str × PV)) (K : PV → List AO → Prop) (X : List AO → Prop) (f : PV) (σ : List AO) : Prop := ∃ v, f = .raw v ∧ keepOk c.K v = true ∧ WL c pos es σ m (jF1 c v m K X) X
noncomputable abbrev jF0 (c : Cx) (m : List (Str × PV)) (K : PV → List AO → Prop) (X : List AO → Prop) (f : PV) (σ : List AO) : Prop := ∃ v, f = .raw v ∧ keepOk c.K v = true ∧ WC c v [] σ m K X
noncomputable abbrev jM2 (c : Cx) (f : Value) (fl : List PV) (m : List (Str × PV)) (K : PV → List AO → Prop) (X : List AO → Prop) (as : List PV) (σ : List AO) : Prop := WC c f (fl ++ as) σ m K X
noncomputable abbrev jM1 (c : Cx) (pos : Pos) (es : List Expr) (m : List (Str × PV)) (K : PV → List AO → Prop) (X : List AO → Prop) (f : Value) (fl : List PV) (σ : List AO) : Prop := keepOk c.K f = true ∧ WL c pos es σ m (jM2 c f fl m K X) X
noncomputable abbrev jM (c : Cx) (name : Str) (pos : Pos) (es : List Expr) (m : List (Str × PV)) (K : PV → List AO → Prop) (X : List AO → Prop) (ov : PV) (σ : List AO) : Prop := WM c ov name σ m (jM1 c pos es m K X) X
noncomputable abbrev jM01 (c : Cx) (m : List (Str × PV)) (K : PV → List AO → Prop) (X : List AO → Prop) (f : Value) (fl : List PV) (σ : List AO) : Prop := keepOk c.K f = true ∧ WC c f fl σ m K X
noncomputable abbrev jM0 (c : Cx) (name : Str) (m : List (Str × PV)) (K : PV → List AO → Prop) (X : List AO → Prop) (ov : PV) (σ : List AO) : Prop := WM c ov name σ m (jM01 c m K X) X
theorem WE_call {func e : Expr} {rest : List Expr} {pos} (h : WE c func σ m (jF c pos (e :: rest) m K X) X)
    (hc : ∀ env, eval (.Call func (e :: rest) [] pos) env = (do callWith pos (← eval func env) [] (backTo pos (starEach (e :: rest) env)) (backToKw pos (keywordEach [] env))) := by intro _; rfl)
    (he : ∀ env, starEach (e :: rest) env = (false, eval e env) :: starEach rest env := by intro _; rfl) (hplain : ∀ env, (backTo pos (starEach rest env)).any (·.1) = false := by intro _; rfl) : WE c (.Call func (e :: rest) [] pos) σ m K X := by
  intro T R s st Q E q ex
  refine Call_ (he := hc _) (h T R s st _ _ (fun v pv T1 R1 σ1 s1 g1 S1 r k => ?_) ex)
  obtain ⟨f, rfl, hk, k⟩ := k
  replace r := r.inv; obtain rfl := r
  exact callWith_W (fl := []) S1 hk .nil k (fun v pv T' R' σ' s' g S' r k' => q v pv T' R' σ' s' (g1.trans g) S' r k') (fun e' s' σ' hx hX => ex e' s' σ' (hx.mono g1) hX) he hplain
theorem WE_call0 {func : Expr} {pos} (h : WE c func σ m (jF0 c m K X) X)
    (hc : ∀ env, eval (.Call func [] [] pos) env = (do callWith pos (← eval func env) [] (backTo pos (starEach [] env)) (backToKw pos (keywordEach [] env))) := by intro _; rfl) : WE c (.Call func [] [] pos) σ m K X := by
  intro T R s st Q E q ex
  refine Call_ (he := hc _) (h T R s st _ _ (fun v pv T1 R1 σ1 s1 g1 S1 r k => ?_) ex)
  obtain ⟨f, rfl, hk, k⟩ := k
  replace r := r.inv; obtain rfl := r
  exact callWith_W0 (fl := []) S1 hk .nil k (fun v pv T' R' σ' s' g S' r k' => q v pv T' R' σ' s' (g1.trans g) S' r k') (fun e' s' σ' hx hX => ex e' s' σ' (hx.mono g1) hX)
theorem WE_meth {o e : Expr} {name : Str} {rest : List Expr} {apos pos} {pl : Env → Sem Bool} (h : WE c o σ m (jM c name pos (e :: rest) m K X) X)
    (hc : ∀ env, eval (.Call (.Attribute o name apos) (e :: rest) [] pos) env = (do
      let ov ← eval o env
      standAt apos.atName
      let (f, first) ← holding [ov] (getMethod ov name (pl env))
      callWith pos f first (backTo pos (starEach (e :: rest) env)) []) := by intro _; rfl)
    (he : ∀ env, starEach (e :: rest) env = (false, eval e env) :: starEach rest env := by intro _; rfl) (hplain : ∀ env, (backTo pos (starEach rest env)).any (·.1) = false := by intro _; rfl) : WE c (.Call (.Attribute o name apos) (e :: rest) [] pos) σ m K X := by
  intro T R s st Q E q ex
  refine MethodCall_ (he := hc _) (h T R s st _ _ (fun v pv T1 R1 σ1 s1 g1 S1 r k => ?_) ex)
  refine k T1 R1 s1 v _ S1 r _ _ (fun f first l T2 R2 σ2 s2 g2 S2 rs k2 => ?_) (fun e' s' σ' hx hX => ex e' s' σ' (hx.mono g1) hX)
  obtain ⟨hk, k2⟩ := k2
  exact callWith_W S2 hk rs k2 (fun v pv T' R' σ' s' g S' r k' => q v pv T' R' σ' s' (g1.trans (g2.trans g)) S' r k') (fun e' s' σ' hx hX => ex e' s' σ' (hx.mono (g1.trans g2)) hX) he hplain
theorem WE_meth0 {o : Expr} {name : Str} {apos pos} {pl : Env → Sem Bool} (h : WE c o σ m (jM0 c name m K X) X)
    (hc : ∀ env, eval (.Call (.Attribute o name apos) [] [] pos) env = (do
      let ov ← eval o env
      standAt apos.atName
      let (f, first) ← holding [ov] (getMethod ov name (pl env))
      callWith pos f first (backTo pos (starEach [] env)) []) := by intro _; rfl) : WE c (.Call (.Attribute o name apos) [] [] pos) σ m K X := by
  intro T R s st Q E q ex
  refine MethodCall_ (he := hc _) (h T R s st _ _ (fun v pv T1 R1 σ1 s1 g1 S1 r k => ?_) ex)
  refine k T1 R1 s1 v _ S1 r _ _ (fun f first l T2 R2 σ2 s2 g2 S2 rs k2 => ?_) (fun e' s' σ' hx hX => ex e' s' σ' (hx.mono g1) hX)
  obtain ⟨hk, k2⟩ := k2
  exact callWith_W0 S2 hk rs (by rw [List.append_nil]; exact k2) (fun v pv T' R' σ' s' g S' r k' => q v pv T' R' σ' s' (g1.trans (g2.trans g)) S' r k') (fun e' s' σ' hx hX => ex e' s' σ' (hx.mono (g1.trans g2)) hX)
theorem getL_of : ∀ {es : List DictEntry} {fs : Nm} {T μ} {x : Str}, DR T μ es fs → (∀ pv, fs.lookup x = some pv → ∃ v, getL x es = some (some v) ∧ VR T μ v pv) ∧ (fs.lookup x = none → getL x es = some none) := by
  intro es fs T μ x h
  have key : ∀ {es : List DictEntry} {fs : Nm}, DR T μ es fs → (∀ pv, fs.lookup x = some pv → ∃ e, es.find? (·.key.isStr x) = some e ∧ VR T μ e.val pv) ∧ (fs.lookup x = none → es.find? (·.key.isStr x) = none) ∧ es.any (·.refKey) = false := by
    intro es fs h
    induction es generalizing fs with
    | nil => cases h; exact ⟨fun pv e => by simp at e, fun _ => rfl, rfl⟩
    | cons e es ih =>
      cases h with
      | cons r d =>
        rename_i hs y t v pv fs'
        obtain ⟨i1, i2, i3⟩ := ih d
        have hkey : (⟨hs, .str y t, v⟩ : DictEntry).key.isStr x = (y == x) := rfl
        by_cases hy : x = y
        · subst hy
          refine ⟨fun p e => ?_, fun e => ?_, ?_⟩
          · rw [List.lookup_cons, beq_self_eq_true] at e
            cases e
            exact ⟨_, by rw [List.find?_cons, hkey, beq_self_eq_true], r⟩
          · rw [List.lookup_cons, beq_self_eq_true] at e; cases e
          · rw [List.any_cons, i3]; rfl
        · refine ⟨fun p e => ?_, fun e => ?_, ?_⟩
          · rw [List.lookup_cons, beq_eq_false_iff_ne.mpr hy] at e
            obtain ⟨e', h1, h2⟩ := i1 p e
            exact ⟨e', by rw [List.find?_cons, hkey, beq_eq_false_iff_ne.mpr (Ne.symm hy)]; exact h1, h2⟩
          · rw [List.lookup_cons, beq_eq_false_iff_ne.mpr hy] at e
            rw [List.find?_cons, hkey, beq_eq_false_iff_ne.mpr (Ne.symm hy)]; exact i2 e
          · rw [List.any_cons, i3]; rfl
  obtain ⟨k1, k2, k3⟩ := key h
  refine ⟨fun pv e => ?_, fun e => ?_⟩
  · obtain ⟨e', h1, h2⟩ := k1 pv e
    exact ⟨e'.val, by unfold getL; rw [h1], h2⟩
  · unfold getL
    rw [k2 e, k3]; rfl
theorem instAt {T R s} (st : St c T R σ m s) {n d : Nat} {C : Addr} {fs : Nm} {v : Value} (e1 : σ[n]? = some (.inst C d)) (e2 : σ[d]? = some (.dict fs)) (r : VR T (μs R) v (.loc n)) :
    ∃ x dx es k, v = .ref x ∧ InstAt s.heap x (instObj C dx) C (some (dictOf es k)) ∧ DR T (μs R) es fs ∧ R[d]? = some (dx, dictOf es k) ∧ (μs R)[n]? = some x := by
  replace r := r.inv; obtain ⟨_, rfl, h⟩ := r
  obtain ⟨o, a1, a2, a3⟩ := st.at e1 h
  replace a3 := a3.inv; obtain ⟨_, rfl, hd⟩ := a3
  rename_i dx
  obtain ⟨o', b1, b2, b3⟩ := st.at e2 hd
  cases b3 with
  | dict hr => exact ⟨_, dx, _, _, rfl, ⟨a2, rfl, rfl, b2⟩, hr, b1, h⟩
theorem WM_inst {n d : Nat} {C f : Addr} {fs : Nm} {name : Str} {KM : Value → List PV → List AO → Prop} (e1 : σ[n]? = some (.inst C d)) (e2 : σ[d]? = some (.dict fs)) (hl : fs.lookup name = none) (hg : plainGet c.K C name = true)
    (hf : findIn c.K (.ref C) name = some (some (.ref f))) (ht : isFn c.K (.ref f) = true) (h : KM (.ref f) [.loc n] σ) : WM c (.loc n) name σ m KM X := by
  intro T R s v pl st r Q E q ex
  obtain ⟨x, dx, es, k, rfl, I, hr, _, _⟩ := instAt st e1 e2 r
  obtain ⟨mr, F, _⟩ := st.fr
  exact method_inst F st.ok.kin I hg hf ht ((getL_of hr).2 hl) (q _ _ _ T R σ s (Gr.refl _ _) st (.cons r .nil) h)
theorem WE_attr {o : Expr} {name : Str} {pos} (h : WE c o σ m (jAt c name m K X) X)
    (he : ∀ env, eval (.Attribute o name pos) env = (do
      let ov ← eval o env
      standAt pos.atName
      let r ← holding [ov] (getAttr ov name true)
      letTemporaryGo o ov r
      pure r) := by intro _; with_unfolding_all rfl) : WE c (.Attribute o name pos) σ m K X := by
  intro T R s st Q E q ex
  refine Attribute_any_ (he := he _) (h T R s st _ _ (fun v pv T1 R1 σ1 s1 g1 S1 r k => ?_) ex)
  exact k T1 R1 s1 v S1 r Q E (fun v pv T' R' σ' s' g S' r k' => q v pv T' R' σ' s' (g1.trans g) S' r k') (fun e' s' σ' hx hX => ex e' s' σ' (hx.mono g1) hX)
theorem VR.handed {T μ v pv} (r : VR T μ v pv) (h : ∀ u, pv ≠ .raw u) : handedIn v = true := by
  cases r <;> first | rfl | exact absurd rfl (h _)
theorem WO_field {n d : Nat} {C : Addr} {fs : Nm} {name : Str} {pv : PV} {attr : Option Value} (e1 : σ[n]? = some (.inst C d)) (e2 : σ[d]? = some (.dict fs)) (hl : fs.lookup name = some pv) (hnr : ∀ u, pv ≠ .raw u) (hg : plainGet c.K C name = true)
    (hh : hasDictIn c.K C = true) (ha : findIn c.K (.ref C) name = some attr) (hn : noGet c.K attr = true) (h : K pv σ) : WO1 c (fun v => getAttr v name true) (.loc n) σ m K X := by
  intro T R s v st r Q E q ex
  obtain ⟨x, dx, es, k, rfl, I, hr, _, _⟩ := instAt st e1 e2 r
  obtain ⟨mr, F, _⟩ := st.fr
  obtain ⟨v, hv, rv⟩ := (getL_of hr).1 pv hl
  exact get_own F st.ok.kin I hg hh ha hn hv (rv.handed hnr) (q _ pv T R σ _ (Gr.refl _ _) (st.tok _) rv h)
end
end Nv
end
section
open PySem PySem.W PySem.Calls PyProof.Rows PyProof.V PySem.Spec
namespace Nv
theorem mem_frames {c : Cx} (ok : c.Ok) {b : Addr} (hm : b ∈ (c.fenv :: c.outer).filterMap (·.frame)) : b = c.L ∨ b ∈ c.outer.filterMap (·.frame) := by
  obtain ⟨env, he, hf⟩ := List.mem_filterMap.mp hm
  rcases List.mem_cons.mp he with rfl | he
  · exact .inl (Option.some.inj (hf.symm.trans ok.hf))
  · exact .inr (List.mem_filterMap.mpr ⟨env, he, hf⟩)
theorem leaveW {c : Cx} {m : Nm} {T₀ : Led} {μ₀ : List Addr} {σ : List AO} {v : Value} {s' : Shared} {Q : Unit → Shared → Prop} {E : Value → Shared → Prop} (hx : ExcS c m T₀ μ₀ σ v s') (hA : c.A = c.A₀.deeper c.fenv) (henv : c.env = c.fenv)
    (hQ : ∀ e T R h', v = .ref e → Gr T₀ μ₀ T (μs R) → StA c T R σ → RaisedW c.base c.g c.outer e (.ref c.xc) (T ++ R) h' → c.g.UpToSlots h' → Q () { s' with heap := h' }) :
    wpAny (model c.prog c.w) c.A (leaving c.env v) Q E s' := by
  obtain ⟨e, T, R, mr, h, rfl, g, n, F, S, hs, hc⟩ := hx
  have K := S.ok.below
  rw [henv]
  have self : ∀ o, c.g.get? c.L = some o → False := fun o q => absurd (Nat.lt_of_lt_of_le (Heap.lt_size q) F.above) (Nat.lt_irrefl _)
  rcases hc with ⟨N, hk, hne, ob, tp, he, hcls, hd⟩ | ⟨hsm, B, a0, hB, hG, hl, hfl⟩
  · have K' := pushX K F S.ok.hf S.ok.hk
    have hin : ∀ env ∈ (c.fenv :: c.outer), ∀ b, env.frame = some b → b ∈ (c.fenv :: c.outer).filterMap (·.frame) := fun env he b hb => List.mem_filterMap.mpr ⟨env, he, hb⟩
    have st : c.base.StaysIn (hideAll h ((c.fenv :: c.outer).filterMap (·.frame))) := fun b o q => hideAll_get _ (K'.stays b o q) fun hm => by
      rw [(K'.frames.mem hm).1] at q; cases q
    have hl : ∀ q ∈ T ++ R, (hideAll h ((c.fenv :: c.outer).filterMap (·.frame))).get? q.1 = some q.2 ∧ c.base.get? q.1 = none ∧ c.g.get? q.1 = none := fun q hq => by
      refine ⟨hideAll_get _ (N q hq).1 fun hm => ?_, fresh_of_stays K.stays (N q hq).2.2, (N q hq).2.2⟩
      obtain ⟨env, he, hf⟩ := List.mem_filterMap.mp hm
      rcases List.mem_cons.mp he with rfl | he
      · exact (N q hq).2.1 (Option.some.inj (hf.symm.trans S.ok.hf))
      · obtain ⟨o, ho, _⟩ := (K.frames.mem (List.mem_filterMap.mpr ⟨env, he, hf⟩)).2
        rw [(N q hq).2.2] at ho; cases ho
    have hen : (hideAll h ((c.fenv :: c.outer).filterMap (·.frame))).get? e = none := by
      cases q : (hideAll h ((c.fenv :: c.outer).filterMap (·.frame))).get? e with
      | none => rfl
      | some o => have := of_hideAll _ q; rw [hne] at this; cases this
    have sg : ∀ b o, c.g.get? b = some o → b ∉ c.outer.filterMap (·.frame) → (hideAll h ((c.fenv :: c.outer).filterMap (·.frame))).get? b = some o := fun b o q nm => hideAll_get _ (F.keep b o q) fun hm => by
      rcases mem_frames S.ok hm with z | z
      · rw [z] at q; exact self o q
      · exact nm z
    refine wpAny_leaving_firstW (a0 := tp) S.ok.hA ((funFrames_hide K'.frames hin).of_keeps fun b o hb _ => ⟨o, hk b o hb, rfl⟩) S.ok.hf he (fun b o hb => hk b o (of_hideAll _ hb)) hen hd rfl rfl fun h' hL => ?_
    obtain ⟨k1, ⟨_, _, k2⟩, k3, k4⟩ := hL
    exact hQ e T R h' rfl g S ⟨_, tp, st, sg, hl, k1, hen, k2, by rw [← hcls]; exact k3⟩ (((Heap.UpToSlots.of_keeps F.keep).trans (Heap.UpToSlots.of_keeps hk)).trans k4)
  · have sg : ∀ b o, c.g.get? b = some o → b ∉ c.outer.filterMap (·.frame) → B.get? b = some o := fun b o q nm => hG b o (F.keep b o q) fun hm => by
      rcases mem_frames S.ok hm with z | z
      · rw [z] at q; exact self o q
      · exact nm z
    exact wpAny_leaves_onW S.ok.hA S.ok.hf hfl fun h' x1 x2 => hQ e T R h' rfl g S ⟨B, a0, hB, sg, fun q hq => ⟨(hl q hq).1, (hl q hq).2.1, kts_none F.keep (hl q hq).2.2⟩, x1⟩ ((Heap.UpToSlots.of_keeps F.keep).trans (hsm.trans x2))
structure Gl where
  prog : Program
  Kw : Params → Frag
  p : Program
  loose : List Str
  xc : Addr
structure Px where
  w : World
  mean : ExcName → Option Value
  mg : Str → Option Value
  mb : Str → Option Value
  A₀ : Around
  base : Heap
  outer : List Env
  g : Heap
  L : Addr
  s₀ : Shared
structure Fn where
  qual : Str
  scope : Scope
  f : Addr
  cdv : Value
noncomputable def Gl.at (G : Gl) (P : Px) (q : Fn) (cl : List (Str × Addr)) (ce : List (Str × Nat)) : Cx :=
  { prog := G.prog, w := P.w, K := G.Kw P.w.params, p := G.p, loose := G.loose, mean := P.mean, mg := P.mg, mb := P.mb, A₀ := P.A₀, A := P.A₀.deeper (envX q.qual q.scope P.L q.f q.cdv cl), base := P.base, outer := P.outer, g := P.g, L := P.L,
    fenv := envX q.qual q.scope P.L q.f q.cdv cl, env := envX q.qual q.scope P.L q.f q.cdv cl, ce := ce, ns := none, s₀ := P.s₀, xc := G.xc }
structure Cx.Std (c : Cx) (G : Gl) : Prop where
  prog : c.prog = G.prog
  K : c.K = G.Kw c.w.params
  p : c.p = G.p
  loose : c.loose = G.loose
  xc : c.xc = G.xc
structure Room (c : Cx) (n : Nat) : Prop where
  d : c.A.depth + n < 1000
  u : c.A.units + 10 * n < 9800
theorem Room.mono {c : Cx} {n k : Nat} (h : Room c n) (hk : k ≤ n) : Room c k := ⟨by have := h.d; omega, by have := h.u; omega⟩
theorem Gl.at_std (G : Gl) (P : Px) (q : Fn) (cl ce) : (G.at P q cl ce).Std G := ⟨rfl, rfl, rfl, rfl, rfl⟩
noncomputable def Cx.px (c : Cx) (g : Heap) (L : Addr) : Px := ⟨c.w, c.mean, c.mg, c.mb, c.A, c.base, c.fenv :: c.outer, g, L, c.s₀⟩
noncomputable def Cx.inn (c : Cx) (g : Heap) (L' : Addr) (qual : Str) (scope : Scope) (f : Addr) (cdv : Value) (cl : List (Str × Addr)) (ci : List (Str × Nat)) : Cx :=
  { c with A₀ := c.A, A := c.A.deeper (envX qual scope L' f cdv cl), outer := c.fenv :: c.outer, g := g, L := L', fenv := envX qual scope L' f cdv cl, env := envX qual scope L' f cdv cl, ce := ci, ns := none }
theorem Cx.Std.at_eq {c : Cx} {G : Gl} (h : c.Std G) (g : Heap) (L : Addr) (q : Fn) (cl ce) :
    G.at (c.px g L) q cl ce = c.inn g L q.qual q.scope q.f q.cdv cl ce := by
  obtain ⟨a, b, c', d, e⟩ := h
  unfold Gl.at Cx.px Cx.inn
  rw [← a, ← c', ← d, ← e, ← b]
noncomputable def BindN (fd : FuncData) (names : List Str) : List Str → List Value → Prop
  | [], acc => bindArgs fd ⟨acc, []⟩ = pure (names.zip acc)
  | _ :: r, acc => ∀ v, BindN fd names r (acc ++ [v])
theorem BindN.all {fd : FuncData} {names : List Str} {rest : List Str} : ∀ {acc : List Value}, BindN fd names rest acc → ∀ vs : List Value, vs.length = rest.length → bindArgs fd ⟨acc ++ vs, []⟩ = pure (names.zip (acc ++ vs)) := by
  induction rest with
  | nil =>
    intro acc h vs e
    obtain rfl := List.eq_nil_of_length_eq_zero e
    rw [List.append_nil]; exact h
  | cons _ r ih =>
    intro acc h vs e
    cases vs with
    | nil => cases e
    | cons v vs =>
      have := ih (h v) vs (Nat.succ.inj e)
      rw [List.append_assoc] at this
      exact this
theorem zip_nr {T μ} : ∀ {names : List Str} {vs : List Value} {l : List PV}, VRs T μ vs l → vs.length = names.length → ∀ {acc : List (Str × Value)} {am : Nm}, NR T μ (fun y => acc.lookup y) am →
    NR T μ (fun y => ((names.zip vs).reverse ++ acc).lookup y) ((names.zip l).reverse ++ am)
  | [], _, _, _, _, acc, am, h => by simpa using h
  | x :: names, [], _, _, e, acc, am, h => by simp at e
  | x :: names, v :: vs, pv :: l, .cons r rs, e, acc, am, h => by
    simp only [List.zip_cons_cons, List.reverse_cons, List.append_assoc]
    refine zip_nr rs (Nat.succ.inj e) (acc := (x, v) :: acc) (am := (x, pv) :: am) ?_
    have := h.cons (x := x) r
    intro y py hy
    obtain ⟨v', a, b⟩ := this y py hy
    refine ⟨v', ?_, b⟩
    show List.lookup y ((x, v) :: acc) = some v'
    rw [List.lookup_cons]
    by_cases hxy : y = x
    · subst hxy; simpa using a
    · rw [beq_eq_false_iff_ne.mpr hxy]; simpa [hxy] using a
noncomputable def WCo (c : Cx) (f : Value) (as : List PV) (σ : List AO) (m : Nm) (K : PV → List AO → Prop) (X : List AO → Prop) : Prop :=
  ∀ T R s vs, St c T R σ m s → VRs T (μs R) vs as → ∀ (Q E : Value → Shared → Prop), (∀ v pv T' R' σ' s', Gr T (μs R) T' (μs R') → St c T' R' σ' m s' → VR T' (μs R') v pv → K pv σ' → Q v s') →
    (∀ e s' σ', ExcS c m T (μs R) σ' e s' → X σ' → E e s') → codeAny (model c.prog c.w) c.A (.call f ⟨vs, []⟩) (fun r s' => match r with | .ok (.ret v) => Q v s' | .ok _ => False | .error e => E e s') s
theorem WCo.wc {c f as σ m K X} (h : WCo c f as σ m K X) : WC c f as σ m K X := fun T R s vs st rs Q E q ex => wpAny_call (h T R s vs st rs Q E q ex)
section
variable {G : Gl} {c : Cx} {σ : List AO} {m : Nm} {K : PV → List AO → Prop} {X : List AO → Prop}
noncomputable def idxFrom : Nat → List Str → List (Str × Nat)
  | _, [] => []
  | k, x :: r => (x, k) :: idxFrom (k + 1) r
noncomputable def bindLA (kindOf : Str → Option NameKind) : Nm → Nm → Nm
  | [], m => m
  | (n, v) :: r, m => bindLA kindOf r (if kindOf n = some .local then (n, v) :: m else m)
noncomputable def bindCA (kindOf : Str → Option NameKind) : Nm → (Str → Option PV) → Str → Option PV
  | [], m => m
  | (n, v) :: r, m => bindCA kindOf r (if kindOf n = some .local then m else fun y => if y = n then some v else m y)
theorem bindL_nr {T μ} {kindOf : Str → Option NameKind} {names : List Str} : ∀ {vs : List Value} {l : List PV}, VRs T μ vs l → ∀ {mr am}, NR T μ mr am → NR T μ (bindL kindOf (names.zip vs) mr) (bindLA kindOf (names.zip l) am) := by
  induction names with
  | nil => exact fun _ _ _ h => h
  | cons x names ih =>
    intro vs l rs mr am h
    cases rs with
    | nil => exact h
    | cons r rs =>
      rw [List.zip_cons_cons, List.zip_cons_cons, bindL, bindLA]
      refine ih rs ?_
      split
      · exact h.cons r
      · exact h
theorem bindC_vr {T μ} {kindOf : Str → Option NameKind} {names : List Str} : ∀ {vs : List Value} {l : List PV}, VRs T μ vs l → ∀ {mr : Str → Option Value} {am : Str → Option PV}, (∀ x, VRo T μ (mr x) (am x)) → ∀ x, VRo T μ (bindC kindOf (names.zip vs) mr x) (bindCA kindOf (names.zip l) am x) := by
  induction names with
  | nil => exact fun _ _ _ h => h
  | cons x names ih =>
    intro vs l rs mr am h
    cases rs with
    | nil => exact h
    | cons r rs =>
      rw [List.zip_cons_cons, List.zip_cons_cons, bindC, bindCA]
      refine ih rs ?_
      split
      · exact h
      · intro y
        dsimp only
        by_cases hy : y = x
        · rw [if_pos hy, if_pos hy]; exact .some r
        · rw [if_neg hy, if_neg hy]; exact h y
theorem cellsFrom_above : ∀ (names : List (Str × NameKind)) (n : Nat) (acc : List (Str × Addr)) (lo : Nat), lo ≤ n → (∀ p ∈ acc, lo ≤ p.2) → ∀ p ∈ cellsFrom n names acc, lo ≤ p.2
  | [], _, _, _, _, h => h
  | (x, k) :: r, n, acc, lo, hl, h => by
    unfold cellsFrom
    split
    · exact cellsFrom_above r (n + 1) _ lo (by omega) fun p hp => (List.mem_cons.mp hp).elim (fun e => by rw [e]; exact hl) (h p)
    · exact cellsFrom_above r n acc lo hl h
theorem cellsFrom_nd : ∀ (names : List (Str × NameKind)) (n : Nat) (acc : List (Str × Addr)), (acc.map (·.2)).Nodup → (∀ p ∈ acc, p.2 < n) → ((cellsFrom n names acc).map (·.2)).Nodup
  | [], _, _, h, _ => h
  | (x, k) :: r, n, acc, h, hl => by
    unfold cellsFrom
    split
    · refine cellsFrom_nd r (n + 1) _ ?_ fun p hp => (List.mem_cons.mp hp).elim (fun e => by rw [e]; exact Nat.lt_succ_self _) fun hp => Nat.lt_succ_of_lt (hl p hp)
      rw [List.map_cons, List.nodup_cons]
      refine ⟨fun hm => ?_, h⟩
      obtain ⟨p, hp, e⟩ := List.mem_map.mp hm
      exact Nat.lt_irrefl _ (e ▸ hl p hp)
    · exact cellsFrom_nd r n acc h hl
theorem cellsAre_addr {cm : Str → Option Value} : ∀ {cs : List (Str × Addr)} {cells : Led}, CellsAre cm cs cells → cells.map (·.1) = cs.map (·.2) ∧ cells.length = cs.length ∧ (∀ (i : Nat) (x : Str) (c : Addr), cs[i]? = some (x, c) → ∃ o : Obj, cells[i]? = some (c, o) ∧ o.data = .cell (cm x))
  | _, _, .nil => ⟨rfl, rfl, fun i x c e => by simp at e⟩
  | _, _, .cons (n := n) (c := c) (o := o) h r => by
    obtain ⟨a, b, d⟩ := cellsAre_addr r
    refine ⟨by rw [List.map_cons, List.map_cons, a], by rw [List.length_cons, List.length_cons, b], fun i x c' e => ?_⟩
    cases i with
    | zero => simp only [List.getElem?_cons_zero, Option.some.injEq, Prod.mk.injEq] at e ⊢; obtain ⟨rfl, rfl⟩ := e; exact ⟨o, ⟨rfl, rfl⟩, h⟩
    | succ i => simp only [List.getElem?_cons_succ] at e ⊢; exact d i x c' e
theorem idx_look : ∀ {cns : List Str} {k : Nat} {x : Str} {n : Nat}, (idxFrom k cns).lookup x = some n → ∃ i, n = k + i ∧ cns[i]? = some x
  | [], _, _, _, e => by cases e
  | y :: r, k, x, n, e => by
    unfold idxFrom at e
    rw [List.lookup_cons] at e
    by_cases hxy : x = y
    · subst hxy
      simp only [beq_self_eq_true, Option.some.injEq] at e
      exact ⟨0, by omega, rfl⟩
    · rw [beq_eq_false_iff_ne.mpr hxy] at e
      obtain ⟨i, h1, h2⟩ := idx_look e
      exact ⟨i + 1, by omega, h2⟩
theorem Gr.more (T R cells : Led) : Gr T (μs R) T (μs (R ++ cells)) := ⟨fun _ h => h, by unfold μs; rw [List.map_append]; exact List.prefix_append _ _⟩
theorem enterSt {d : Cx} {T R cells : Led} {σ : List AO} {cls : List (Str × Addr)} {cns names : List Str} {kindOf : Str → Option NameKind} {vs : List Value} {as : List PV} {s : Shared}
    (hok : d.Ok) (F : Fr d.g d.L s.heap (bindL kindOf (names.zip vs) fun _ => none)) (N : News d.g d.L s.heap (T ++ (R ++ cells))) (nd : ((T ++ R).map (·.1)).Nodup) (len : R.length = σ.length)
    (objs : ∀ (n : Nat) (p : Addr × Obj) (ao : AO), R[n]? = some p → σ[n]? = some ao → OR T (μs R) p.2 ao) (sh : s = { d.s₀ with heap := s.heap, toks := s.toks })
    (hce : d.ce = idxFrom σ.length cns) (hec : d.env.cells = cls) (nso : NsOk d T (μs (R ++ cells))) (hcls : cls.map (·.1) = cns) (hnd : cns.Nodup) (hnc : (cls.map (·.2)).Nodup)
    (hlt : ∀ p ∈ T ++ R, ∀ y ∈ cls, p.1 < y.2) (Y : CellsAre (bindC kindOf (names.zip vs) fun _ => none) cls cells) (rs : VRs T (μs R) vs as) :
    St d T (R ++ cells) (σ ++ cns.map fun x => .cell (bindCA kindOf (names.zip as) (fun _ => none) x)) (bindLA kindOf (names.zip as) []) s := by
  obtain ⟨ca, cl, cg⟩ := cellsAre_addr Y
  have hcs : ∀ i x, cns[i]? = some x → ∃ a, cls[i]? = some (x, a) := fun i x e => by
    rw [← hcls, List.getElem?_map] at e
    obtain ⟨p, h1, h2⟩ := Option.map_eq_some_iff.mp e
    exact ⟨p.2, by rw [h1, ← h2]⟩
  have gC := Gr.more T R cells
  refine ⟨hok, ⟨_, F, (bindL_nr rs (fun x pv e => by cases e)).mono gC⟩, N, ?_, ?_, fun i p ao e1 e2 => ?_, sh, fun x k e => ?_, nso⟩
  · rw [← List.append_assoc, List.map_append, List.nodup_append]
    refine ⟨nd, by rw [ca]; exact hnc, fun a ha b hb' => ?_⟩
    rw [ca] at hb'
    obtain ⟨p, hp, rfl⟩ := List.mem_map.mp ha
    obtain ⟨y, hy, rfl⟩ := List.mem_map.mp hb'
    exact Nat.ne_of_lt (hlt p hp y hy)
  · rw [List.length_append, List.length_append, List.length_map, len, cl, ← hcls, List.length_map]
  · by_cases hi : i < R.length
    · rw [List.getElem?_append_left hi] at e1
      rw [List.getElem?_append_left (len ▸ hi)] at e2
      exact (objs i p ao e1 e2).mono gC
    · have hge := Nat.le_of_not_lt hi
      rw [List.getElem?_append_right hge] at e1
      rw [List.getElem?_append_right (len ▸ hge), List.getElem?_map, ← len] at e2
      obtain ⟨x, hx, rfl⟩ := Option.map_eq_some_iff.mp e2
      obtain ⟨a, ha⟩ := hcs _ x hx
      obtain ⟨o, h1, h2⟩ := cg _ x a ha
      rw [h1] at e1; cases e1
      exact .cell h2 ((bindC_vr rs (fun _ => .none) x).mono gC)
  · rw [hce] at e
    obtain ⟨i, rfl, hi⟩ := idx_look e
    obtain ⟨a, ha⟩ := hcs i x hi
    obtain ⟨o, h1, _⟩ := cg i x a ha
    refine ⟨a, by rw [hec]; exact lookup_of_mem_nodup (by rw [hcls]; exact hnd) (List.mem_of_getElem? ha), ?_⟩
    unfold μs
    rw [List.map_append, List.getElem?_append_right (by rw [List.length_map, len]; exact Nat.le_add_right _ _), List.length_map, len, Nat.add_sub_cancel_left, List.getElem?_map, h1]; rfl
noncomputable def WSb (c : Cx) (ss : List Stmt) (σ : List AO) (m : Nm) (Kn : Nm → List AO → Prop) (Kr : PV → List AO → Prop) (X : List AO → Prop) : Prop :=
  ∀ T R s, St c T R σ m s → ∀ (Q : Flow → Shared → Prop) (E : Value → Shared → Prop), (∀ m' T' R' σ' s', Gr T (μs R) T' (μs R') → St c T' R' σ' m' s' → Kn m' σ' → Q .next s') →
    (∀ v pv m' T' R' σ' s', Gr T (μs R) T' (μs R') → St c T' R' σ' m' s' → VR T' (μs R') v pv → Kr pv σ' → Q (.ret v) s') →
    (∀ e m' s' σ', ExcS c m' T (μs R) σ' e s' → X σ' → E e s') → PassesOwn (model c.prog c.w) c.A c.env E → wpAny (model c.prog c.w) c.A (execs ss c.env) Q E s
theorem WSb.of {c : Cx} {σ : List AO} {m : Nm} {Kn : Nm → List AO → Prop} {Kr : PV → List AO → Prop} {X : List AO → Prop} {ss : List Stmt} (h : WS c ss σ m Kn Kr X) : WSb c ss σ m Kn Kr X := fun T R s st Q E q1 q2 ex _ => h T R s st Q E q1 q2 ex
theorem inRoom {c : Cx} {g : Heap} {L' : Addr} {qual : Str} {scope : Scope} {f : Addr} {cdv : Value} {cl : List (Str × Addr)} {ci : List (Str × Nat)} {n : Nat} (room : Room c (n + 1)) : Room (c.inn g L' qual scope f cdv cl ci) n :=
  ⟨by have := room.d; show c.A.depth + 1 + n < 1000; omega, by have := room.u; show c.A.units + 3 + 10 * n < 9800; omega⟩
theorem inOk {c : Cx} (ok : c.Ok) {g : Heap} {L' : Addr} {qual : Str} {scope : Scope} {f : Addr} {cdv : Value} {cl : List (Str × Addr)} {ci : List (Str × Nat)} (B : Below c.A c.base (c.fenv :: c.outer) g) (stg : c.g.StaysIn g) (hk : scope.kind = .function) : (c.inn g L' qual scope f cdv cl ci).Ok :=
  ⟨B, ok.kin.keeps stg, ok.top.keeps stg, Around.frames_deeper B.stack, rfl, hk, ok.hh, rfl, rfl, hk, ok.kinB, ok.topB⟩
theorem WCo_defcb {f : Addr} {name qual : Str} {params : Arguments} {body : List Stmt} {scope : Scope} {dV kV doc pm cdv ct oc : Value} {an od : Option Addr} {osl : Array (Option Value)} {as : List PV} {names cns : List Str} {n : Nat}
    (std : c.Std G) (room : Room c (n + 1))
    (ho : ∀ P, (G.Kw P).lookup f = some ⟨oc, od, .func (fnOf name qual params body scope dV kV doc pm an cdv ct), osl⟩) (hcd : ∀ P, codeIn (G.Kw P) cdv qual = true)
    (hb : BindN (fnOf name qual params body scope dV kV doc pm an cdv ct) names names []) (hlen : names.length = as.length)
    (hkind : ∀ vs : List Value, vs.length = as.length → ((names.zip vs).all fun y => scope.names.lookup y.1 == some .local || scope.names.lookup y.1 == some .cell) = true)
    (hcns : ∀ k, (cellsFrom k scope.names []).map (·.1) = cns) (hnd : cns.Nodup) (hco : scope.isCoroutine = false) (hgen : scope.isGenerator = false) (hk : scope.kind = .function)
    (h : ∀ (P : Px), (G.at P ⟨qual, scope, f, cdv⟩ (cellsFrom (P.L + 1) scope.names []) (idxFrom σ.length cns)).Ok → Room (G.at P ⟨qual, scope, f, cdv⟩ (cellsFrom (P.L + 1) scope.names []) (idxFrom σ.length cns)) n →
      WSb (G.at P ⟨qual, scope, f, cdv⟩ (cellsFrom (P.L + 1) scope.names []) (idxFrom σ.length cns)) body (σ ++ cns.map fun x => .cell (bindCA (fun y => scope.names.lookup y) (names.zip as) (fun _ => none) x)) (bindLA (fun y => scope.names.lookup y) (names.zip as) []) (fun _ σ' => K .none σ') K X) :
    WCo c (.ref f) as σ m K X := by
  intro T R s vs st rs Q E q ex
  obtain ⟨mr, F, nr⟩ := st.fr
  have ok := st.ok
  refine (callX_cells (fo := ⟨oc, od, .func (fnOf name qual params body scope dV kV doc pm an cdv ct), osl⟩) (binds := names.zip vs) ok.below F st.news ok.top.nolimit ok.hA ok.hf ok.hk ((st.kin) _ _ (by rw [std.K]; exact ho _)) rfl (codeRec_of st.kin (by rw [std.K]; exact hcd _)) (by have := room.d; show c.A.depth < 1000; omega)
    (BindsTo.of_eq (by have := hb.all vs (by rw [rs.length, hlen]); simpa using this)) (kindsX (hkind vs (by rw [rs.length]))) (by rw [hcns]; exact hnd) (fun g L' h₁ tk cells FG F' N' Y B' stg hlt => ?_) hco hgen hk)
  have hw := h (c.px g L')
  change Cx.Ok (G.at (c.px g L') ⟨qual, scope, f, cdv⟩ (cellsFrom (L' + 1) scope.names []) (idxFrom σ.length cns)) → Room (G.at (c.px g L') ⟨qual, scope, f, cdv⟩ (cellsFrom (L' + 1) scope.names []) (idxFrom σ.length cns)) n → WSb (G.at (c.px g L') ⟨qual, scope, f, cdv⟩ (cellsFrom (L' + 1) scope.names []) (idxFrom σ.length cns)) _ _ _ _ _ _ at hw
  rw [std.at_eq g L' ⟨qual, scope, f, cdv⟩ (cellsFrom (L' + 1) scope.names []) (idxFrom σ.length cns)] at hw
  have gC := Gr.more T R cells
  have hok := inOk ok B' stg hk (L' := L') (cl := cellsFrom (L' + 1) scope.names []) (ci := idxFrom σ.length cns) (qual := qual) (f := f) (cdv := cdv)
  have hS := enterSt (s := { s with heap := h₁, toks := tk }) (names := names) (vs := vs) (as := as) (R := R) (T := T) (cells := cells) (σ := σ) hok F' (fun p hp => N' p (by
      rw [← List.append_assoc] at hp
      rcases List.mem_append.mp hp with hp | hp
      · exact List.mem_append_right _ hp
      · exact List.mem_append_left _ hp)) st.nd st.len st.objs (by show ({ s with heap := h₁, toks := tk } : Shared) = _; rw [st.sh]; rfl) rfl rfl ⟨fun p hp => gC.get (st.nso.1 p hp), rfl⟩ (hcns _) hnd (cellsFrom_nd _ _ _ (by simp) (by simp))
    (fun p hp y hy => Nat.lt_of_lt_of_le (hlt p hp) (Nat.le_trans (Nat.le_succ _) (cellsFrom_above scope.names (L' + 1) [] (L' + 1) (Nat.le_refl _) (by simp) y hy))) Y rs
  have fin : ∀ v pv m' T' R' σ' s', Gr T (μs (R ++ cells)) T' (μs R') → St (c.inn g L' qual scope f cdv (cellsFrom (L' + 1) scope.names []) (idxFrom σ.length cns)) T' R' σ' m' s' → VR T' (μs R') v pv → K pv σ' → LeaveK c.g c.L mr g (fun r s' => match r with | .ok (.ret v) => Q v s' | .ok _ => False | .error e => E e s') v s' := by
    intro v pv m' T' R' σ' s' gr S' r k
    obtain ⟨mr', F2, _⟩ := S'.fr
    have gr := gC.trans gr
    refine leaveK_ F2 S'.news fun F3 N3 => ?_
    exact q v pv T' R' σ' s' gr ⟨ok, ⟨mr, F3, nr.mono gr⟩, N3, S'.nd, S'.len, S'.objs, S'.sh, fun x k e => let ⟨a, h1, h2⟩ := st.cel x k e; ⟨a, h1, gr.get h2⟩, st.nso.mono gr⟩ r k
  refine hw hok (inRoom room) T (R ++ cells) _ hS (fun fl s' => LeaveK c.g c.L mr g (fun r s' => match r with | .ok (.ret v) => Q v s' | .ok _ => False | .error e => E e s') (match fl with | .ret v => v | _ => .none) s')
    (fun e s' => wpAny (model c.prog c.w) (c.A.deeper (envX qual scope L' f cdv (cellsFrom (L' + 1) scope.names []))) (leaving (envX qual scope L' f cdv (cellsFrom (L' + 1) scope.names [])) e) (fun _ s'' => E e s'') (fun e' s'' => E e' s'') s')
    (fun m' T' R' σ' s' gr S' k => fin .none .none m' T' R' σ' s' gr S' .none k) fin (fun e m' s' σ' hx hX => ?_) PassesOwn.leaving
  refine leaveW (c := c.inn g L' qual scope f cdv (cellsFrom (L' + 1) scope.names []) (idxFrom σ.length cns)) hx rfl rfl fun e1 T1 R1 h' he1 g1 S1 R2 U => ?_
  have g1 := gC.trans g1
  refine ex e _ σ' ⟨e1, T1, R1, mr, g, he1, g1, nr.mono g1, FG, ⟨ok, S1.nd, S1.len, S1.objs, fun x k e => let ⟨a, h1, h2⟩ := st.cel x k e; ⟨a, h1, g1.get h2⟩, st.nso.mono g1⟩, ?_, .inr ⟨U, R2⟩⟩ hX
  obtain ⟨e2, T2, R2', mr2, hh2, _, _, _, _, _, hs2, _⟩ := hx
  show ({ s' with heap := h' } : Shared) = _
  rw [hs2]; rfl
theorem WCo_defc {f : Addr} {name qual : Str} {params : Arguments} {body : List Stmt} {scope : Scope} {dV kV doc pm cdv ct oc : Value} {an od : Option Addr} {osl : Array (Option Value)} {as : List PV} {names cns : List Str} {n : Nat}
    (std : c.Std G) (room : Room c (n + 1))
    (ho : ∀ P, (G.Kw P).lookup f = some ⟨oc, od, .func (fnOf name qual params body scope dV kV doc pm an cdv ct), osl⟩) (hcd : ∀ P, codeIn (G.Kw P) cdv qual = true)
    (hb : BindN (fnOf name qual params body scope dV kV doc pm an cdv ct) names names []) (hlen : names.length = as.length)
    (hkind : ∀ vs : List Value, vs.length = as.length → ((names.zip vs).all fun y => scope.names.lookup y.1 == some .local || scope.names.lookup y.1 == some .cell) = true)
    (hcns : ∀ k, (cellsFrom k scope.names []).map (·.1) = cns) (hnd : cns.Nodup) (hco : scope.isCoroutine = false) (hgen : scope.isGenerator = false) (hk : scope.kind = .function)
    (h : ∀ (P : Px), (G.at P ⟨qual, scope, f, cdv⟩ (cellsFrom (P.L + 1) scope.names []) (idxFrom σ.length cns)).Ok → Room (G.at P ⟨qual, scope, f, cdv⟩ (cellsFrom (P.L + 1) scope.names []) (idxFrom σ.length cns)) n →
      WS (G.at P ⟨qual, scope, f, cdv⟩ (cellsFrom (P.L + 1) scope.names []) (idxFrom σ.length cns)) body (σ ++ cns.map fun x => .cell (bindCA (fun y => scope.names.lookup y) (names.zip as) (fun _ => none) x)) (bindLA (fun y => scope.names.lookup y) (names.zip as) []) (fun _ σ' => K .none σ') K X) :
    WCo c (.ref f) as σ m K X := by
  exact WCo_defcb std room ho hcd hb hlen hkind hcns hnd hco hgen hk fun P ok rm => WSb.of (h P ok rm)
theorem cellsFrom_none : ∀ (names : List (Str × NameKind)) (k : Nat) (acc : List (Str × Addr)), (∀ x ∈ names, x.2 ≠ .cell) → cellsFrom k names acc = acc
  | [], _, _, _ => rfl
  | (x, n) :: r, k, acc, h => by
    unfold cellsFrom
    rw [if_neg (fun e => h (x, n) (.head _) (beq_iff_eq.mp e))]
    exact cellsFrom_none r k acc fun y hy => h y (.tail _ hy)
theorem bindLA_local {kindOf : Str → Option NameKind} : ∀ (b m : Nm), (∀ y ∈ b, kindOf y.1 = some .local) → bindLA kindOf b m = b.reverse ++ m
  | [], _, _ => rfl
  | (x, v) :: r, m, h => by
    rw [bindLA, if_pos (h _ (.head _)), bindLA_local r _ fun y hy => h y (.tail _ hy), List.reverse_cons, List.append_assoc]
    rfl
theorem WCo_def {f : Addr} {name qual : Str} {params : Arguments} {body : List Stmt} {scope : Scope} {dV kV doc pm cdv ct oc : Value} {an od : Option Addr} {osl : Array (Option Value)} {as : List PV} {names : List Str} {n : Nat}
    (std : c.Std G) (room : Room c (n + 1))
    (ho : ∀ P, (G.Kw P).lookup f = some ⟨oc, od, .func (fnOf name qual params body scope dV kV doc pm an cdv ct), osl⟩) (hcd : ∀ P, codeIn (G.Kw P) cdv qual = true)
    (hb : BindN (fnOf name qual params body scope dV kV doc pm an cdv ct) names names []) (hlen : names.length = as.length)
    (hloc : (names.all fun y => scope.names.lookup y == some .local) = true)
    (hcell : ∀ x ∈ scope.names, x.2 ≠ .cell) (hco : scope.isCoroutine = false) (hgen : scope.isGenerator = false) (hk : scope.kind = .function)
    (h : ∀ P : Px, (G.at P ⟨qual, scope, f, cdv⟩ [] []).Ok → Room (G.at P ⟨qual, scope, f, cdv⟩ [] []) n →
      WS (G.at P ⟨qual, scope, f, cdv⟩ [] []) body σ (names.zip as).reverse (fun _ σ' => K .none σ') K X) :
    WCo c (.ref f) as σ m K X := by
  have hc0 : ∀ k, cellsFrom k scope.names [] = [] := fun k => cellsFrom_none _ _ _ hcell
  have hl : ∀ y ∈ names, scope.names.lookup y = some .local := fun y hy => beq_iff_eq.mp (List.all_eq_true.mp hloc y hy)
  refine WCo_defc (cns := []) std room ho hcd hb hlen (fun vs _ => List.all_eq_true.mpr fun y hy => by rw [hl _ (List.of_mem_zip hy).1]; rfl) (fun k => by rw [hc0]; rfl) List.nodup_nil hco hgen hk fun P => ?_
  rw [hc0, bindLA_local _ _ fun y hy => hl _ (List.of_mem_zip hy).1, List.map_nil, List.append_nil, List.append_nil]
  exact h P
noncomputable def Cx.und (c : Cx) (k : Code) : Cx := { c with A := c.A.under k }
theorem WC_new {C fI : Addr} {as : List PV} {n : Nat} (std : c.Std G) (room : Room c (n + 1)) (hm : ∀ P, makesIn (G.Kw P) C = true) (hi : ∀ P, findIn (G.Kw P) (.ref C) "__init__" = some (some (.ref fI))) (hf : ∀ P, typeIn (G.Kw P) (.ref fI) = some (.type "function"))
    (h : ∀ c' : Cx, c'.Std G → Room c' n → WCo c' (.ref fI) (.loc (σ.length + 1) :: as) (σ ++ [.dict [], .inst C σ.length]) m (fun v σ' => v = .none ∧ K (.loc (σ.length + 1)) σ') X) : WC c (.ref C) as σ m K X := by
  intro T R s vs st rs Q E q ex
  obtain ⟨mr, F, nr⟩ := st.fr
  refine wpAny_call (make_K F st.news st.kin (by rw [std.K]; exact hm _) (by rw [std.K]; exact hi _) (by rw [std.K]; exact hf _) fun x dx h' F' N' hlt hdx => ?_)
  have ok := st.ok
  have ok' : (c.und (.builtin "type.__call__" ⟨.ref C :: vs, []⟩)).Ok := ⟨ok.below, ok.kin, ok.top, ok.hA, ok.hf, ok.hk, ok.hh, ok.glob, ok.bl, ok.ek, ok.kinB, ok.topB⟩
  have s1 : St c T R σ m { s with heap := h' } := ⟨ok, ⟨mr, F', nr⟩, fun p hp => N' p (.tail _ (.tail _ hp)), st.nd, st.len, st.objs, by rw [st.sh], st.cel, st.nso⟩
  have hx := N' (x, instObj C dx) (.head _)
  have hd := N' (dx, emptyDict) (.tail _ (.head _))
  have nid : dx ∉ (T ++ R).map (·.1) := fun hm' => by
    obtain ⟨p, hp, e⟩ := List.mem_map.mp hm'
    exact Nat.ne_of_lt (hlt p hp) e
  obtain ⟨s2, g2, μ2⟩ := s1.addR' (a := dx) (o := emptyDict) (ao := .dict []) ⟨nid, hd.2⟩ hd.1 (OR.dict (n := 0) .nil)
  have nix : x ∉ (T ++ (R ++ [(dx, emptyDict)])).map (·.1) := fun hm' => by
    rw [← List.append_assoc] at hm'
    obtain ⟨p, hp, e⟩ := List.mem_map.mp hm'
    rcases List.mem_append.mp hp with hp | hp
    · have := hlt p hp
      exact Nat.ne_of_lt (Nat.lt_trans this hdx) e
    · rw [List.mem_singleton.mp hp] at e
      exact Nat.ne_of_lt hdx e
  obtain ⟨s3, g3, μ3⟩ := s2.addR' (a := x) (o := instObj C dx) (ao := .inst C σ.length) ⟨nix, hx.2⟩ hx.1 (OR.inst (by
    obtain ⟨o, ho⟩ := μs_get.mp μ2
    rw [μs, List.map_append, List.getElem?_append_left (by rw [List.length_map]; exact (List.getElem?_eq_some_iff.mp ho).1)]
    exact μ2))
  rw [List.length_append, List.length_singleton] at μ3
  have hσ : σ ++ [AO.dict []] ++ [AO.inst C σ.length] = σ ++ [AO.dict [], AO.inst C σ.length] := List.append_assoc ..
  rw [hσ] at s3
  have s4 : St (c.und (.builtin "type.__call__" ⟨.ref C :: vs, []⟩)) T (R ++ [(dx, emptyDict)] ++ [(x, instObj C dx)]) (σ ++ [.dict [], .inst C σ.length]) m { s with heap := h' } := ⟨ok', s3.fr, s3.news, s3.nd, s3.len, s3.objs, s3.sh, s3.cel, s3.nso⟩
  have g4 := g2.trans g3
  have std' : (c.und (.builtin "type.__call__" ⟨.ref C :: vs, []⟩)).Std G := ⟨std.prog, std.K, std.p, std.loose, std.xc⟩
  have room' : Room (c.und (.builtin "type.__call__" ⟨.ref C :: vs, []⟩)) n := ⟨by have := room.d; show c.A.depth + 1 + n < 1000; omega, by have := room.u; show c.A.units + 1 + 10 * n < 9800; omega⟩
  refine codeAny_mono (h _ std' room' T _ _ (.ref x :: vs) s4 (.cons (.loc μ3) (VRs.mono g4 rs)) (fun v s' => v = .none ∧ Q (.ref x) s') E ?_ ?_) fun r s' z => ?_
  · rintro v pv T' R' σ' s' gr S' r ⟨rfl, k⟩
    (first | (replace r := r.inv; obtain rfl := r) | (replace r := r.inv; obtain ⟨_, rfl⟩ := r) | cases r)
    exact ⟨rfl, q _ _ T' R' σ' s' (g4.trans gr) ⟨ok, S'.fr, S'.news, S'.nd, S'.len, S'.objs, S'.sh, S'.cel, S'.nso⟩ (.loc (gr.get μ3)) k⟩
  · rintro e s' σ' hx' hX
    refine ex e s' σ' ?_ hX
    obtain ⟨e', T', R', mr', hh, a1, a2, a3, a4, a5, a6, a7⟩ := hx'
    exact ⟨e', T', R', mr', hh, a1, g4.trans a2, a3, a4, ⟨ok, a5.nd, a5.len, a5.objs, a5.cel, a5.nso⟩, a6, a7⟩
  · rcases r with e | (v | _ | _ | _) <;> first | exact z | exact z.elim
end
end Nv
end
section
open PySem PySem.W PySem.Calls PyProof.Rows PyProof.V PySem.Spec
namespace Nv
noncomputable def WTg (c : Cx) (t : Expr) (pv : PV) (σ : List AO) (m : Nm) (Kn : Nm → List AO → Prop) : Prop :=
  ∀ T R s v, St c T R σ m s → VR T (μs R) v pv → ∀ (Q : Unit → Shared → Prop) (E : Value → Shared → Prop), (∀ m' R' σ' s', Gr T (μs R) T (μs R') → St c T R' σ' m' s' → Kn m' σ' → Q () s') → wpAny (model c.prog c.w) c.A (assign t c.env v) Q E s
noncomputable def WI (c : Cx) (v : PV) (t : Expr) (body : List Stmt) (σ : List AO) (m : Nm) (Kn : Nm → List AO → Prop) (Kr : PV → List AO → Prop) : Prop :=
  ∀ T R s val, St c T R σ m s → VR T (μs R) val v → ∀ (Q : Flow → Shared → Prop) (E E₂ : Value → Shared → Prop), (∀ m' T' R' σ' s', Gr T (μs R) T' (μs R') → St c T' R' σ' m' s' → Kn m' σ' → Q .next s') →
    (∀ v pv m' T' R' σ' s', Gr T (μs R) T' (μs R') → St c T' R' σ' m' s' → VR T' (μs R') v pv → Kr pv σ' → Q (.ret v) s') →
    wpAny (model c.prog c.w) c.A (pyIter val) (fun it s₂ => codeAny (model c.prog c.w) c.A (.forLoop t it body [] c.env) (fun r s' => match r with | .ok f => Q f s' | .error e => E₂ e s') s₂) E s
section
variable {c : Cx} {σ : List AO} {m : Nm} {K : PV → List AO → Prop} {Kn : Nm → List AO → Prop} {Kr : PV → List AO → Prop} {X : List AO → Prop}
theorem WTg_name {x : Str} {p pv} (h : WN c x pv σ m Kn) : WTg c (.Name x p) pv σ m Kn := fun T R s v st r Q E q => PyProof.Rows.assign_Name (h T R s v st r Q E q)
theorem WTg_tup {elts : List Expr} {k p} {l : List PV} (hl : l.length = elts.length) (h : WA c elts l σ m Kn) (hlen : (assignEach elts c.env).length = elts.length := by rfl) (hstar : (assignEach elts c.env).findIdx? (·.1) = none := by rfl) : WTg c (.Tuple elts k p) (.tup l) σ m Kn := by
  intro T R s v st r Q E q
  replace r := r.inv; obtain ⟨_, _, _, rfl, hm, hr⟩ := r
  refine assign_Tuple_tuple st.ok.hh (tupIs st hm) (by rw [hlen, ← hl, List.size_toArray, hr.length]) hstar fun h' he => ?_
  exact h T R _ _ (st.extBut he) hr Q E q
theorem letOwned_any {M : Model} {A : Around} {E : Value → Shared → Prop} {s : Shared} {target : Expr} {I : Addr} {o : Obj} {n : String} {v : Value} {Q : Unit → Shared → Prop} (ho : s.heap.get? I = some o) (hc : o.cls = .type n)
    (hn : ["enumerate", "zip", "dict_itemiterator", "dict_reverseitemiterator", "odict_iterator", "itertools.zip_longest", "itertools.pairwise"].contains n = false) (hQ : Q () s) : wpAny M A (letOwnedTupleGo target (.ref I) v) Q E s := by
  unfold letOwnedTupleGo
  have body : wpAny M A (do
      let (.ref r, .ref a) := (Value.ref I, v) | return
      let o ← load r
      match o.cls, o.data with
      | .type n, .fields vs =>
        if ["enumerate", "zip", "dict_itemiterator", "dict_reverseitemiterator", "odict_iterator", "itertools.zip_longest", "itertools.pairwise"].contains n && vs[0]? == some (rawInt a) then
          rule "for.unpacks-the-owned-tuple"
          updateField r 0 .none
      | _, _ => pure ()) Q E s := by
    cases v <;> first
      | exact wpAny_pure hQ
      | (refine wpAny_bind (wpAny_load ho ?_)
         rw [hc]
         cases o.data <;> first | exact wpAny_pure hQ | (dsimp only; rw [hn]; exact wpAny_pure hQ))
  cases target <;> first | exact wpAny_pure hQ | exact body
theorem letOwned_list {M : Model} {A : Around} {E : Value → Shared → Prop} {s : Shared} {target : Expr} {I l : Addr} {i : Nat} {v : Value} {Q : Unit → Shared → Prop} (hit : s.heap.IsListIter I l i) (hQ : Q () s) : wpAny M A (letOwnedTupleGo target (.ref I) v) Q E s :=
  let ⟨_, ho, hc, _⟩ := hit; letOwned_any ho hc (by decide) hQ
theorem letOwned_range {M : Model} {A : Around} {E : Value → Shared → Prop} {s : Shared} {target : Expr} {I : Addr} {x y z : Int} {v : Value} {Q : Unit → Shared → Prop} (hit : IsRangeIter s.heap I x y z) (hQ : Q () s) : wpAny M A (letOwnedTupleGo target (.ref I) v) Q E s :=
  letOwned_any (show s.heap.get? I = some _ from hit) rfl (by decide) hQ
theorem Gr.cons {T μ} {p : Addr × Obj} : Gr T μ (p :: T) μ := ⟨fun q hq => List.mem_cons_of_mem _ hq, List.prefix_refl _⟩
theorem Gr.dropOf {T₀ μ₀ T μ} {I : Addr} (g : Gr T₀ μ₀ T μ) (h : I ∉ T₀.map (·.1)) : Gr T₀ μ₀ (T.filter (·.1 ≠ I)) μ :=
  ⟨fun p hp => List.mem_filter.mpr ⟨g.t p hp, by
    have : p.1 ≠ I := fun e => h (e ▸ List.mem_map_of_mem (f := (·.1)) hp)
    simpa using this⟩, g.m⟩
end
structure Iter (c : Cx) (T₀ : Led) (μ₀ : List Addr) (It : Addr) (n : Nat) (item : Nat → PV) (Src : List AO → Prop) (IsAt : Nat → Heap → Prop) : Prop where
  next : ∀ i T R σ m s (Q : Option Value → Shared → Prop) (E : Value → Shared → Prop), i < n → St c T R σ m s → Gr T₀ μ₀ T (μs R) → Src σ → IsAt i s.heap →
    (∀ v h' tk, VR T (μs R) v (item i) → IsAt (i + 1) h' → (∀ b, b ≠ It → h'.get? b = s.heap.get? b) → Q (some v) { s with heap := h', toks := tk }) → wpAny (model c.prog c.w) c.A (pyNext (.ref It)) Q E s
  done : ∀ T R σ m s (Q : Option Value → Shared → Prop) (E : Value → Shared → Prop), St c T R σ m s → Gr T₀ μ₀ T (μs R) → Src σ → IsAt n s.heap →
    (∀ h', Heap.ExtBut It s.heap h' → Q none { s with heap := h' }) → wpAny (model c.prog c.w) c.A (pyNext (.ref It)) Q E s
  owned : ∀ i s target v (Q : Unit → Shared → Prop) (E : Value → Shared → Prop), IsAt i s.heap → Q () s → wpAny (model c.prog c.w) c.A (letOwnedTupleGo target (.ref It) v) Q E s
  at_ : ∀ i h h', IsAt i h → h'.get? It = h.get? It → IsAt i h'
  obj : ∀ i h, IsAt i h → ∃ o, h.get? It = some o ∧ volatile o = true
  self : ∀ i s (Q : Value → Shared → Prop) (E : Value → Shared → Prop), IsAt i s.heap → Q (.ref It) s → wpAny (model c.prog c.w) c.A (pyIter (.ref It)) Q E s
theorem iter_list {c : Cx} {T R : Led} (hh : c.A.handled = none) {k : Nat} {l : List PV} {ax It : Addr} (ha : (μs R)[k]? = some ax) :
    Iter c T (μs R) It l.length (fun i => l.getD i .none) (fun σ' => σ'[k]? = some (.list l)) (fun i h => h.IsListIter It ax i) where
  next := by
    intro i T' R' σ' m' s' Q E hi S g hs hat q
    obtain ⟨o, b1, b2, b3⟩ := S.at hs (g.get ha)
    cases b3 with
    | list hvs =>
      have hx : l[i]? = some l[i] := List.getElem?_eq_getElem hi
      obtain ⟨v, hv1, hv2⟩ := hvs.get hx
      refine wpAny_pyNext_list_item hat ⟨_, b2, rfl, _, rfl⟩ (x := v) (by simpa using hv1) fun h' hit2 hs2 => q v h' _ ?_ hit2 (fun b hb => hs2.2 b hb)
      show VR _ _ v (l.getD i .none)
      rw [List.getD_eq_getElem?_getD, hx]; exact hv2
  done := by
    intro T' R' σ' m' s' Q E S g hs hat q
    obtain ⟨o, b1, b2, b3⟩ := S.at hs (g.get ha)
    cases b3 with
    | list hvs =>
      refine wpAny_pyNext_list_end hh hat ⟨_, b2, rfl, _, rfl⟩ ?_ q
      have := hvs.length
      simp [this]
  owned := fun i s target v Q E hat q => letOwned_list hat q
  at_ := fun i h h' ⟨o, ho, r⟩ e => ⟨o, e.trans ho, r⟩
  obj := fun i h ⟨o, ho, hc, hd⟩ => ⟨o, ho, by unfold volatile hasQual; rw [hc, hd]; rfl⟩
  self := fun i s Q E hat q => wpAny_pyIter_listiter hat q
theorem iter_range {c : Cx} {T : Led} {μ : List Addr} (hh : c.A.handled = none) {a : Int} {n : Nat} {It : Addr} :
    Iter c T μ It n (fun i => .int (a + i)) (fun _ => True) (fun i h => IsRangeIter h It (a + (i : Nat)) ((n : Int) - (i : Nat)) 1) where
  next := by
    intro i T' R' σ' m' s' Q E hi S g hs hat q
    refine wpAny_pyNext_range_item hat (by omega) fun h' hit2 hs2 => q _ h' _ (.int _ _) ?_ (fun b hb => hs2.2 b hb)
    show Heap.get? _ It = _
    rw [show a + ((i + 1 : Nat) : Int) = a + (i : Nat) + 1 by omega, show (n : Int) - ((i + 1 : Nat) : Int) = n - (i : Nat) - 1 by omega]
    exact hit2
  done := fun T' R' σ' m' s' Q E S g hs hat q => wpAny_pyNext_range_end hh hat (by omega) q
  owned := fun i s target v Q E hat q => letOwned_range hat q
  at_ := fun i h h' hat e => e.trans hat
  obj := fun i h hat => ⟨_, hat, rfl⟩
  self := fun i s Q E hat q => wpAny_pyIter_rangeiter hat q
noncomputable abbrev jFor (c : Cx) (t : Expr) (body : List Stmt) (m : List (Str × PV)) (Kn : Nm → List AO → Prop) (Kr : PV → List AO → Prop) (v : PV) (σ : List AO) : Prop := WI c v t body σ m Kn Kr
section
variable {c : Cx} {σ : List AO} {m : Nm} {K : PV → List AO → Prop} {Kn : Nm → List AO → Prop} {Kr : PV → List AO → Prop} {X : List AO → Prop}
theorem St.off {c T R σ m s} (st : St c T R σ m s) {h' : Heap} {tk : Nat} {a : Addr} (hf : a ∉ (T ++ R).map (·.1) ∧ a ≠ c.L ∧ c.g.get? a = none) (hk : ∀ b o, b ≠ a → s.heap.get? b = some o → h'.get? b = some o) : St c T R σ m { s with heap := h', toks := tk } := by
  have hne : ∀ p ∈ T ++ R, p.1 ≠ a := fun p hp e => hf.1 (by have h9 : p.1 ∈ _ := List.mem_map_of_mem (f := (·.1)) hp; rw [e] at h9; exact h9)
  obtain ⟨mr, F, nr⟩ := st.fr
  refine ⟨st.ok, ⟨mr, ⟨F.ns.at' fun o e => hk _ o (Ne.symm hf.2.1) e, fun b ob e => hk b ob (fun z => by rw [z, hf.2.2] at e; cases e) (F.keep b ob e), F.above⟩, nr⟩, fun p hp => ⟨hk _ _ (hne p hp) (st.news p hp).1, (st.news p hp).2⟩, st.nd, st.len, st.objs, ?_, st.cel, st.nso⟩
  show ({ s with heap := h', toks := tk } : Shared) = _
  rw [st.sh]
inductive CEs (c : Cx) : List (Str × Addr) → List (Str × Nat) → Prop
  | nil : CEs c [] []
  | cons {x : Str} {a : Addr} {n : Nat} {cl ce} : c.ce.lookup x = some n → c.env.cells.lookup x = some a → CEs c cl ce → CEs c ((x, a) :: cl) ((x, n) :: ce)
inductive LInv (c : Cx) (T R : Led) (It : Addr) (n : Nat) (IsAt : Nat → Heap → Prop) (I : Nat → Nm → List AO → Prop) (k : Nat) (s' : Shared) : Prop
  | mk (i : Nat) (m' : Nm) (σ' : List AO) (T' R' : Led) (oI : Obj) (hk : k = n + 1 - i) (hi : i ≤ n) (S : St c T' R' σ' m' s') (g : Gr T (μs R) T' (μs R')) (hm : (It, oI) ∈ T') (hv : volatile oI = true) (hat : IsAt i s'.heap) (hI : I i m' σ')
theorem WI_iter {T R : Led} {s : Shared} {It : Addr} {oI : Obj} {n : Nat} {item : Nat → PV} {Src : List AO → Prop} {IsAt : Nat → Heap → Prop} {t : Expr} {body : List Stmt} {Q : Flow → Shared → Prop} {E₂ : Value → Shared → Prop}
    (hns : c.ns = none) (hTI : It ∉ T.map (·.1)) (S1 : St c ((It, oI) :: T) R σ m s) (hv : volatile oI = true) (itr : Iter c T (μs R) It n item Src IsAt) (hat : IsAt 0 s.heap) (I : Nat → Nm → List AO → Prop) (h0 : I 0 m σ) (hsrc : ∀ i m' σ', I i m' σ' → Src σ')
    (hstep : ∀ (i : Nat) m' σ', i < n → I i m' σ' → WTg c t (item i) σ' m' (fun m'' σ'' => WS c body σ'' m'' (fun m3 σ3 => I (i + 1) m3 σ3) Kr (fun _ => False)))
    (hend : ∀ m' σ', I n m' σ' → Kn m' σ') (q1 : ∀ m' T' R' σ' s', Gr T (μs R) T' (μs R') → St c T' R' σ' m' s' → Kn m' σ' → Q .next s')
    (q2 : ∀ v pv m' T' R' σ' s', Gr T (μs R) T' (μs R') → St c T' R' σ' m' s' → VR T' (μs R') v pv → Kr pv σ' → Q (.ret v) s') :
    codeAny (model c.prog c.w) c.A (.forLoop t (.ref It) body [] c.env) (fun r s' => match r with | .ok f => Q f s' | .error e => E₂ e s') s := by
  refine codeAny_forLoop_any (LInv c T R It n IsAt I) ?_ (n + 1) ⟨0, m, σ, _, R, _, rfl, Nat.zero_le _, S1, Gr.cons, .head _, hv, hat, h0⟩
  rintro k s' ⟨i, m', σ', T', R', oJ, rfl, hi, S', g', hm', hv', hat', hI⟩
  obtain ⟨S2, hfr, hoI⟩ := S'.drop hns hm' hv'
  have g2 := g'.dropOf hTI
  by_cases hlt : i < n
  · refine itr.next i _ R' σ' m' s' _ _ hlt S2 g2 (hsrc _ _ _ hI) hat' fun v h' tk' hv hat2 hk2 => ?_
    obtain ⟨o3, c1, c3⟩ := itr.obj _ _ hat2
    have S3 := S2.addT' (tk := tk') (h' := h') (o := o3) (fun b o hb e => by rw [hk2 b hb]; exact e) hfr c1
    refine itr.owned _ { s' with heap := h', toks := tk' } _ _ _ _ hat2 ?_
    refine hstep i m' σ' hlt hI _ R' _ v S3 (hv.mono Gr.cons) _ _ fun m4 R4 σ4 s4 g4 S4 k4 => ?_
    refine k4 _ R4 s4 S4 _ _ (fun m5 T5 R5 σ5 s5 g5 S5 k5 => ⟨n + 1 - (i + 1), by omega, i + 1, m5, σ5, T5, R5, o3, rfl, hlt, S5, (g2.trans Gr.cons).trans (g4.trans g5), g5.t _ (g4.t _ (.head _)), c3, ?_, k5⟩)
      (fun v' pv' m5 T5 R5 σ5 s5 g5 S5 r5 k5 => q2 v' pv' m5 T5 R5 σ5 s5 ((g2.trans Gr.cons).trans (g4.trans g5)) S5 r5 k5) (fun e m5 s5 σ5 hx hX => hX.elim)
    exact itr.at_ _ _ _ hat2 ((S5.tupGet (g5.t _ (g4.t _ (.head _)))).trans c1.symm)
  · obtain rfl : i = n := Nat.le_antisymm hi (Nat.le_of_not_lt hlt)
    refine itr.done _ R' σ' m' s' _ _ S2 g2 (hsrc _ _ _ hI) hat' fun h' he => ?_
    exact wpAny_execs_nil (q1 m' _ R' σ' _ g2 (S2.off (tk := s'.toks) hfr fun b o hb e => he b o hb e) (hend m' σ' hI))
theorem WI_list {t : Expr} {body : List Stmt} {n : Nat} {l : List PV} (hns : c.ns = none) (I : Nat → Nm → List AO → Prop) (h0 : I 0 m σ) (hkeep : ∀ i m' σ', I i m' σ' → σ'[n]? = some (.list l))
    (hstep : ∀ i x m' σ', l[i]? = some x → I i m' σ' → WTg c t x σ' m' (fun m'' σ'' => WS c body σ'' m'' (fun m3 σ3 => I (i + 1) m3 σ3) Kr (fun _ => False)))
    (hend : ∀ m' σ', I l.length m' σ' → Kn m' σ') : WI c (.loc n) t body σ m Kn Kr := by
  intro T R s val st r Q E E₂ q1 q2
  replace r := r.inv; obtain ⟨_, rfl, ha⟩ := r
  rename_i ax
  obtain ⟨o, a1, a2, a3⟩ := st.at (hkeep 0 m σ h0) ha
  replace a3 := a3.inv; obtain ⟨_, _, rfl, hvs⟩ := a3
  refine wpAny_pyIter_list ⟨_, a2, rfl, _, rfl⟩ ?_
  have hfresh := st.freshL (none_of_size s.heap)
  have S1 := st.addT (tk := s.toks) (o := { cls := .type "list_iterator", data := .fields #[.ref ax, .int 0 0] }) (fun b o e => Heap.get?_push_of_some _ e) (none_of_size s.heap) (Heap.get?_push_size _ rfl)
  refine WI_iter hns (fun hx => hfresh.1 (by rw [List.map_append]; exact List.mem_append_left _ hx)) S1 rfl (iter_list st.ok.hh ha) ⟨_, Heap.get?_push_at rfl rfl, rfl, rfl⟩ I h0 hkeep (fun i m' σ' hi hI => ?_) hend q1 q2
  have hx : l[i]? = some l[i] := List.getElem?_eq_getElem hi
  rw [List.getD_eq_getElem?_getD, hx]
  exact hstep i _ m' σ' hx hI
theorem WI_range {t : Expr} {body : List Stmt} {a b : Int} {n : Nat} (hn : b - a = n ∨ (n = 0 ∧ b ≤ a)) (ha : a.natAbs < 2 ^ 40) (hb : b.natAbs < 2 ^ 40) (hns : c.ns = none) (I : Nat → Nm → List AO → Prop) (h0 : I 0 m σ)
    (hstep : ∀ (i : Nat) m' σ', i < n → I i m' σ' → WTg c t (.int (a + i)) σ' m' (fun m'' σ'' => WS c body σ'' m'' (fun m3 σ3 => I (i + 1) m3 σ3) Kr (fun _ => False)))
    (hend : ∀ m' σ', I n m' σ' → Kn m' σ') : WI c (.rng a b) t body σ m Kn Kr := by
  intro T R s val st r Q E E₂ q1 q2
  replace r := r.inv; obtain ⟨_, _, _, _, rfl, hm⟩ := r
  rename_i rr t0 u0 v0
  have hsize : Builtin.Range.rangeSize a b 1 = (n : Int) := by rw [rangeSize_nat]; omega
  have hsmall : Builtin.Range.small a b 1 = true := small_one (by omega) (by omega) (by omega) (by omega)
  refine wpAny_pyIter_range (st.tupGet hm) hsmall ?_
  rw [hsize]
  have hfresh := st.freshL (none_of_size s.heap)
  have S1 := st.addT (tk := s.toks) (o := { cls := .type "range_iterator", data := .fields #[rawInt a, rawInt n, rawInt 1] }) (fun b o e => Heap.get?_push_of_some _ e) (none_of_size s.heap) (Heap.get?_push_size _ rfl)
  exact WI_iter hns (fun hx => hfresh.1 (by rw [List.map_append]; exact List.mem_append_left _ hx)) S1 rfl (iter_range (n := n) st.ok.hh) (by
    show Heap.get? _ _ = _
    simpa using Heap.get?_push_at (h := s.heap) (o := { cls := .type "range_iterator", data := .fields #[rawInt a, rawInt n, rawInt 1] }) rfl rfl) I h0 (fun _ _ _ _ => trivial) hstep hend q1 q2
theorem WS1_for {t iter : Expr} {body : List Stmt} {pos} (h : WE c iter σ m (jFor c t body m Kn Kr) X) (hs : ∀ env x, foldedSetIterable iter env x = pure x := by intro _ _; rfl) : WS1 c (.For t iter body [] pos) σ m Kn Kr X := by
  intro T R s st Q E q1 q2 ex
  refine wpAny_For (hs := hs _) (h T R s st _ _ (fun v pv T1 R1 σ1 s1 g1 S1 r k => ?_) (fun e' s' σ' hx hX => ex e' m s' σ' hx hX))
  exact k T1 R1 s1 v S1 r Q E _ (fun m' T' R' σ' s' g S' k' => q1 m' T' R' σ' s' (g1.trans g) S' k') (fun v pv m' T' R' σ' s' g S' r k => q2 v pv m' T' R' σ' s' (g1.trans g) S' r k)
end
end Nv
end
section
open PySem PySem.W PySem.Calls PyProof.Rows PyProof.V PySem.Spec
namespace Nv
theorem letOwned_tup {M : Model} {A : Around} {E : Value → Shared → Prop} {s : Shared} {target : Expr} {I l : Addr} {i : Nat} {v : Value} {Q : Unit → Shared → Prop} (hit : IsTupIter s.heap I l i) (hQ : Q () s) : wpAny M A (letOwnedTupleGo target (.ref I) v) Q E s :=
  let ⟨_, ho, hc, _⟩ := hit; letOwned_any ho hc (by decide) hQ
theorem iter_tup {c : Cx} {T : Led} {μ : List Addr} (hh : c.A.handled = none) {l : List PV} {vs : List Value} {a It : Addr} {k : Nat} (hm : (a, tupOf vs k) ∈ T) (hr : VRs T μ vs l) :
    Iter c T μ It l.length (fun i => l.getD i .none) (fun _ => True) (fun i h => IsTupIter h It a i) where
  next := by
    intro i T' R' σ' m' s' Q E hi S g hs hat q
    have hx : l[i]? = some l[i] := List.getElem?_eq_getElem hi
    obtain ⟨v, hv1, hv2⟩ := (hr.mono g).get hx
    refine next_tuple_item hat (tupIs S (g.t _ hm)) (x := v) (by simpa using hv1) fun h' hit2 hs2 => q v h' _ ?_ hit2 (fun b hb => hs2.2 b hb)
    show VR _ _ v (l.getD i .none)
    rw [List.getD_eq_getElem?_getD, hx]; exact hv2
  done := by
    intro T' R' σ' m' s' Q E S g hs hat q
    refine next_tuple_end hh hat (tupIs S (g.t _ hm)) ?_ q
    have := hr.length
    simp [this]
  owned := fun i s target v Q E hat q => letOwned_tup hat q
  at_ := fun i h h' ⟨o, ho, r⟩ e => ⟨o, e.trans ho, r⟩
  obj := fun i h ⟨o, ho, hc, hd⟩ => ⟨o, ho, by unfold volatile hasQual; rw [hc, hd]; rfl⟩
  self := fun i s Q E hat q => wpAny_pyIter_tupleiter (t := a) (i := i) hat q
section
variable {prog : Program} {w : World} {A : Around} {E : Value → Shared → Prop} {R : Result → Shared → Prop} {s : Shared}
theorem codeAny_compLoop_own {elt target iter : Expr} {ifs : List Expr} {scope : Scope} {pos : Pos} {it acc : Value} {env : Env} (I : Nat → Shared → Prop)
    (turn : ∀ n s, I n s → wpAny (model prog w) A (pyNext it) (fun r s₁ => match r with
      | none => R (.ok .next) s₁
      | some v => wpAny (model prog w) A (letOwnedTupleGo target it v) (fun _ s₁' => wpAny (model prog w) A (assign target env v) (fun _ s₂ =>
          wpAny (model prog w) A (forIn ifs true fun c r => if r = true then do let ok ← isTrue c env (eval c env); pure (ForInStep.yield ok) else pure (ForInStep.yield r)) (fun ok s₃ =>
            if ok = true then wpAny (model prog w) A (eval elt env) (fun x s₄ =>
              wpAny (model prog w) A (call (.builtin "list.append") [acc, x]) (fun _ s₅ => ∃ m, m < n ∧ I m s₅) (notedBy (model prog w) A env fun e s' => R (.error e) s') s₄) (notedBy (model prog w) A env fun e s' => R (.error e) s') s₃
            else ∃ m, m < n ∧ I m s₃) (notedBy (model prog w) A env fun e s' => R (.error e) s') s₂) (notedBy (model prog w) A env fun e s' => R (.error e) s') s₁') (notedBy (model prog w) A env fun e s' => R (.error e) s') s₁) (notedBy (model prog w) A env fun e s' => R (.error e) s') s)
    (n : Nat) (h : I n s) :
    codeAny (model prog w) A (.compLoop (.ListComp elt [⟨target, iter, ifs, 0⟩] scope pos) 0 it acc env) R s := by
  refine codeAny_loop rfl I (fun n s hI => ?_) n h
  show wpAny _ A ((compTurn (.ListComp elt [⟨target, iter, ifs, 0⟩] scope pos) 0 it acc env).onRaise (fun x => do noteFrame x env; theTreesLotGoes x)) _ _ s
  refine wpAny_noted ?_
  rw [compTurn_list]
  refine wpAny_bind (wpAny_standAt (wpAny_bind (wpAny_mono (turn n s hI) (fun r s₁ h₁ => ?_) fun _ _ h' => h')))
  cases r with
  | none => exact wpAny_pure h₁
  | some v =>
    refine wpAny_bind (wpAny_mono h₁ (fun _ s₁' h₁' => ?_) fun _ _ h' => h')
    refine wpAny_bind (wpAny_mono h₁' (fun _ s₂ h₂ => wpAny_bind (wpAny_mono h₂ (fun ok s₃ h₃ => ?_) fun _ _ h' => h')) fun _ _ h' => h')
    cases ok with
    | false => exact wpAny_pure ⟨rfl, h₃⟩
    | true =>
      exact wpAny_bind (wpAny_bind (wpAny_mono h₃ (fun x s₄ h₄ => wpAny_bind (wpAny_mono h₄ (fun _ s₅ h₅ => wpAny_pure (wpAny_pure ⟨rfl, h₅⟩)) fun _ _ h' => h')) fun _ _ h' => h'))
end
noncomputable def nameE : Expr → Option Str
  | .Name x _ => some x
  | _ => none
noncomputable def tgtNames : List Expr → Option (List Str)
  | [] => some []
  | e :: r => (nameE e).bind fun x => (tgtNames r).map (x :: ·)
inductive TN : List Expr → List Str → Prop
  | nil : TN [] []
  | cons (x : Str) (p : Pos) {r : List Expr} {xs : List Str} : TN r xs → TN (.Name x p :: r) (x :: xs)
theorem TN.of {elts : List Expr} : ∀ {xs : List Str}, tgtNames elts = some xs → TN elts xs := by
  induction elts with
  | nil => intro xs h; cases h; exact .nil
  | cons e r ih =>
    intro xs h
    obtain ⟨x, h1, h2⟩ := Option.bind_eq_some_iff.mp (show (nameE e).bind _ = some xs from h)
    obtain ⟨ys, h3, rfl⟩ := Option.map_eq_some_iff.mp h2
    cases e with
    | Name y p => cases h1; exact .cons _ _ (ih h3)
    | _ => cases h1
inductive TB : Expr → PV → List Str → Nm → Prop
  | name (x : Str) (p : Pos) (pv : PV) : TB (.Name x p) pv [x] [(x, pv)]
  | tup {elts : List Expr} {k : Nat} {p : Pos} {xs : List Str} {l : List PV} : tgtNames elts = some xs → xs.length = l.length → TB (.Tuple elts k p) (.tup l) xs (xs.zip l).reverse
section
variable {M : Model} {A : Around} {E : Value → Shared → Prop} {env : Env} {C : Addr} {T : Led} {μ : List Addr}
theorem assign_names (hC : env.locals = C) (hk : env.scope.kind = .function) {elts : List Expr} {xs : List Str} (tn : TN elts xs) (hloc : ∀ x ∈ xs, env.scope.names.lookup x = some .local) : ∀ {vs : List Value} {l : List PV} {mr : Str → Option Value} {mc : Nm} {s : Shared} {Q : Unit → Shared → Prop}, xs.length = l.length →
    VRs T μ vs l → s.heap.Ns C mr → NR T μ mr mc → (∀ h' tk mr', h'.Ns C mr' → NR T μ mr' ((xs.zip l).reverse ++ mc) → Heap.SameBut C s.heap h' → Q () { s with heap := h', toks := tk }) →
    wpAny M A (assignInOrder ((assignEach elts env).map (·.2)) vs) Q E s := by
  induction tn with
  | nil =>
    intro vs l mr mc s Q hl rs hn nr q
    cases rs with
    | nil => exact assignInOrder_nil (q s.heap s.toks mr hn nr (Heap.SameBut.refl ..))
    | cons _ _ => cases hl
  | cons x p r ih =>
    intro vs l mr mc s Q hl rs hn nr q
    cases rs with
    | nil => cases hl
    | cons r1 r2 =>
      refine assignInOrder_cons (PyProof.Rows.assign_Name (wpAny_storeName_local (hloc x (.head _)) (hC ▸ hn) (fun h' hns hs => ?_) (by rw [hk]; rfl)))
      rw [hC] at hns hs
      refine ih (fun y hy => hloc y (.tail _ hy)) (Nat.succ.inj hl) r2 hns (nr.cons r1) fun h'' tk mr' hn' nr' hs' => q h'' tk mr' hn' ?_ (hs.trans hs')
      rw [List.zip_cons_cons, List.reverse_cons, List.append_assoc]
      exact nr'
end
theorem tgt_each {elts : List Expr} {xs : List Str} {env : Env} (tn : TN elts xs) : (assignEach elts env).length = xs.length ∧ (assignEach elts env).findIdx? (·.1) = none := by
  induction tn with
  | nil => exact ⟨rfl, rfl⟩
  | @cons x p r xs _ ih =>
    refine ⟨congrArg (· + 1) ih.1, ?_⟩
    show List.findIdx? (·.1) ((false, _) :: assignEach r env) = none
    rw [List.findIdx?_cons, ih.2]; rfl
theorem assign_tgt {prog : Program} {w : World} {A : Around} {E : Value → Shared → Prop} {env : Env} {C : Addr} {T : Led} {μ : List Addr} {target : Expr} {pv : PV} {xs : List Str} {bs : Nm} (tb : TB target pv xs bs) (hh : A.handled = none) (hC : env.locals = C) (hk : env.scope.kind = .function) (hloc : ∀ x ∈ xs, env.kindOf x = some .local)
    {v : Value} {mr : Str → Option Value} {s : Shared} {Q : Unit → Shared → Prop} (hT : ∀ p ∈ T, s.heap.get? p.1 = some p.2) (r : VR T μ v pv) (hn : s.heap.Ns C mr)
    (q : ∀ h' tk mr', h'.Ns C mr' → NR T μ mr' bs → (∀ b o, b ≠ C → s.heap.get? b = some o → h'.get? b = some o) → Q () { s with heap := h', toks := tk }) : wpAny (model prog w) A (assign target env v) Q E s := by
  cases tb with
  | name x p =>
    refine PyProof.Rows.assign_Name (wpAny_storeName_local (hloc x (.head _)) (hC ▸ hn) (fun h' hns hs => ?_) (by rw [hk]; rfl))
    rw [hC] at hns hs
    refine q h' _ _ hns ?_ (fun b o hb e => (hs.2 b hb).trans e)
    have h0 : NR T μ mr [] := fun x pv e => by cases e
    exact h0.cons r
  | tup hx hl =>
    rename_i elts k p l
    replace r := r.inv; obtain ⟨_, _, _, rfl, hm, hr⟩ := r
    rename_i a vs n
    obtain ⟨t1, t2⟩ := tgt_each (env := env) (TN.of hx)
    have ht : IsTup s.heap a vs.toArray := ⟨_, hT _ hm, rfl, n, rfl⟩
    refine assign_Tuple_tuple hh ht (by rw [t1, hl, List.size_toArray, hr.length]) t2 fun h' he => ?_
    have hn' : h'.Ns C mr := hn.at' fun o e => he _ o (Nat.ne_of_lt (Heap.lt_size e)) e
    have h0 : NR T μ mr [] := fun x pv e => by cases e
    refine assign_names hC hk (TN.of hx) hloc hl hr hn' h0 fun h'' tk mr' hn'' nr'' hs'' => q h'' tk mr' hn'' (by simpa using nr'') fun b o hb e => (hs''.2 b hb).trans (he b o (Nat.ne_of_lt (Heap.lt_size e)) e)
theorem CEs.look {c : Cx} : ∀ {cl ce}, CEs c cl ce → ∀ x n, ce.lookup x = some n → ∃ a, cl.lookup x = some a ∧ c.ce.lookup x = some n ∧ c.env.cells.lookup x = some a
  | _, _, .nil, x, n, e => by cases e
  | _, _, .cons (x := y) (a := a) h1 h2 r, x, n, e => by
    rw [List.lookup_cons] at e ⊢
    by_cases hxy : x = y
    · subst hxy
      simp only [beq_self_eq_true, Option.some.injEq] at e ⊢
      subst e
      exact ⟨a, rfl, h1, h2⟩
    · rw [beq_eq_false_iff_ne.mpr hxy] at e ⊢
      exact CEs.look r x n e
noncomputable def Cx.comp (c : Cx) (scope : Scope) (cl : List (Str × Addr)) (C : Addr) (ce : List (Str × Nat)) (bs : Nm) : Cx := { c with env := compEnvC scope cl C c.env, ce := ce, ns := some bs }
noncomputable def WTs (c : Cx) : List Expr → List AO → Nm → (Bool → List AO → Prop) → Prop
  | [], σ, _, K => K true σ
  | e :: _, σ, m, K => WB c e σ m K fun _ => False
noncomputable abbrev jWi (I : Nat → List PV → List AO → Prop) (i : Nat) (ys : List PV) (y : PV) (σ : List AO) : Prop := I (i + 1) (ys ++ [y]) σ
noncomputable abbrev jW (c : Cx) (elt : Expr) (m : Nm) (I : Nat → List PV → List AO → Prop) (i : Nat) (ys : List PV) (ok : Bool) (σ : List AO) : Prop := sel ok (WE c elt σ m (jWi I i ys) fun _ => False) (I (i + 1) ys σ)
theorem fresh_cons {T R : Led} {c : Cx} {a b : Addr} {o : Obj} (h : a ∉ (T ++ R).map (·.1) ∧ a ≠ c.L ∧ c.g.get? a = none) (hab : a ≠ b) : a ∉ (((b, o) :: T) ++ R).map (·.1) ∧ a ≠ c.L ∧ c.g.get? a = none :=
  ⟨by rw [List.cons_append, List.map_cons]; exact fun hm => (List.mem_cons.mp hm).elim hab h.1, h.2⟩
section
variable {c : Cx} {σ : List AO} {m : Nm}
noncomputable def Fre (c : Cx) (T R : Led) (a : Addr) : Prop := a ∉ (T ++ R).map (·.1) ∧ a ≠ c.L ∧ c.g.get? a = none
inductive CInv (c : Cx) (T R : Led) (It D C : Addr) (n : Nat) (IsAt : Nat → Heap → Prop) (m : Nm) (I : Nat → List PV → List AO → Prop) (k : Nat) (s' : Shared) : Prop
  | mk (i : Nat) (ys : List PV) (vs : List Value) (kk : Nat) (σ' : List AO) (T' R' : Led) (mr : Str → Option Value) (hk : k = n + 1 - i) (hi : i ≤ n) (S : St c T' R' σ' m s') (g : Gr T (μs R) T' (μs R')) (fI : Fre c T' R' It) (fD : Fre c T' R' D) (fC : Fre c T' R' C)
      (hD : s'.heap.get? D = some (listOf (List.toArray vs) kk)) (hvs : VRs T' (μs R') vs ys) (hlen : ys.length ≤ i) (hC : s'.heap.Ns C mr) (hat : IsAt i s'.heap) (hI : I i ys σ')
inductive CBack (c : Cx) (T R : Led) (It D C : Addr) (T4 R4 : Led) (σ4 : List AO) (m : Nm) (s4 : Shared) (vs : List Value) (kk : Nat) (ys : List PV) (o3 oC : Obj) : Prop
  | mk (T5 : Led) (S : St c T5 R4 σ4 m s4) (g : Gr T (μs R) T5 (μs R4)) (vr : ∀ v pv, VR T4 (μs R4) v pv → VR T5 (μs R4) v pv) (fI : Fre c T5 R4 It) (fD : Fre c T5 R4 D) (fC : Fre c T5 R4 C)
      (hD : s4.heap.get? D = some (listOf (List.toArray vs) kk)) (hI : s4.heap.get? It = some o3) (hC : s4.heap.get? C = some oC) (hvs : VRs T5 (μs R4) vs ys)
theorem sub_fil {R4 l : Led} {a b : Addr} (h : a ∉ (l ++ R4).map (·.1)) : a ∉ ((l.filter (·.1 ≠ b)) ++ R4).map (·.1) := fun hm => h (by
  rw [List.map_append] at hm ⊢
  rcases List.mem_append.mp hm with hm | hm
  · obtain ⟨p, hp, e⟩ := List.mem_map.mp hm
    exact List.mem_append_left _ (List.mem_map.mpr ⟨p, (List.mem_filter.mp hp).1, e⟩)
  · exact List.mem_append_right _ hm)
theorem vol_one {l : Led} {a : Addr} {o : Obj} (hn : (l.map (·.1)).Nodup) (hm : (a, o) ∈ l) (hv : volatile o = true) : ∀ o', (a, o') ∈ l → volatile o' = true := by
  intro o' hm'
  have : o' = o := by
    obtain ⟨i1, h1⟩ := List.getElem?_of_mem hm
    obtain ⟨i2, h2⟩ := List.getElem?_of_mem hm'
    have e1 : (l.map (·.1))[i1]? = some a := by rw [List.getElem?_map, h1]; rfl
    have e2 : (l.map (·.1))[i2]? = some a := by rw [List.getElem?_map, h2]; rfl
    have := (List.getElem?_inj (List.getElem?_eq_some_iff.mp e1).1 hn).mp (e1.trans e2.symm)
    rw [this, h2] at h1; cases h1; rfl
  rw [this]; exact hv
theorem comp_core {T R : Led} {s : Shared} {It : Addr} {n : Nat} {item : Nat → PV} {Src : List AO → Prop} {IsAt : Nat → Heap → Prop} {elt target iter : Expr} {ifs : List Expr} {scope : Scope} {cl : List (Str × Addr)} {ce : List (Str × Nat)} {pos : Pos} {E : Value → Shared → Prop} {RR : Value → Addr → Result → Shared → Prop}
    (st : St c T R σ m s) (hns : c.ns = none) (hI : Fre c T R It) (itr : Iter c T (μs R) It n item Src IsAt) (hat : IsAt 0 s.heap) (hsz : n ≤ 1000) (hif : ifs.length ≤ 1)
    (hcell : ∀ y ∈ scope.names, y.2 ≠ .cell) (hkind : scope.kind = .function) (hces : CEs c cl ce)
    (xs : List Str) (hloc : ∀ x ∈ xs, scope.names.lookup x = some .local) (bs : Nat → Nm) (htb : ∀ i, i < n → TB target (item i) xs (bs i))
    (I : Nat → List PV → List AO → Prop) (h0 : I 0 [] σ) (hsrc : ∀ i ys σ', I i ys σ' → Src σ')
    (hstep : ∀ i ys σ' C, i < n → I i ys σ' → WTs (c.comp scope cl C ce (bs i)) ifs σ' m (jW (c.comp scope cl C ce (bs i)) elt m I i ys))
    (hend : ∀ D C vs ys k σ' T' R' s' mr, St c T' R' σ' m s' → Gr T (μs R) T' (μs R') → Fre c T' R' D → Fre c T' R' C → D ≠ C → s'.heap.get? D = some (listOf (List.toArray vs) k) → VRs T' (μs R') vs ys → ys.length ≤ n → s'.heap.Ns C mr → I n ys σ' → RR (.ref D) C (.ok .next) s') :
    wpAny (model c.prog c.w) c.A (newList []) (fun acc s₃ => wpAny (model c.prog c.w) c.A (newFunctionEnv scope c.env.globals cl [] c.env.qual none .none (some c.env)) (fun cenv s₄ =>
      codeAny (model c.prog c.w) c.A (.compStart (.ListComp elt [⟨target, iter, ifs, 0⟩] scope pos) 0 (.ref It) acc { cenv with scope := relabel scope c.env }) (RR acc cenv.locals) s₄) E s₃) E s := by
  refine wpAny_newObj_type (wpAny_newFunctionEnv hcell (by intro y hy; simp at hy) (fun h₁ hns₁ hsb₁ => ?_) hkind)
  dsimp only at hns₁ hsb₁ ⊢
  obtain ⟨D, hD⟩ : ∃ D, D = s.heap.objs.size := ⟨_, rfl⟩
  obtain ⟨H2, hH2⟩ : ∃ H2, H2 = s.heap.push { cls := .type "list", dict := none, data := .seq ([] : List Value).toArray } := ⟨_, rfl⟩
  rw [← hH2] at hns₁ hsb₁ ⊢
  obtain ⟨C, hC⟩ : ∃ C, C = H2.objs.size := ⟨_, rfl⟩
  rw [← hC] at hns₁ hsb₁ ⊢
  rw [← hD]
  have hCD : C = D + 1 := by rw [hC, hH2, hD, Heap.size_push]
  have hDC : D ≠ C := by rw [hCD]; exact Nat.ne_of_lt (Nat.lt_succ_self _)
  have fD := hD ▸ st.freshL (none_of_size s.heap)
  have fC : Fre c T R C := st.freshL (by
    cases e : s.heap.get? C with
    | none => rfl
    | some o => exact absurd (Heap.lt_size e) (by rw [hCD, hD]; exact Nat.not_lt.mpr (Nat.le_succ _)))
  obtain ⟨oI0, hoI0, _⟩ := itr.obj _ _ hat
  have hItlt := Heap.lt_size hoI0
  have hItD : It ≠ D := by rw [hD]; exact Nat.ne_of_lt hItlt
  have hItC : It ≠ C := by rw [hCD, hD]; exact Nat.ne_of_lt (Nat.lt_succ_of_lt hItlt)
  have old : ∀ b o, s.heap.get? b = some o → h₁.get? b = some o := fun b o e => hsb₁.extBut b o (by rw [hCD, hD]; exact Nat.ne_of_lt (Nat.lt_succ_of_lt (Heap.lt_size e))) (Heap.get?_push_of_some _ (hH2 ▸ Heap.get?_push_of_some _ e))
  have hacc : h₁.get? D = some (listOf (List.toArray []) 0) := hsb₁.extBut _ _ hDC (Heap.get?_push_of_some _ (by rw [hH2, hD]; exact Heap.get?_push_size _ rfl))
  have loop : ∀ s₃ : Shared, s₃ = { s with heap := h₁, toks := s.toks + ([] : List (Str × Value)).length } →
      codeAny (model c.prog c.w) c.A (.compLoop (.ListComp elt [⟨target, iter, ifs, 0⟩] scope pos) 0 (.ref It) (.ref D) (compEnvC scope cl C c.env)) (RR (.ref D) C) s₃ := by
    rintro s₃ rfl
    refine codeAny_compLoop_own (CInv c T R It D C n IsAt m I) ?_ (n + 1)
      ⟨0, [], [], 0, σ, T, R, _, rfl, Nat.zero_le _, st.grow old, Gr.refl _ _, hI, fD, fC, hacc, .nil, Nat.le_refl _, hns₁, itr.at_ _ _ _ hat (by rw [hoI0]; exact old _ _ hoI0), h0⟩
    rintro k s' ⟨i, ys, vs, kk, σ', T', R', mr, rfl, hi, S', g', fI', fD', fC', hD', hvs', hlen', hC', hat', hI'⟩
    by_cases hlt : i < n
    · refine itr.next i T' R' σ' m s' _ _ hlt S' g' (hsrc _ _ _ hI') hat' fun v h2 tk2 hv hat2 hk2 => ?_
      refine itr.owned _ _ _ _ _ _ hat2 ?_
      have S2 : St c T' R' σ' m { s' with heap := h2, toks := tk2 } := S'.off fI' fun b o hb e => (hk2 b hb).trans e
      have hC2 : h2.Ns C mr := hC'.at' fun o e => (hk2 C (Ne.symm hItC)).trans e
      have hD2 : h2.get? D = some (listOf (List.toArray vs) kk) := (hk2 D (Ne.symm hItD)).trans hD'
      refine assign_tgt (env := compEnvC scope cl C c.env) (htb i hlt) S'.ok.hh rfl (by simp [compEnvC, relabel, hkind]) (fun x hx => lookup_relabel_local (hloc x hx)) (fun p hp => S2.tupGet (a := p.1) (o := p.2) hp) hv hC2 fun h3 tk3 mr3 hC3 nr3 hk3 => ?_
      have S3 : St c T' R' σ' m { s' with heap := h3, toks := tk3 } := S2.off (tk := tk3) fC' hk3
      have hD3 : h3.get? D = some (listOf (List.toArray vs) kk) := hk3 D _ hDC hD2
      obtain ⟨o2, ho2, _⟩ := itr.obj _ _ hat2
      have hat3 : IsAt (i + 1) h3 := itr.at_ _ _ _ hat2 (by rw [ho2]; exact hk3 It _ hItC ho2)
      obtain ⟨o3, ho3, hv3⟩ := itr.obj _ _ hat3
      obtain ⟨oC, hoC, hNC⟩ := LCg.ns_obj hC3
      have hvC : volatile oC = true := volatile_ns hNC
      have P1 := S3.addT' (tk := tk3) (h' := h3) (o := o3) (fun b o _ e => e) fI' ho3
      have P2 := P1.addT' (tk := tk3) (h' := h3) (o := listOf (List.toArray vs) kk) (fun b o _ e => e) (fresh_cons fD' (Ne.symm hItD)) hD3
      have P3 := P2.addT' (tk := tk3) (h' := h3) (o := oC) (fun b o _ e => e) (fresh_cons (fresh_cons fC' (Ne.symm hItC)) (Ne.symm hDC)) hoC
      have P4 : St (c.comp scope cl C ce (bs i)) ((C, oC) :: (D, listOf (List.toArray vs) kk) :: (It, o3) :: T') R' σ' m { s' with heap := h3, toks := tk3 } := by
        refine ⟨⟨P3.ok.below, P3.ok.kin, P3.ok.top, P3.ok.hA, P3.ok.hf, P3.ok.hk, P3.ok.hh, P3.ok.glob, P3.ok.bl, by simp [Cx.comp, compEnvC, relabel, hkind], P3.ok.kinB, P3.ok.topB⟩, P3.fr, P3.news, P3.nd, P3.len, P3.objs, P3.sh, fun x n e => ?_, ?_⟩
        · obtain ⟨a, e1, e2, e3⟩ := hces.look x n e
          obtain ⟨a', e4, e5⟩ := P3.cel x n e2
          rw [e3] at e4; cases e4
          exact ⟨a, e1, e5⟩
        · refine ⟨P3.nso.1, ?_⟩
          show ∃ o mr, (C, o) ∈ _ ∧ volatile o = true ∧ LCg.NsObj o mr ∧ NR _ _ mr (bs i)
          exact ⟨oC, mr3, .head _, hvC, hNC, nr3.mono ((Gr.cons.trans Gr.cons).trans Gr.cons)⟩
      have g3 : Gr T' (μs R') ((C, oC) :: (D, listOf (List.toArray vs) kk) :: (It, o3) :: T') (μs R') := (Gr.cons.trans Gr.cons).trans Gr.cons
      have back : ∀ T4 R4 σ4 s4, Gr ((C, oC) :: (D, listOf (List.toArray vs) kk) :: (It, o3) :: T') (μs R') T4 (μs R4) → St (c.comp scope cl C ce (bs i)) T4 R4 σ4 m s4 →
          CBack c T R It D C T4 R4 σ4 m s4 vs kk ys o3 oC := by
        intro T4 R4 σ4 s4 g4 S4
        have S5 : St c T4 R4 σ4 m s4 := ⟨P3.ok, S4.fr, S4.news, S4.nd, S4.len, S4.objs, S4.sh, fun x n e => let ⟨a, e1, e2⟩ := S'.cel x n e; ⟨a, e1, (g3.trans g4).get e2⟩, (S'.nso.mono (g3.trans g4)).of_none hns⟩
        have mC : (C, oC) ∈ T4 := g4.t _ (.head _)
        have mD : (D, listOf (List.toArray vs) kk) ∈ T4 := g4.t _ (.tail _ (.head _))
        have mI : (It, o3) ∈ T4 := g4.t _ (.tail _ (.tail _ (.head _)))
        have nd4 := S5.nd
        rw [List.map_append, List.nodup_append] at nd4
        obtain ⟨Q1, f1, d1⟩ := S5.drop hns mC hvC
        have mD1 : (D, listOf (List.toArray vs) kk) ∈ T4.filter (·.1 ≠ C) := List.mem_filter.mpr ⟨mD, by simpa using hDC⟩
        have mI1 : (It, o3) ∈ T4.filter (·.1 ≠ C) := List.mem_filter.mpr ⟨mI, by simpa using hItC⟩
        obtain ⟨Q2, f2, d2⟩ := Q1.drop hns mD1 rfl
        have mI2 : (It, o3) ∈ (T4.filter (·.1 ≠ C)).filter (·.1 ≠ D) := List.mem_filter.mpr ⟨mI1, by simpa using hItD⟩
        obtain ⟨Q3, f3, d3⟩ := Q2.drop hns mI2 hv3
        have nd1 : ((T4.filter (·.1 ≠ C)).map (·.1)).Nodup := nd4.1.sublist (List.filter_sublist.map _)
        have nd2 : (((T4.filter (·.1 ≠ C)).filter (·.1 ≠ D)).map (·.1)).Nodup := nd1.sublist (List.filter_sublist.map _)
        have vr : ∀ v pv, VR T4 (μs R4) v pv → VR (((T4.filter (·.1 ≠ C)).filter (·.1 ≠ D)).filter (·.1 ≠ It)) (μs R4) v pv := fun v pv h => ((h.drop (vol_one nd4.1 mC hvC)).drop (vol_one nd1 mD1 rfl)).drop (vol_one nd2 mI2 hv3)
        have nT : ∀ {a : Addr}, a ∉ (T' ++ R').map (·.1) → ∀ p ∈ T', p.1 ≠ a := fun h p hp e => h (by rw [List.map_append]; exact List.mem_append_left _ (e ▸ List.mem_map_of_mem (f := (·.1)) hp))
        have g5 : Gr T' (μs R') (((T4.filter (·.1 ≠ C)).filter (·.1 ≠ D)).filter (·.1 ≠ It)) (μs R4) := ⟨fun p hp => List.mem_filter.mpr ⟨List.mem_filter.mpr ⟨List.mem_filter.mpr ⟨(g3.trans g4).t p hp, by simpa using nT fC'.1 p hp⟩, by simpa using nT fD'.1 p hp⟩, by simpa using nT fI'.1 p hp⟩, (g3.trans g4).m⟩
        exact ⟨_, Q3, g'.trans g5, vr, f3, ⟨sub_fil f2.1, f2.2⟩, ⟨sub_fil (sub_fil f1.1), f1.2⟩, S5.tupGet mD, S5.tupGet mI, S5.tupGet mC, hvs'.mono g5⟩
      have hstp := hstep i ys σ' C hlt hI'
      have atN : ∀ h4 : Heap, h4.get? It = some o3 → IsAt (i + 1) h4 := fun h4 e => itr.at_ _ _ _ hat3 (by rw [e, ho3])
      have elt : ∀ T4 R4 σ4 s4, Gr ((C, oC) :: (D, listOf (List.toArray vs) kk) :: (It, o3) :: T') (μs R') T4 (μs R4) → St (c.comp scope cl C ce (bs i)) T4 R4 σ4 m s4 → WE (c.comp scope cl C ce (bs i)) elt σ4 m (fun y σ3 => I (i + 1) (ys ++ [y]) σ3) (fun _ => False) → ∀ E',
          wpAny (model c.prog c.w) c.A (eval elt (compEnvC scope cl C c.env)) (fun x s₄ =>
              wpAny (model c.prog c.w) c.A (call (.builtin "list.append") [.ref D, x]) (fun _ s₅ => ∃ k', k' < n + 1 - i ∧ CInv c T R It D C n IsAt m I k' s₅) E' s₄) E' s4 := by
        intro T4 R4 σ4 s4 g4 S4 hw E'
        refine hw T4 R4 s4 S4 _ _ (fun y py T6 R6 σ6 s6 g6 S6 ry k6 => ?_) (fun e s6 σ6 hx hX => hX.elim)
        obtain ⟨T7, S7, g7, vr7, f1, f2, f3, d1, d2, d3, v7⟩ := back T6 R6 σ6 s6 (g4.trans g6) S6
        refine append_at (hsz := by show vs.toArray.size ≤ sizeLine; rw [List.size_toArray, hvs'.length]; exact Nat.le_trans hlen' (Nat.le_trans hi (Nat.le_trans hsz (by decide)))) d1 fun h8 hs8 hD8 => ?_
        refine ⟨n + 1 - (i + 1), by omega, i + 1, ys ++ [py], vs ++ [y], kk + 1, σ6, T7, R6, mr3, rfl, hlt, S7.off (tk := s6.toks) f2 (fun b o hb e => (hs8.2 b hb).trans e), g7, f1, f2, f3, ?_, v7.append (.cons (vr7 _ _ ry) .nil), ?_, ?_, atN h8 ((hs8.2 It hItD).trans d2), k6⟩
        · rw [hD8, List.push_toArray]
        · rw [List.length_append]; simp; omega
        · exact hNC.ns ((hs8.2 C (Ne.symm hDC)).trans d3)
      cases ifs with
      | nil =>
        refine wpAny_tests_nil ?_
        simp only [if_true]
        exact elt _ R' σ' _ (Gr.refl _ _) P4 hstp _
      | cons t rest =>
        obtain rfl : rest = [] := by
          cases rest with
          | nil => rfl
          | cons _ _ => simp at hif
        refine wpAny_tests_one (hstp _ R' _ P4 _ _ (fun ok T4 R4 σ4 s4 g4 S4 k4 => ?_) (fun e s6 σ6 hx hX => hX.elim))
        cases ok with
        | true =>
          simp only [if_true]
          exact elt T4 R4 σ4 s4 g4 S4 k4 _
        | false =>
          simp only [Bool.false_eq_true, if_false]
          obtain ⟨T7, S7, g7, vr7, f1, f2, f3, d1, d2, d3, v7⟩ := back T4 R4 σ4 s4 g4 S4
          exact ⟨n + 1 - (i + 1), by omega, i + 1, ys, vs, kk, σ4, T7, R4, mr3, rfl, hlt, S7, g7, f1, f2, f3, d1, v7, by omega, hNC.ns d3, atN _ d2, k4⟩
    · obtain rfl : i = n := Nat.le_antisymm hi (Nat.le_of_not_lt hlt)
      refine itr.done T' R' σ' m s' _ _ S' g' (hsrc _ _ _ hI') hat' fun h2 he => ?_
      exact hend D C vs ys kk σ' T' R' _ mr (S'.off (tk := s'.toks) fI' he) g' fD' fC' hDC (he D _ (Ne.symm hItD) hD') hvs' hlen' (hC'.at' fun o e => he C o (Ne.symm hItC) e) hI'
  exact codeAny_compStart_list (loop _ rfl) (itr.self 0 _ _ _ (itr.at_ _ _ _ hat (by rw [hoI0]; exact old _ _ hoI0)) (loop _ rfl))
end
inductive Seqn : PV → List AO → Nat → (Nat → PV) → (List AO → Prop) → Prop
  | list {k : Nat} {l : List PV} {σ : List AO} : σ[k]? = some (.list l) → Seqn (.loc k) σ l.length (fun i => l.getD i .none) (fun σ' => σ'[k]? = some (.list l))
  | range {a b : Int} {n : Nat} {σ : List AO} : (b - a = n ∨ (n = 0 ∧ b ≤ a)) → a.natAbs < 2 ^ 40 → b.natAbs < 2 ^ 40 → Seqn (.rng a b) σ n (fun i => .int (a + i)) (fun _ => True)
  | tup {l : List PV} {σ : List AO} : Seqn (.tup l) σ l.length (fun i => l.getD i .none) (fun _ => True)
theorem pyIter_W {c : Cx} {σ : List AO} {m : Nm} {v : PV} {n : Nat} {item : Nat → PV} {Src : List AO → Prop} (sq : Seqn v σ n item Src) {T R : Led} {s : Shared} (st : St c T R σ m s) {val : Value} (r : VR T (μs R) val v) {Q : Value → Shared → Prop} {E : Value → Shared → Prop}
    (q : ∀ It s' IsAt, St c T R σ m s' → (It ∉ (T ++ R).map (·.1) ∧ It ≠ c.L ∧ c.g.get? It = none) → Iter c T (μs R) It n item Src IsAt → IsAt 0 s'.heap → Q (.ref It) s') : wpAny (model c.prog c.w) c.A (pyIter val) Q E s := by
  have hfr := st.freshL (none_of_size s.heap)
  have up : ∀ (o : Obj), ∀ b o', s.heap.get? b = some o' → (s.heap.push o).get? b = some o' := fun o b o' e => Heap.get?_push_of_some _ e
  cases sq with
  | list hs =>
    replace r := r.inv; obtain ⟨_, rfl, ha⟩ := r
    obtain ⟨o, a1, a2, a3⟩ := st.at hs ha
    replace a3 := a3.inv; obtain ⟨_, _, rfl, hvs⟩ := a3
    refine wpAny_pyIter_list ⟨_, a2, rfl, _, rfl⟩ ?_
    exact q _ _ _ (st.grow (tk := s.toks) (up _)) hfr (iter_list st.ok.hh ha) ⟨_, Heap.get?_push_size _ rfl, rfl, rfl⟩
  | range hn ha hb =>
    replace r := r.inv; obtain ⟨_, _, _, _, rfl, hm⟩ := r
    rename_i a b rr t0 u0 v0
    have hsize : Builtin.Range.rangeSize a b 1 = (n : Int) := by rw [rangeSize_nat]; omega
    have hsmall : Builtin.Range.small a b 1 = true := small_one (by omega) (by omega) (by omega) (by omega)
    refine wpAny_pyIter_range (st.tupGet hm) hsmall ?_
    rw [hsize]
    refine q _ _ _ (st.grow (tk := s.toks) (up _)) hfr (iter_range st.ok.hh) ?_
    show Heap.get? _ _ = _
    simpa using Heap.get?_push_size _ rfl
  | tup =>
    replace r := r.inv; obtain ⟨_, _, _, rfl, hm, hr⟩ := r
    refine iter_tuple (tupIs st hm) ?_
    exact q _ _ _ (st.grow (tk := s.toks) (up _)) hfr (iter_tup st.ok.hh hm hr) ⟨_, Heap.get?_push_size _ rfl, rfl, rfl⟩
inductive WQ (c : Cx) (scope : Scope) (cl : List (Str × Addr)) (ce : List (Str × Nat)) (elt target : Expr) (ifs : List Expr) (v : PV) (σ : List AO) (m : Nm) (KQ : List PV → List AO → Prop) : Prop
  | mk (n : Nat) (item : Nat → PV) (Src : List AO → Prop) (xs : List Str) (bs : Nat → Nm) (I : Nat → List PV → List AO → Prop) (hq : Seqn v σ n item Src) (hn : n ≤ 1000) (hx : ∀ x ∈ xs, scope.names.lookup x = some .local) (ht : ∀ i, i < n → TB target (item i) xs (bs i))
    (h0 : I 0 [] σ) (hs : ∀ i ys σ', I i ys σ' → Src σ') (hi : ∀ i ys σ' C, i < n → I i ys σ' → WTs (c.comp scope cl C ce (bs i)) ifs σ' m (jW (c.comp scope cl C ce (bs i)) elt m I i ys)) (he : ∀ ys σ', I n ys σ' → KQ ys σ') : WQ c scope cl ce elt target ifs v σ m KQ
section
variable {c : Cx} {σ : List AO} {m : Nm} {K : PV → List AO → Prop} {Kn : Nm → List AO → Prop} {Kr : PV → List AO → Prop} {X : List AO → Prop}
noncomputable abbrev jQ1 (K : PV → List AO → Prop) (ys : List PV) (σ : List AO) : Prop := K (.loc σ.length) (σ ++ [.list ys])
noncomputable abbrev jQ (c : Cx) (scope : Scope) (cl : List (Str × Addr)) (ce : List (Str × Nat)) (elt target : Expr) (ifs : List Expr) (m : List (Str × PV)) (K : PV → List AO → Prop) (v : PV) (σ : List AO) : Prop := WQ c scope cl ce elt target ifs v σ m (jQ1 K)
noncomputable abbrev jQ2 (y : Str) (m : List (Str × PV)) (Kn : Nm → List AO → Prop) (ys : List PV) (σ : List AO) : Prop := Kn ((y, .loc σ.length) :: m) (σ ++ [.list ys])
noncomputable abbrev jQa (c : Cx) (scope : Scope) (cl : List (Str × Addr)) (ce : List (Str × Nat)) (elt target : Expr) (ifs : List Expr) (y : Str) (m : List (Str × PV)) (Kn : Nm → List AO → Prop) (v : PV) (σ : List AO) : Prop := WQ c scope cl ce elt target ifs v σ m (jQ2 y m Kn)
theorem WE_comp {elt target iter : Expr} {ifs : List Expr} {scope : Scope} {cl : List (Str × Addr)} {ce : List (Str × Nat)} {pos : Pos} (hns : c.ns = none) (hclos : closureFor scope c.env = pure cl) (hces : CEs c cl ce)
    (h : WE c iter σ m (jQ c scope cl ce elt target ifs m K) X)
    (hcell : ∀ y ∈ scope.names, y.2 ≠ .cell := by decide) (hkind : scope.kind = .function := by rfl) (hnames : ∀ y ∈ scope.names, y.2 = .local → scope.names.lookup y.1 = some .local := by decide)
    (hif : ifs.length ≤ 1 := by decide) (hs : ∀ env x, foldedSetIterable iter env x = pure x := by intro _ _; rfl) : WE c (.ListComp elt [⟨target, iter, ifs, 0⟩] scope pos) σ m K X := by
  intro T R s st Q E q ex
  rw [eval_ListComp]
  refine wpAny_comprehension_free (use := none) rfl (hs _) hclos hkind hnames (h T R s st _ _ (fun v pv T1 R1 σ1 s1 g1 S1 r k => ?_) ex)
  obtain ⟨n, item, Src, xs, bs, I, sq, hn, hloc, htb, h0, hsrc, hstep, hend⟩ := k
  refine pyIter_W sq S1 r fun It s2 IsAt S2 hI itr hat => ?_
  refine comp_core (RR := fun acc C => compPost (model c.prog c.w) c.A E none Q acc C) (ce := ce) S2 hns hI itr hat hn hif hcell hkind hces xs hloc bs htb I h0 hsrc hstep ?_
  intro D C vs ys k σ' T' R' s' mr S' g' fD fC hDC hD hvs hlen hC hfin
  refine ⟨mr, hC, fun h' hs' => ?_⟩
  have S4 := S'.off (tk := s'.toks) fC (fun b o hb e => (hs'.2 b hb).trans e)
  have hD' : h'.get? D = some (listOf vs.toArray k) := (hs'.2 D hDC).trans hD
  have g0 : Gr T' (μs R') T' (μs (R' ++ [(D, listOf vs.toArray k)])) := ⟨fun p hp => hp, by unfold μs; rw [List.map_append]; exact List.prefix_append _ _⟩
  obtain ⟨S5, g5, hD5⟩ := S4.addR' fD hD' (.list (hvs.mono g0))
  exact q (.ref D) (.loc σ'.length) T' _ _ _ (g1.trans (g'.trans g5)) S5 (.loc hD5) (hend ys σ' hfin)
theorem WS1_asgC {y : Str} {py : Pos} {elt target iter : Expr} {ifs : List Expr} {scope : Scope} {cl : List (Str × Addr)} {ce : List (Str × Nat)} {pos spos : Pos} (hns : c.ns = none) (hclos : closureFor scope c.env = pure cl) (hces : CEs c cl ce)
    (h : WE c iter σ m (jQa c scope cl ce elt target ifs y m Kn) X)
    (hsw : swapsWith (.ListComp elt [⟨target, iter, ifs, 0⟩] scope pos) (some (.Name y py)) spos.line c.env = pure true := by rfl) (hy : c.env.kindOf y = some .local := by rfl)
    (hcell : ∀ y ∈ scope.names, y.2 ≠ .cell := by decide) (hkind : scope.kind = .function := by rfl) (hnames : ∀ y ∈ scope.names, y.2 = .local → scope.names.lookup y.1 = some .local := by decide)
    (hif : ifs.length ≤ 1 := by decide) (hs : ∀ env x, foldedSetIterable iter env x = pure x := by intro _ _; rfl) : WS1 c (.Assign [.Name y py] (.ListComp elt [⟨target, iter, ifs, 0⟩] scope pos) spos) σ m Kn Kr X := by
  intro T R s st Q E q1 q2 ex
  rw [exec_Assign_Name_used _ _ _ _ hsw]
  refine wpAny_bind (wpAny_standAt (wpAny_bind ?_))
  show wpAny _ c.A (do let _ ← comprehension (.ListComp elt [⟨target, iter, ifs, 0⟩] scope pos) scope c.env _ (newList []) false (eval iter c.env) (some (assign (.Name y py) c.env))) _ _ s
  refine wpAny_bind (wpAny_mono (wpAny_comprehension_free (use := some (assign (.Name y py) c.env)) (Q := fun _ s' => Q .next s') rfl (hs _) hclos hkind hnames (h T R s st _ _ (fun v pv T1 R1 σ1 s1 g1 S1 r k => ?_) (fun e' s' σ' hx hX => ex e' m s' σ' hx hX))) (fun _ s' hq => wpAny_pure (wpAny_pure hq)) fun _ _ e => e)
  obtain ⟨n, item, Src, xs, bs, I, sq, hn, hloc, htb, h0, hsrc, hstep, hend⟩ := k
  refine pyIter_W sq S1 r fun It s2 IsAt S2 hI itr hat => ?_
  refine comp_core (RR := fun acc C => compPost (model c.prog c.w) c.A E (some (assign (.Name y py) c.env)) (fun _ s' => Q .next s') acc C) (ce := ce) S2 hns hI itr hat hn hif hcell hkind hces xs hloc bs htb I h0 hsrc hstep ?_
  intro D C vs ys k σ' T' R' s' mr S' g' fD fC hDC hD hvs hlen hC hfin
  show wpAny _ c.A (assign (.Name y py) c.env (.ref D)) _ _ _
  have g0 : Gr T' (μs R') T' (μs (R' ++ [(D, listOf vs.toArray k)])) := ⟨fun p hp => hp, by unfold μs; rw [List.map_append]; exact List.prefix_append _ _⟩
  obtain ⟨S5, g5, hD5⟩ := S'.addR' fD hD (.list (hvs.mono g0))
  have fC5 : C ∉ (T' ++ (R' ++ [(D, listOf vs.toArray k)])).map (·.1) ∧ C ≠ c.L ∧ c.g.get? C = none := ⟨fun hm => by
    rw [← List.append_assoc, List.map_append] at hm
    rcases List.mem_append.mp hm with hm | hm
    · exact fC.1 hm
    · simp at hm; exact hDC hm.symm, fC.2⟩
  obtain ⟨mf, F, nr⟩ := S5.fr
  have hl : c.env.locals = c.L := S5.nso.atL hns
  refine PyProof.Rows.assign_Name (wpAny_storeName_local hy (hl ▸ F.ns) (fun h' hns' hs' => ?_) (by rw [S5.ok.ek]; rfl))
  rw [hl] at hns' hs'
  refine ⟨mr, hC.sameBut hs' fC.2.1, fun h'' hs'' => ?_⟩
  have hb : ∀ p ∈ T' ++ (R' ++ [(D, listOf vs.toArray k)]), h'.get? p.1 = some p.2 ∧ p.1 ≠ c.L ∧ c.g.get? p.1 = none := fun p hp => ⟨(hs'.2 p.1 (S5.news p hp).2.1).trans (S5.news p hp).1, (S5.news p hp).2⟩
  have S6 : St c T' (R' ++ [(D, listOf vs.toArray k)]) (σ' ++ [.list ys]) ((y, .loc σ'.length) :: m) { s' with heap := h', toks := s'.toks + 1 } := by
    refine ⟨S5.ok, ⟨_, F.set hns' hs', nr.cons (.loc hD5)⟩, hb, S5.nd, S5.len, S5.objs, ?_, S5.cel, S5.nso⟩
    show ({ s' with heap := h', toks := s'.toks + 1 } : Shared) = _
    rw [S5.sh]
  exact q1 _ T' _ _ _ (g1.trans (g'.trans g5)) (S6.off (tk := s'.toks + 1) fC5 (fun b o hb e => (hs''.2 b hb).trans e)) (hend ys σ' hfin)
end
end Nv
end
section
open PySem PySem.W PySem.Calls PyProof.Rows PyProof.V PySem.Spec
namespace Nv
noncomputable def isDec : Code → Bool
  | .builtin id _ => Builtin.Bytes.decodersThatHold.contains id
  | _ => false
noncomputable def clearS (l : List (Code × Pos)) : Bool := l.all fun x => !isDec x.1
noncomputable def guarded {α : Type} (t u : Sem α) : Sem α := PySem.stack >>= fun st => if clearS st then t else u
noncomputable def wpP {α : Type} (M : Model) (A : Around) (t : Sem α) (Q : α → Shared → Prop) (E : Value → Shared → Prop) (s : Shared) : Prop :=
  ∀ Γ p, Γ.In A → clearS ((Γ.code, default) :: Γ.below) = true → Sem.wp M Γ t (fun a _ s' => Q a s') (fun e _ s' => E e s') p s
theorem clearS_pos (c : Code) (p q : Pos) (l : List (Code × Pos)) : clearS ((c, p) :: l) = clearS ((c, q) :: l) := rfl
theorem wpAny_guarded {α : Type} {M : Model} {A : Around} {t u : Sem α} {Q : α → Shared → Prop} {E : Value → Shared → Prop} {s : Shared} (h : wpP M A t Q E s) (hu : wpAny M A u Q E s) : wpAny M A (guarded t u) Q E s := by
  intro Γ p hΓ
  unfold guarded
  rw [Sem.wp_bind']
  show Sem.wp M Γ (if clearS ((Γ.code, p) :: Γ.below) then t else u) _ _ p s
  cases hc : clearS ((Γ.code, p) :: Γ.below) with
  | true => exact h Γ p hΓ hc
  | false => exact hu Γ p hΓ
theorem guarded_map {α β : Type} {M : Model} {A : Around} {t u : Sem α} {t' u' : Sem β} {Q : α → Shared → Prop} {Q' : β → Shared → Prop} {E E' : Value → Shared → Prop} {s : Shared} (h : wpAny M A (guarded t u) Q E s) (ht : wpP M A t Q E s → wpP M A t' Q' E' s)
    (hu : ∀ Γ p, Sem.wp M Γ u (fun a _ s' => Q a s') (fun e _ s' => E e s') p s → Sem.wp M Γ u' (fun a _ s' => Q' a s') (fun e _ s' => E' e s') p s) : wpAny M A (guarded t' u') Q' E' s := by
  have h1 : wpP M A t Q E s := by
    intro Γ p hΓ hc
    have := h Γ p hΓ
    unfold guarded at this
    rw [Sem.wp_bind'] at this
    replace this : Sem.wp M Γ (if clearS ((Γ.code, p) :: Γ.below) then t else u) _ _ p s := this
    rw [if_pos (show clearS ((Γ.code, p) :: Γ.below) = true from hc)] at this
    exact this
  intro Γ p hΓ
  have h0 := h Γ p hΓ
  unfold guarded at h0 ⊢
  rw [Sem.wp_bind'] at h0 ⊢
  replace h0 : Sem.wp M Γ (if clearS ((Γ.code, p) :: Γ.below) then t else u) _ _ p s := h0
  show Sem.wp M Γ (if clearS ((Γ.code, p) :: Γ.below) then t' else u') _ _ p s
  cases hc : clearS ((Γ.code, p) :: Γ.below) with
  | true => exact ht h1 Γ p hΓ hc
  | false => rw [hc] at h0; exact hu Γ p h0
theorem wpP_of_guarded {α : Type} {M : Model} {A : Around} {t u : Sem α} {Q : α → Shared → Prop} {E : Value → Shared → Prop} {s : Shared} (h : wpAny M A (guarded t u) Q E s) : wpP M A t Q E s := by
  intro Γ p hΓ hc
  have := h Γ p hΓ
  unfold guarded at this
  rw [Sem.wp_bind'] at this
  replace this : Sem.wp M Γ (if clearS ((Γ.code, p) :: Γ.below) then t else u) _ _ p s := this
  rw [if_pos (show clearS ((Γ.code, p) :: Γ.below) = true from hc)] at this
  exact this
section
variable {α β : Type} {M : Model} {A : Around} {E : Value → Shared → Prop} {s : Shared}
theorem wpP_of {t : Sem α} {Q : α → Shared → Prop} (h : wpAny M A t Q E s) : wpP M A t Q E s := fun Γ p hΓ _ => h Γ p hΓ
theorem wpP_pure {a : α} {Q : α → Shared → Prop} (h : Q a s) : wpP M A (pure a) Q E s := fun _ _ _ _ => h
theorem wpP_mono {t : Sem α} {Q Q' : α → Shared → Prop} {E' : Value → Shared → Prop} (h : wpP M A t Q E s) (hQ : ∀ a s, Q a s → Q' a s) (hE : ∀ e s, E e s → E' e s) : wpP M A t Q' E' s :=
  fun Γ p hΓ hc => Sem.wp_mono M Γ t (fun a _ s => hQ a s) (fun e _ s => hE e s) p s (h Γ p hΓ hc)
theorem wpP_bind {m : Sem α} {f : α → Sem β} {Q : β → Shared → Prop} (h : wpP M A m (fun a s' => wpP M A (f a) Q E s') E s) : wpP M A (m >>= f) Q E s := fun Γ p hΓ hc => by
  rw [Sem.wp_bind']
  exact Sem.wp_mono M Γ m (fun a p' s' h' => h' Γ p' hΓ hc) (fun _ _ _ h' => h') p s (h Γ p hΓ hc)
theorem wpP_map {m : Sem α} {f : α → β} {Q : β → Shared → Prop} (h : wpP M A m (fun a s' => Q (f a) s') E s) : wpP M A (f <$> m) Q E s := fun Γ p hΓ hc => by rw [Sem.wp_map]; exact h Γ p hΓ hc
theorem wpP_tryCatch {m : Sem α} {k : Value → Sem α} {Q : α → Shared → Prop} (h : wpP M A m Q (fun e s' => wpP M A (k e) Q E s') s) : wpP M A (tryCatch m k) Q E s := fun Γ p hΓ hc => by
  rw [Sem.wp_tryCatch']
  exact Sem.wp_mono M Γ m (fun _ _ _ h' => h') (fun e p' s' h' => h' Γ p' hΓ hc) p s (h Γ p hΓ hc)
theorem wpP_onRaise {m : Sem α} {k : Value → Sem Unit} {Q : α → Shared → Prop} (h : wpP M A m Q (fun e s' => wpP M A (k e) (fun _ s'' => E e s'') E s') s) : wpP M A (m.onRaise k) Q E s := fun Γ p hΓ hc => by
  rw [Sem.wp_onRaise]
  exact Sem.wp_mono M Γ m (fun _ _ _ h' => h') (fun e p' s' h' => h' Γ p' hΓ hc) p s (h Γ p hΓ hc)
theorem wpP_attempt {m : Sem α} {Q : Except Value α → Shared → Prop} (h : wpP M A m (fun a => Q (.ok a)) (fun e => Q (.error e)) s) : wpP M A m.attempt Q E s := fun Γ p hΓ hc => by rw [Sem.wp_attempt]; exact h Γ p hΓ hc
theorem wpP_holding {vs : List Value} {m : Sem α} {Q : α → Shared → Prop} (h : wpP M A m Q E s) : wpP M A (holding vs m) Q E s := fun Γ p hΓ hc => by rw [Sem.wp_holding]; exact h Γ p hΓ hc
theorem wpP_standAt {pos : Pos} {Q : Unit → Shared → Prop} (h : Q () s) : wpP M A (standAt pos) Q E s := fun _ _ _ _ => h
theorem wpP_of_eq {t : Sem α} {a : α} {Q : α → Shared → Prop} (e : t = pure a) (h : Q a s) : wpP M A t Q E s := by rw [e]; exact wpP_pure h
theorem wpP_operating {vs : List Value} {m : Sem Value} {Q : Value → Shared → Prop} (h : wpP M A m Q E s) : wpP M A (operate vs m) Q E s := fun Γ p hΓ hc => by rw [Sem.wp_operate]; exact h Γ p hΓ hc
noncomputable def codeP (M : Model) (A : Around) (c : Code) (R : Result → Shared → Prop) (s : Shared) : Prop :=
  ∀ Γ p, Γ.code = c → Γ.Below A → clearS Γ.below = true → wpCode M Γ R p s
variable {c : Code} {R : Result → Shared → Prop}
theorem codeP_of (h : codeAny M A c R s) : codeP M A c R s := fun Γ p a b _ => h Γ p a b
theorem codeP_mono {R' : Result → Shared → Prop} (h : codeP M A c R s) (hR : ∀ r s, R r s → R' r s) : codeP M A c R' s := fun Γ p a b d => wpCode_mono hR (h Γ p a b d)
theorem codeP_of_tree (hd : isDec c = false) (h : wpP M (A.under c) (M.den c) (fun fin s' => match fin with | .done f => R (.ok f) s' | .again c' => c'.quiet = true ∧ codeP M A c' R s') (fun e s' => R (.error e) s') s) : codeP M A c R s := fun Γ p hc hΓ hx => by
  rw [wpCode_iff_wp, hc]
  refine Sem.wp_mono M Γ _ (fun fin p' s' h' => ?_) (fun _ _ _ h' => h') p s (h Γ p (hc ▸ hΓ.in) (by rw [clearS, List.all_cons, hc, hd]; exact hx))
  cases fin with
  | done f => exact h'
  | again c' => exact ⟨h'.1, h'.2 (Γ.goto c') p' rfl (hΓ.goto c') hx⟩
theorem clear_enter {Γ : PySem.Ctx} {p : Pos} (h : clearS ((Γ.code, default) :: Γ.below) = true) (c : Code) (hd : Option Value) : clearS (Γ.enter c hd p).below = true := h
theorem wpP_runValue {Q : Value → Shared → Prop} (hc : codeP M A c (fun r s' => match r with | .ok (.ret v) => Q v s' | .ok _ => False | .error e => E e s') s) : wpP M A (runValue c) Q E s :=
  fun Γ p hΓ hx => by rw [Sem.wp_runValue]; exact hc _ p rfl (hΓ.enter c none p (by intro x; cases x)) (clear_enter hx c none)
theorem wpP_run {h : Option Value} {Q : Flow → Shared → Prop} (hc : codeP M (A.mark h) c (fun r s' => match r with | .ok f => Q f s' | .error e => E e s') s) (hnb : h ≠ some byPass := by intro x; cases x) : wpP M A (run c h) Q E s :=
  fun Γ p hΓ hx => by rw [Sem.wp_run]; exact hc _ p rfl (hΓ.enter c h p hnb) (clear_enter hx c h)
theorem wpP_call {f : Value} {pos : List Value} {kw : List (Str × Value)} {Q : Value → Shared → Prop} (hc : codeP M A (.call f ⟨pos, kw⟩) (fun r s' => match r with | .ok (.ret v) => Q v s' | .ok _ => False | .error e => E e s') s) : wpP M A (call f pos kw) Q E s := wpP_runValue hc
end
end Nv
end
section
open PySem PySem.W PySem.Calls PyProof.Rows PyProof.V PySem.Spec
namespace Nv
theorem sched_unguard {den : Code → Sem Fin} {prog : Program} {w : World} {t u : Sem Fin} {s s' : Shared} {o : Outcome} {n : Nat} (hr : s.asleep)
    (h : schedN den prog w n (.single s ⟨guarded t u, .builtin "claim.caller" {}, default, []⟩) = .halted o s') :
    ∃ n', schedN den prog w n' (.single s ⟨t, .builtin "claim.caller" {}, default, []⟩) = .halted o s' := by
  cases n with
  | zero => cases h
  | succ n =>
    refine ⟨n, ?_⟩
    have hs : step den prog w s ⟨guarded t u, .builtin "claim.caller" {}, default, []⟩ = .go s ⟨t, .builtin "claim.caller" {}, default, []⟩ := rfl
    have e := (sstep_single den prog w s ⟨guarded t u, .builtin "claim.caller" {}, default, []⟩ (by rfl) hr).resolve_right (by rw [hs]; intro x; cases x)
    simp only [schedN, e, hs] at h
    exact h
theorem callFrom_imp {stub stub' : List Value → Thread} {c : ClaimW} {w : World} {free : Addr → Prop} {gens : Prop} {kept : Heap → Prop} {s₀ : Shared}
    (h : ∀ (vs : List Value) (s₁ : Shared) n o s', s₁.heap.life = s₀.heap.life → schedN (denote table) c.prog w n (.single s₁ (stub vs)) = .halted o s' → ∃ n', schedN (denote table) c.prog w n' (.single s₁ (stub' vs)) = .halted o s')
    (H : c.CallFrom stub w free gens kept s₀) : c.CallFrom stub' w free gens kept s₀ := fun args hp hl ord ho =>
  (H args hp hl ord ho).imp fun vs h1 => h1.imp fun s₁ h2 => h2.imp (fun x => x) fun h3 => h3.elim fun n h4 => h4.elim fun o h5 => h5.elim fun s' h6 =>
    (h vs s₁ n o s' (layAllW_rest _ _ _ h2.1).2.2.2 h6.1).elim fun n' e => ⟨n', o, s', e, h6.2⟩
theorem unguard {c : ClaimW} {tree : List Value → Sem Fin} {u : Sem Fin} {defs kps : List Str} {writes : Bool}
    (h : c.HoldsOpenBy (fun vs => ⟨guarded (tree vs) u, .builtin "claim.caller" {}, default, []⟩) defs kps writes) : c.HoldsOpenBy (fun vs => ⟨tree vs, .builtin "claim.caller" {}, default, []⟩) defs kps writes :=
  ⟨h.1, h.2.1, fun w => ⟨(h.2.2 w).1, fun s hs => ((h.2.2 w).2 s hs).imp fun s₀ h1 => h1.imp (fun x => x) fun h2 => h2.imp (fun x => x) fun h3 => h3.imp fun s₁ h4 => h4.imp (fun x => x) fun h5 => h5.imp (fun x => x) fun h6 => h6.imp (fun x => x) fun h7 => h7.imp (fun x => x)
    (callFrom_imp fun vs s₂ n o s' hlf e => sched_unguard (Shared.asleep_of_life (hlf.trans (h4.1.2.1.trans (fence_lifeW h1.1))) (AfterImport.life (show AfterImport (opening c.prog) w s from hs))) e)⟩⟩
theorem PySem.W.holds_open {r : OpenRow} {q : Program} {loose : List Str} {Xt : Shared → Bool} {XP : (Str → Option Value) → Heap → Prop} {α : Type} {Yf : Shared → α} {Ya : World → α} {YP : World → Heap → Prop} {d : DefRec} {kwd : List (Str × Expr)} {N : Nat}
    (left : LeftO r.prog q loose Xt Yf Ya N) (hY : ∀ w s, Yf s = Ya w → YP w s.heap) (hYk : ∀ w h h', YP w h → (∀ b o, h.get? b = some o → h'.get? b = some o) → YP w h')
    (hX : ∀ s, Xt s = true → XP (s.heap.nsMap mainGlobals) s.heap) (hXk : ∀ mg h h', XP mg h → (∀ b o, h.get? b = some o → h'.get? b = some o) → XP mg h')
    (hdef : defOf q r.name = some (d, kwd)) (hp : r.prog.theDef r.name = some (d.params, d.body, d.scope)) (hk : kwWritten? d.params.kwonlyargs d.params.kw_defaults = some kwd) (hRf : ∀ s, Xt s = true → RecFacts r.records s.heap) (hwr : (!r.writes || r.records.isEmpty) = true)
    (k1 : r.wellSaid = true) (ok : (chainsOk q && opensWell r.prog && (frees r.toRowW && r.within.isEmpty)) = true) (hb : r.prog.bare) (hw : r.toRowW.promised)
    (call : WalkO q loose XP YP r.toRowW d kwd fun f vs => guarded (PySem.call f vs) (pure (.bool true))) : r.Holds := by
  refine ⟨k1, hw, unguard (u := ret (.bool true)) (open_anyG (r := r.toRowW) (run := fun f vs => guarded (PySem.call f vs) (pure (.bool true))) left hY hYk hX hXk hRf hwr ok hb hw
    (fun vs w s mg f Q E hg hf h => guarded_map h (fun h1 => wpP_bind (wpP_of (wpAny_nsGet hg (by rw [hf]; exact wpP_bind (wpP_mono h1 (fun _ _ x => wpP_pure x) fun _ _ x => x))))) fun Γ p z => z)
    (fun w s hg G n hn => ?_) fun w s₀ s₁ mg mb G Y args vs as hpre hlay L low => ?_)⟩
  · obtain rfl : n = r.name := by split at hn <;> simp_all
    exact pinned_of_view hg G hdef hp hk
  · obtain ⟨a, o, pm, cd, doc, dV, kV, h1, h2, h3, h4, h5⟩ := G.fn hdef
    exact ⟨.ref a, h1, call w s₀ s₁ mg mb G Y a o pm cd doc dV kV h2 h3 h4 h5 (defOf_name hdef ▸ h1) L.gens args vs as hpre hlay L.reads L.well (L.low low)⟩
end Nv
end
section
open PySem PySem.W PySem.Calls PyProof.Rows PyProof.V PySem.Spec
namespace Nv
noncomputable def nth : List Stmt → Nat → Stmt
  | [], _ => default
  | s :: _, 0 => s
  | _ :: l, n + 1 => nth l n
noncomputable def nst (i : Nat) : Stmt := nth PySem.Challenge.pw_xm0756_01.main.body i
noncomputable def nsc (i j : Nat) : Stmt := match nst i with
  | .ClassDef (body := b) .. => nth b j
  | _ => default
noncomputable def nfn (s : Stmt) (name qual : Str) (dV kV doc pm : Value) (an : Option Addr) (cdv ct : Value) : Obj := match s with
  | .FunctionDef (args := a) (body := b) (scope := sc) .. => ⟨.type "function", none, .func (fnOf name qual a b sc dV kV doc pm an cdv ct), #[]⟩
  | _ => default
noncomputable def nob (c : String) (d : Data) : Obj := ⟨.type c, none, d, #[]⟩
noncomputable def nde (P : Params) (k : String) (n : Nat) (v : Value) : DictEntry := ⟨PyData.keyHash P (Str.ofString k), .str (Str.ofString k) n, v⟩
noncomputable def heapK (P : Params) : Frag := [
  (2, { cls := .none, data := .dict #[nde P "type.__subclasses__.Exception.0" 214 (.int 31 0), nde P "type.__subclasses__.Exception.n" 215 (.int 1 0)] 2 }),
  (3, { cls := .type "dict", data := .dict #[nde P "__name__" 165 (.str "law_xm0756_01" 609), nde P "__doc__" 166 .none, nde P "__package__" 167 .none, nde P "__loader__" 168 (.builtin "__main__.__loader__#opaque"), nde P "__spec__" 169 .none, nde P "__annotations__" 170 (.ref 6), nde P "__builtins__" 171 (.ref 4), nde P "__file__" 173 (.str "/claim/cut.py" 172), nde P "__cached__" 174 .none, nde P "PagebaseError" 217 (.ref 31), nde P "CorruptError" 233 (.ref 44), nde P "HEADER_SIZE" 235 (.int 32 234), nde P "WORD" 239 (.int 18446744073709551616 238), nde P "put_varint" 251 (.ref 53), nde P "get_varint" 262 (.ref 60), nde P "signed" 269 (.ref 67), nde P "INNER_KEYS" 273 (.int 2 272), nde P "INNER_ROWS" 275 (.int 5 274), nde P "LEAF_KEYS" 277 (.int 10 276), nde P "LEAF_ROWS" 279 (.int 13 278), nde P "KINDS" 280 (.ref 68), nde P "LEAST_CELL" 282 (.int 4 281), nde P "two_at" 290 (.ref 75), nde P "four_at" 298 (.ref 82), nde P "put_two" 307 (.ref 89), nde P "put_four" 316 (.ref 96), nde P "four_octets" 324 (.ref 103), nde P "is_leaf" 331 (.ref 110), nde P "is_leaf_node_view" 332 (.ref 110), nde P "is_rows" 339 (.ref 117), nde P "is_rows_node_view" 340 (.ref 117), nde P "max_local" 348 (.ref 124), nde P "min_local" 355 (.ref 131), nde P "local_size" 367 (.ref 138), nde P "Cell" 420 (.ref 169), nde P "read_cell" 437 (.ref 180), nde P "NodeView" 608 (.ref 312), nde P "_law_pool" 621 (.ref 323), nde P "_law_take" 630 (.ref 330), nde P "_law_one" 638 (.ref 337), nde P "_law_two" 645 (.ref 344), nde P "_law_varint" 654 (.ref 351), nde P "_law_cell" 660 (.ref 356), nde P "_law_parts" 671 (.ref 363), nde P "_law_put" 681 (.ref 370), nde P "_law_laid" 687 (.ref 375), nde P "_law_is_refused" 694 (.ref 382), nde P "_law_cell_right" 711 (.ref 389), nde P "_law_bent_right" 717 (.ref 394), nde P "_law_right" 723 (.ref 399), nde P "law" 732 (.ref 406)] 51 }),
  (27, nob "code" (.fields #[.str "__init__" 201, .str "PagebaseError.__init__" 202, .str "/claim/cut.py" 203, .int 4 0, .int 2 0, .int 0 0, .int 0 0, .int 3 0, .ref 22, .bool true, .int 181 0, .ref 23, .none, .ref 24, .ref 25, .ref 26, .int 206 0, .int 4 0, .str "/claim/cut.py" 207])),
  (28, nfn (nsc 1 0) "__init__" "PagebaseError.__init__" .none .none .none (.str "pagebase.errors" 187) none (.ref 27) .none),
  (30, { cls := .type "dict", data := .dict #[nde P "__module__" 196 (.str "pagebase.errors" 187), nde P "__firstlineno__" 200 (.int 2 199), nde P "__init__" 208 (.ref 28), nde P "__static_attributes__" 210 (.ref 29), nde P "__weakref__" 212 (.ref 32), nde P "__doc__" 213 .none] 3 }),
  (31, { cls := .type "type", data := .cls { name := "PagebaseError", bases := [.type "Exception"], mro := [.ref 31, .type "Exception", .type "BaseException", .type "object"], ns := 30, qualname := "PagebaseError", subclasses := [.ref 44] }, slots := #[some (.ref 15), none, some (.str "PagebaseError" 189), some (.str "PagebaseError" 197), some (.builtin "Exception.__new__"), some (.bool true)] }),
  (43, { cls := .type "dict", data := .dict #[nde P "__module__" 225 (.str "pagebase.errors" 187), nde P "__firstlineno__" 229 (.int 6 228), nde P "__static_attributes__" 230 (.ref 42), nde P "__doc__" 231 .none] 2 }),
  (44, { cls := .type "type", data := .cls { name := "CorruptError", bases := [.ref 31], mro := [.ref 44, .ref 31, .type "Exception", .type "BaseException", .type "object"], ns := 43, qualname := "CorruptError" }, slots := #[some (.ref 35), none, some (.str "CorruptError" 218), some (.str "CorruptError" 226), some (.builtin "Exception.__new__"), some (.bool true)] }),
  (52, nob "code" (.fields #[.str "put_varint" 242, .str "put_varint" 243, .str "/claim/cut.py" 244, .int 11 0, .int 1 0, .int 0 0, .int 0 0, .int 3 0, .ref 47, .bool true, .int 181 0, .ref 48, .none, .ref 49, .ref 50, .ref 51, .int 249 0, .int 11 0, .str "/claim/cut.py" 250])),
  (53, nfn (nst 6) "put_varint" "put_varint" .none .none .none (.str "pagebase.records" 240) none (.ref 52) .none),
  (59, nob "code" (.fields #[.str "get_varint" 252, .str "get_varint" 253, .str "/claim/cut.py" 254, .int 28 0, .int 2 0, .int 0 0, .int 0 0, .int 3 0, .ref 54, .bool true, .int 181 0, .ref 55, .none, .ref 56, .ref 57, .ref 58, .int 260 0, .int 28 0, .str "/claim/cut.py" 261])),
  (60, nfn (nst 7) "get_varint" "get_varint" .none .none .none (.str "pagebase.records" 240) none (.ref 59) .none),
  (66, nob "code" (.fields #[.str "signed" 263, .str "signed" 264, .str "/claim/cut.py" 265, .int 41 0, .int 1 0, .int 0 0, .int 0 0, .int 3 0, .ref 61, .bool true, .int 181 0, .ref 62, .none, .ref 63, .ref 64, .ref 65, .int 267 0, .int 41 0, .str "/claim/cut.py" 268])),
  (67, nfn (nst 8) "signed" "signed" .none .none .none (.str "pagebase.records" 240) none (.ref 66) .none),
  (68, { cls := .type "tuple", data := .seq #[.int 2 272, .int 5 274, .int 10 276, .int 13 278] }),
  (74, nob "code" (.fields #[.str "two_at" 283, .str "two_at" 284, .str "/claim/cut.py" 285, .int 52 0, .int 2 0, .int 0 0, .int 0 0, .int 3 0, .ref 69, .bool true, .int 181 0, .ref 70, .none, .ref 71, .ref 72, .ref 73, .int 288 0, .int 52 0, .str "/claim/cut.py" 289])),
  (75, nfn (nst 16) "two_at" "two_at" .none .none .none (.str "pagebase.node_view" 270) none (.ref 74) .none),
  (81, nob "code" (.fields #[.str "four_at" 291, .str "four_at" 292, .str "/claim/cut.py" 293, .int 54 0, .int 2 0, .int 0 0, .int 0 0, .int 3 0, .ref 76, .bool true, .int 181 0, .ref 77, .none, .ref 78, .ref 79, .ref 80, .int 296 0, .int 54 0, .str "/claim/cut.py" 297])),
  (82, nfn (nst 17) "four_at" "four_at" .none .none .none (.str "pagebase.node_view" 270) none (.ref 81) .none),
  (88, nob "code" (.fields #[.str "put_two" 299, .str "put_two" 300, .str "/claim/cut.py" 301, .int 56 0, .int 3 0, .int 0 0, .int 0 0, .int 3 0, .ref 83, .bool true, .int 181 0, .ref 84, .none, .ref 85, .ref 86, .ref 87, .int 305 0, .int 56 0, .str "/claim/cut.py" 306])),
  (89, nfn (nst 18) "put_two" "put_two" .none .none .none (.str "pagebase.node_view" 270) none (.ref 88) .none),
  (95, nob "code" (.fields #[.str "put_four" 308, .str "put_four" 309, .str "/claim/cut.py" 310, .int 59 0, .int 3 0, .int 0 0, .int 0 0, .int 3 0, .ref 90, .bool true, .int 181 0, .ref 91, .none, .ref 92, .ref 93, .ref 94, .int 314 0, .int 59 0, .str "/claim/cut.py" 315])),
  (96, nfn (nst 19) "put_four" "put_four" .none .none .none (.str "pagebase.node_view" 270) none (.ref 95) .none),
  (102, nob "code" (.fields #[.str "four_octets" 317, .str "four_octets" 318, .str "/claim/cut.py" 319, .int 62 0, .int 1 0, .int 0 0, .int 0 0, .int 3 0, .ref 97, .bool true, .int 181 0, .ref 98, .none, .ref 99, .ref 100, .ref 101, .int 322 0, .int 62 0, .str "/claim/cut.py" 323])),
  (103, nfn (nst 20) "four_octets" "four_octets" .none .none .none (.str "pagebase.node_view" 270) none (.ref 102) .none),
  (109, nob "code" (.fields #[.str "is_leaf" 325, .str "is_leaf" 326, .str "/claim/cut.py" 327, .int 66 0, .int 1 0, .int 0 0, .int 0 0, .int 3 0, .ref 104, .bool true, .int 181 0, .ref 105, .none, .ref 106, .ref 107, .ref 108, .int 329 0, .int 66 0, .str "/claim/cut.py" 330])),
  (110, nfn (nst 21) "is_leaf" "is_leaf" .none .none .none (.str "pagebase.node_view" 270) none (.ref 109) .none),
  (116, nob "code" (.fields #[.str "is_rows" 333, .str "is_rows" 334, .str "/claim/cut.py" 335, .int 69 0, .int 1 0, .int 0 0, .int 0 0, .int 3 0, .ref 111, .bool true, .int 181 0, .ref 112, .none, .ref 113, .ref 114, .ref 115, .int 337 0, .int 69 0, .str "/claim/cut.py" 338])),
  (117, nfn (nst 23) "is_rows" "is_rows" .none .none .none (.str "pagebase.node_view" 270) none (.ref 116) .none),
  (123, nob "code" (.fields #[.str "max_local" 341, .str "max_local" 342, .str "/claim/cut.py" 343, .int 72 0, .int 2 0, .int 0 0, .int 0 0, .int 3 0, .ref 118, .bool true, .int 181 0, .ref 119, .none, .ref 120, .ref 121, .ref 122, .int 346 0, .int 72 0, .str "/claim/cut.py" 347])),
  (124, nfn (nst 25) "max_local" "max_local" .none .none .none (.str "pagebase.node_view" 270) none (.ref 123) .none),
  (130, nob "code" (.fields #[.str "min_local" 349, .str "min_local" 350, .str "/claim/cut.py" 351, .int 76 0, .int 1 0, .int 0 0, .int 0 0, .int 3 0, .ref 125, .bool true, .int 181 0, .ref 126, .none, .ref 127, .ref 128, .ref 129, .int 353 0, .int 76 0, .str "/claim/cut.py" 354])),
  (131, nfn (nst 26) "min_local" "min_local" .none .none .none (.str "pagebase.node_view" 270) none (.ref 130) .none),
  (137, nob "code" (.fields #[.str "local_size" 356, .str "local_size" 357, .str "/claim/cut.py" 358, .int 78 0, .int 3 0, .int 0 0, .int 0 0, .int 3 0, .ref 132, .bool true, .int 181 0, .ref 133, .none, .ref 134, .ref 135, .ref 136, .int 365 0, .int 78 0, .str "/claim/cut.py" 366])),
  (138, nfn (nst 27) "local_size" "local_size" .none .none .none (.str "pagebase.node_view" 270) none (.ref 137) .none),
  (151, nob "code" (.fields #[.str "__init__" 380, .str "Cell.__init__" 381, .str "/claim/cut.py" 382, .int 89 0, .int 6 0, .int 0 0, .int 0 0, .int 3 0, .ref 146, .bool true, .int 181 0, .ref 147, .none, .ref 148, .ref 149, .ref 150, .int 389 0, .int 89 0, .str "/claim/cut.py" 390])),
  (152, nfn (nsc 28 0) "__init__" "Cell.__init__" .none .none .none (.str "pagebase.node_view" 270) none (.ref 151) .none),
  (158, nob "code" (.fields #[.str "rest" 392, .str "Cell.rest" 393, .str "/claim/cut.py" 394, .int 96 0, .int 1 0, .int 0 0, .int 0 0, .int 3 0, .ref 153, .bool true, .int 181 0, .ref 154, .none, .ref 155, .ref 156, .ref 157, .int 396 0, .int 96 0, .str "/claim/cut.py" 397])),
  (159, nfn (nsc 28 1) "rest" "Cell.rest" .none .none .none (.str "pagebase.node_view" 270) none (.ref 158) .none),
  (165, nob "code" (.fields #[.str "octets" 399, .str "Cell.octets" 400, .str "/claim/cut.py" 401, .int 99 0, .int 2 0, .int 0 0, .int 0 0, .int 3 0, .ref 160, .bool true, .int 181 0, .ref 161, .none, .ref 162, .ref 163, .ref 164, .int 405 0, .int 99 0, .str "/claim/cut.py" 406])),
  (166, nfn (nsc 28 2) "octets" "Cell.octets" .none .none .none (.str "pagebase.node_view" 270) none (.ref 165) .none),
  (168, { cls := .type "dict", data := .dict #[nde P "__module__" 375 (.str "pagebase.node_view" 270), nde P "__firstlineno__" 379 (.int 87 378), nde P "__init__" 391 (.ref 152), nde P "rest" 398 (.ref 159), nde P "octets" 407 (.ref 166), nde P "__static_attributes__" 413 (.ref 167), nde P "__dict__" 415 (.ref 170), nde P "__weakref__" 417 (.ref 171), nde P "__doc__" 418 .none] 4 }),
  (169, { cls := .type "type", data := .cls { name := "Cell", bases := [.type "object"], mro := [.ref 169, .type "object"], ns := 168, qualname := "Cell" }, slots := #[none, none, some (.str "Cell" 368), some (.str "Cell" 376), some (.builtin "object.__new__"), some (.bool true)] }),
  (179, nob "code" (.fields #[.str "read_cell" 421, .str "read_cell" 422, .str "/claim/cut.py" 423, .int 112 0, .int 4 0, .int 0 0, .int 0 0, .int 3 0, .ref 174, .bool true, .int 181 0, .ref 175, .none, .ref 176, .ref 177, .ref 178, .int 435 0, .int 112 0, .str "/claim/cut.py" 436])),
  (180, nfn (nst 29) "read_cell" "read_cell" .none .none .none (.str "pagebase.node_view" 270) none (.ref 179) .none),
  (193, nob "code" (.fields #[.str "__init__" 450, .str "NodeView.__init__" 451, .str "/claim/cut.py" 452, .int 141 0, .int 4 0, .int 0 0, .int 0 0, .int 3 0, .ref 188, .bool true, .int 181 0, .ref 189, .none, .ref 190, .ref 191, .ref 192, .int 457 0, .int 141 0, .str "/claim/cut.py" 458])),
  (194, nfn (nsc 30 0) "__init__" "NodeView.__init__" .none .none .none (.str "pagebase.node_view" 270) none (.ref 193) .none),
  (200, nob "code" (.fields #[.str "kind" 460, .str "NodeView.kind" 461, .str "/claim/cut.py" 462, .int 149 0, .int 1 0, .int 0 0, .int 0 0, .int 3 0, .ref 195, .bool true, .int 181 0, .ref 196, .none, .ref 197, .ref 198, .ref 199, .int 465 0, .int 149 0, .str "/claim/cut.py" 466])),
  (201, nfn (nsc 30 1) "kind" "NodeView.kind" .none .none .none (.str "pagebase.node_view" 270) none (.ref 200) .none),
  (207, nob "code" (.fields #[.str "is_leaf" 468, .str "NodeView.is_leaf" 469, .str "/claim/cut.py" 470, .int 155 0, .int 1 0, .int 0 0, .int 0 0, .int 3 0, .ref 202, .bool true, .int 181 0, .ref 203, .none, .ref 204, .ref 205, .ref 206, .int 472 0, .int 155 0, .str "/claim/cut.py" 473])),
  (208, nfn (nsc 30 2) "is_leaf" "NodeView.is_leaf" .none .none .none (.str "pagebase.node_view" 270) none (.ref 207) .none),
  (214, nob "code" (.fields #[.str "is_rows" 475, .str "NodeView.is_rows" 476, .str "/claim/cut.py" 477, .int 158 0, .int 1 0, .int 0 0, .int 0 0, .int 3 0, .ref 209, .bool true, .int 181 0, .ref 210, .none, .ref 211, .ref 212, .ref 213, .int 479 0, .int 158 0, .str "/claim/cut.py" 480])),
  (215, nfn (nsc 30 3) "is_rows" "NodeView.is_rows" .none .none .none (.str "pagebase.node_view" 270) none (.ref 214) .none),
  (221, nob "code" (.fields #[.str "count" 482, .str "NodeView.count" 483, .str "/claim/cut.py" 484, .int 161 0, .int 1 0, .int 0 0, .int 0 0, .int 3 0, .ref 216, .bool true, .int 181 0, .ref 217, .none, .ref 218, .ref 219, .ref 220, .int 486 0, .int 161 0, .str "/claim/cut.py" 487])),
  (222, nfn (nsc 30 4) "count" "NodeView.count" .none .none .none (.str "pagebase.node_view" 270) none (.ref 221) .none),
  (228, nob "code" (.fields #[.str "pointers" 489, .str "NodeView.pointers" 490, .str "/claim/cut.py" 491, .int 164 0, .int 1 0, .int 0 0, .int 0 0, .int 3 0, .ref 223, .bool true, .int 181 0, .ref 224, .none, .ref 225, .ref 226, .ref 227, .int 493 0, .int 164 0, .str "/claim/cut.py" 494])),
  (229, nfn (nsc 30 5) "pointers" "NodeView.pointers" .none .none .none (.str "pagebase.node_view" 270) none (.ref 228) .none),
  (235, nob "code" (.fields #[.str "content" 496, .str "NodeView.content" 497, .str "/claim/cut.py" 498, .int 169 0, .int 1 0, .int 0 0, .int 0 0, .int 3 0, .ref 230, .bool true, .int 181 0, .ref 231, .none, .ref 232, .ref 233, .ref 234, .int 500 0, .int 169 0, .str "/claim/cut.py" 501])),
  (236, nfn (nsc 30 6) "content" "NodeView.content" .none .none .none (.str "pagebase.node_view" 270) none (.ref 235) .none),
  (242, nob "code" (.fields #[.str "fragments" 503, .str "NodeView.fragments" 504, .str "/claim/cut.py" 505, .int 172 0, .int 1 0, .int 0 0, .int 0 0, .int 3 0, .ref 237, .bool true, .int 181 0, .ref 238, .none, .ref 239, .ref 240, .ref 241, .int 507 0, .int 172 0, .str "/claim/cut.py" 508])),
  (243, nfn (nsc 30 7) "fragments" "NodeView.fragments" .none .none .none (.str "pagebase.node_view" 270) none (.ref 242) .none),
  (249, nob "code" (.fields #[.str "right" 510, .str "NodeView.right" 511, .str "/claim/cut.py" 512, .int 175 0, .int 1 0, .int 0 0, .int 0 0, .int 3 0, .ref 244, .bool true, .int 181 0, .ref 245, .none, .ref 246, .ref 247, .ref 248, .int 514 0, .int 175 0, .str "/claim/cut.py" 515])),
  (250, nfn (nsc 30 8) "right" "NodeView.right" .none .none .none (.str "pagebase.node_view" 270) none (.ref 249) .none),
  (256, nob "code" (.fields #[.str "octets" 517, .str "NodeView.octets" 518, .str "/claim/cut.py" 519, .int 178 0, .int 1 0, .int 0 0, .int 0 0, .int 3 0, .ref 251, .bool true, .int 181 0, .ref 252, .none, .ref 253, .ref 254, .ref 255, .int 521 0, .int 178 0, .str "/claim/cut.py" 522])),
  (257, nfn (nsc 30 9) "octets" "NodeView.octets" .none .none .none (.str "pagebase.node_view" 270) none (.ref 256) .none),
  (263, nob "code" (.fields #[.str "place" 524, .str "NodeView.place" 525, .str "/claim/cut.py" 526, .int 181 0, .int 2 0, .int 0 0, .int 0 0, .int 3 0, .ref 258, .bool true, .int 181 0, .ref 259, .none, .ref 260, .ref 261, .ref 262, .int 531 0, .int 181 0, .str "/claim/cut.py" 532])),
  (264, nfn (nsc 30 10) "place" "NodeView.place" .none .none .none (.str "pagebase.node_view" 270) none (.ref 263) .none),
  (270, nob "code" (.fields #[.str "cell" 534, .str "NodeView.cell" 535, .str "/claim/cut.py" 536, .int 190 0, .int 2 0, .int 0 0, .int 0 0, .int 3 0, .ref 265, .bool true, .int 181 0, .ref 266, .none, .ref 267, .ref 268, .ref 269, .int 541 0, .int 190 0, .str "/claim/cut.py" 542])),
  (271, nfn (nsc 30 11) "cell" "NodeView.cell" .none .none .none (.str "pagebase.node_view" 270) none (.ref 270) .none),
  (277, nob "code" (.fields #[.str "raw" 544, .str "NodeView.raw" 545, .str "/claim/cut.py" 546, .int 194 0, .int 2 0, .int 0 0, .int 0 0, .int 3 0, .ref 272, .bool true, .int 181 0, .ref 273, .none, .ref 274, .ref 275, .ref 276, .int 552 0, .int 194 0, .str "/claim/cut.py" 553])),
  (278, nfn (nsc 30 12) "raw" "NodeView.raw" .none .none .none (.str "pagebase.node_view" 270) none (.ref 277) .none),
  (282, nob "code" (.fields #[.str "raws" 555, .str "NodeView.raws" 556, .str "/claim/cut.py" 557, .int 199 0, .int 1 0, .int 0 0, .int 0 0, .int 3 0, .ref 279, .bool true, .int 181 0, .ref 280, .none, .none, .none, .ref 281, .int 558 0, .int 199 0, .str "/claim/cut.py" 559])),
  (283, nfn (nsc 30 13) "raws" "NodeView.raws" .none .none .none (.str "pagebase.node_view" 270) none (.ref 282) .none),
  (289, nob "code" (.fields #[.str "rowid" 561, .str "NodeView.rowid" 562, .str "/claim/cut.py" 563, .int 202 0, .int 2 0, .int 0 0, .int 0 0, .int 3 0, .ref 284, .bool true, .int 181 0, .ref 285, .none, .ref 286, .ref 287, .ref 288, .int 569 0, .int 202 0, .str "/claim/cut.py" 570])),
  (290, nfn (nsc 30 14) "rowid" "NodeView.rowid" .none .none .none (.str "pagebase.node_view" 270) none (.ref 289) .none),
  (296, nob "code" (.fields #[.str "child" 572, .str "NodeView.child" 573, .str "/claim/cut.py" 574, .int 211 0, .int 2 0, .int 0 0, .int 0 0, .int 3 0, .ref 291, .bool true, .int 181 0, .ref 292, .none, .ref 293, .ref 294, .ref 295, .int 577 0, .int 211 0, .str "/claim/cut.py" 578])),
  (297, nfn (nsc 30 15) "child" "NodeView.child" .none .none .none (.str "pagebase.node_view" 270) none (.ref 296) .none),
  (301, nob "code" (.fields #[.str "children" 580, .str "NodeView.children" 581, .str "/claim/cut.py" 582, .int 216 0, .int 1 0, .int 0 0, .int 0 0, .int 3 0, .ref 298, .bool true, .int 181 0, .ref 299, .none, .none, .none, .ref 300, .int 583 0, .int 216 0, .str "/claim/cut.py" 584])),
  (302, nfn (nsc 30 16) "children" "NodeView.children" .none .none .none (.str "pagebase.node_view" 270) none (.ref 301) .none),
  (308, nob "code" (.fields #[.str "blocks" 586, .str "NodeView.blocks" 587, .str "/claim/cut.py" 588, .int 221 0, .int 1 0, .int 0 0, .int 0 0, .int 3 0, .ref 303, .bool true, .int 181 0, .ref 304, .none, .ref 305, .ref 306, .ref 307, .int 594 0, .int 221 0, .str "/claim/cut.py" 595])),
  (309, nfn (nsc 30 17) "blocks" "NodeView.blocks" .none .none .none (.str "pagebase.node_view" 270) none (.ref 308) .none),
  (311, { cls := .type "dict", data := .dict #[nde P "__module__" 445 (.str "pagebase.node_view" 270), nde P "__firstlineno__" 449 (.int 139 448), nde P "__init__" 459 (.ref 194), nde P "kind" 467 (.ref 201), nde P "is_leaf" 474 (.ref 208), nde P "is_rows" 481 (.ref 215), nde P "count" 488 (.ref 222), nde P "pointers" 495 (.ref 229), nde P "content" 502 (.ref 236), nde P "fragments" 509 (.ref 243), nde P "right" 516 (.ref 250), nde P "octets" 523 (.ref 257), nde P "place" 533 (.ref 264), nde P "cell" 543 (.ref 271), nde P "raw" 554 (.ref 278), nde P "raws" 560 (.ref 283), nde P "rowid" 571 (.ref 290), nde P "child" 579 (.ref 297), nde P "children" 585 (.ref 302), nde P "blocks" 596 (.ref 309), nde P "__static_attributes__" 601 (.ref 310), nde P "__dict__" 603 (.ref 313), nde P "__weakref__" 605 (.ref 314), nde P "__doc__" 606 .none] 4 }),
  (312, { cls := .type "type", data := .cls { name := "NodeView", bases := [.type "object"], mro := [.ref 312, .type "object"], ns := 311, qualname := "NodeView" }, slots := #[none, none, some (.str "NodeView" 438), some (.str "NodeView" 446), some (.builtin "object.__new__"), some (.bool true)] }),
  (322, nob "code" (.fields #[.str "_law_pool" 611, .str "_law_pool" 612, .str "/claim/cut.py" 613, .int 236 0, .int 2 0, .int 0 0, .int 0 0, .int 3 0, .ref 317, .bool true, .int 181 0, .ref 318, .none, .ref 319, .ref 320, .ref 321, .int 619 0, .int 236 0, .str "/claim/cut.py" 620])),
  (323, nfn (nst 32) "_law_pool" "_law_pool" .none .none .none (.str "law_xm0756_01" 609) none (.ref 322) .none),
  (329, nob "code" (.fields #[.str "_law_take" 622, .str "_law_take" 623, .str "/claim/cut.py" 624, .int 243 0, .int 2 0, .int 0 0, .int 0 0, .int 3 0, .ref 324, .bool true, .int 181 0, .ref 325, .none, .ref 326, .ref 327, .ref 328, .int 628 0, .int 243 0, .str "/claim/cut.py" 629])),
  (330, nfn (nst 33) "_law_take" "_law_take" .none .none .none (.str "law_xm0756_01" 609) none (.ref 329) .none),
  (336, nob "code" (.fields #[.str "_law_one" 631, .str "_law_one" 632, .str "/claim/cut.py" 633, .int 250 0, .int 2 0, .int 0 0, .int 0 0, .int 3 0, .ref 331, .bool true, .int 181 0, .ref 332, .none, .ref 333, .ref 334, .ref 335, .int 636 0, .int 250 0, .str "/claim/cut.py" 637])),
  (337, nfn (nst 34) "_law_one" "_law_one" .none .none .none (.str "law_xm0756_01" 609) none (.ref 336) .none),
  (343, nob "code" (.fields #[.str "_law_two" 639, .str "_law_two" 640, .str "/claim/cut.py" 641, .int 252 0, .int 1 0, .int 0 0, .int 0 0, .int 3 0, .ref 338, .bool true, .int 181 0, .ref 339, .none, .ref 340, .ref 341, .ref 342, .int 643 0, .int 252 0, .str "/claim/cut.py" 644])),
  (344, nfn (nst 35) "_law_two" "_law_two" .none .none .none (.str "law_xm0756_01" 609) none (.ref 343) .none),
  (350, nob "code" (.fields #[.str "_law_varint" 646, .str "_law_varint" 647, .str "/claim/cut.py" 648, .int 254 0, .int 1 0, .int 0 0, .int 0 0, .int 3 0, .ref 345, .bool true, .int 181 0, .ref 346, .none, .ref 347, .ref 348, .ref 349, .int 652 0, .int 254 0, .str "/claim/cut.py" 653])),
  (351, nfn (nst 36) "_law_varint" "_law_varint" .none .none .none (.str "law_xm0756_01" 609) none (.ref 350) .none),
  (355, nob "code" (.fields #[.str "_law_cell" 655, .str "_law_cell" 656, .str "/claim/cut.py" 657, .int 262 0, .int 2 0, .int 0 0, .int 0 0, .int 3 0, .ref 352, .bool true, .int 181 0, .ref 353, .none, .none, .none, .ref 354, .int 658 0, .int 262 0, .str "/claim/cut.py" 659])),
  (356, nfn (nst 37) "_law_cell" "_law_cell" .none .none .none (.str "law_xm0756_01" 609) none (.ref 355) .none),
  (362, nob "code" (.fields #[.str "_law_parts" 661, .str "_law_parts" 662, .str "/claim/cut.py" 663, .int 275 0, .int 2 0, .int 0 0, .int 0 0, .int 3 0, .ref 357, .bool true, .int 181 0, .ref 358, .none, .ref 359, .ref 360, .ref 361, .int 669 0, .int 275 0, .str "/claim/cut.py" 670])),
  (363, nfn (nst 38) "_law_parts" "_law_parts" .none .none .none (.str "law_xm0756_01" 609) none (.ref 362) .none),
  (369, nob "code" (.fields #[.str "_law_put" 672, .str "_law_put" 673, .str "/claim/cut.py" 674, .int 283 0, .int 3 0, .int 0 0, .int 0 0, .int 3 0, .ref 364, .bool true, .int 181 0, .ref 365, .none, .ref 366, .ref 367, .ref 368, .int 679 0, .int 283 0, .str "/claim/cut.py" 680])),
  (370, nfn (nst 39) "_law_put" "_law_put" .none .none .none (.str "law_xm0756_01" 609) none (.ref 369) .none),
  (374, nob "code" (.fields #[.str "_law_laid" 682, .str "_law_laid" 683, .str "/claim/cut.py" 684, .int 286 0, .int 5 0, .int 0 0, .int 0 0, .int 3 0, .ref 371, .bool true, .int 181 0, .ref 372, .none, .none, .none, .ref 373, .int 685 0, .int 286 0, .str "/claim/cut.py" 686])),
  (375, nfn (nst 40) "_law_laid" "_law_laid" .none .none .none (.str "law_xm0756_01" 609) none (.ref 374) .none),
  (381, nob "code" (.fields #[.str "_law_is_refused" 688, .str "_law_is_refused" 689, .str "/claim/cut.py" 690, .int 305 0, .int 1 0, .int 0 0, .int 0 0, .int 3 0, .ref 376, .bool true, .int 181 0, .ref 377, .none, .ref 378, .ref 379, .ref 380, .int 692 0, .int 305 0, .str "/claim/cut.py" 693])),
  (382, nfn (nst 41) "_law_is_refused" "_law_is_refused" .none .none .none (.str "law_xm0756_01" 609) none (.ref 381) .none),
  (388, nob "code" (.fields #[.str "_law_cell_right" 695, .str "_law_cell_right" 696, .str "/claim/cut.py" 697, .int 311 0, .int 5 0, .int 0 0, .int 0 0, .int 3 0, .ref 383, .bool true, .int 181 0, .ref 384, .none, .ref 385, .ref 386, .ref 387, .int 709 0, .int 311 0, .str "/claim/cut.py" 710])),
  (389, nfn (nst 42) "_law_cell_right" "_law_cell_right" .none .none .none (.str "law_xm0756_01" 609) none (.ref 388) .none),
  (393, nob "code" (.fields #[.str "_law_bent_right" 712, .str "_law_bent_right" 713, .str "/claim/cut.py" 714, .int 321 0, .int 5 0, .int 0 0, .int 0 0, .int 3 0, .ref 390, .bool true, .int 181 0, .ref 391, .none, .none, .none, .ref 392, .int 715 0, .int 321 0, .str "/claim/cut.py" 716])),
  (394, nfn (nst 43) "_law_bent_right" "_law_bent_right" .none .none .none (.str "law_xm0756_01" 609) none (.ref 393) .none),
  (398, nob "code" (.fields #[.str "_law_right" 718, .str "_law_right" 719, .str "/claim/cut.py" 720, .int 347 0, .int 1 0, .int 0 0, .int 0 0, .int 3 0, .ref 395, .bool true, .int 181 0, .ref 396, .none, .none, .none, .ref 397, .int 721 0, .int 347 0, .str "/claim/cut.py" 722])),
  (399, nfn (nst 44) "_law_right" "_law_right" .none .none .none (.str "law_xm0756_01" 609) none (.ref 398) .none),
  (405, nob "code" (.fields #[.str "law" 724, .str "law" 725, .str "/claim/cut.py" 726, .int 369 0, .int 1 0, .int 0 0, .int 0 0, .int 3 0, .ref 400, .bool true, .int 181 0, .ref 401, .none, .ref 402, .ref 403, .ref 404, .int 730 0, .int 369 0, .str "/claim/cut.py" 731])),
  (406, nfn (nst 45) "law" "law" .none .none .none (.str "law_xm0756_01" 609) none (.ref 405) .none)]
noncomputable def addrK : List Addr := [2, 3, 27, 28, 30, 31, 43, 44, 52, 53, 59, 60, 66, 67, 68, 74, 75, 81, 82, 88, 89, 95, 96, 102, 103, 109, 110, 116, 117, 123, 124, 130, 131, 137, 138, 151, 152, 158, 159, 165, 166, 168, 169, 179, 180, 193, 194, 200, 201, 207, 208, 214, 215, 221, 222, 228, 229, 235, 236, 242, 243, 249, 250, 256, 257, 263, 264, 270, 271, 277, 278, 282, 283, 289, 290, 296, 297, 301, 302, 308, 309, 311, 312, 322, 323, 329, 330, 336, 337, 343, 344, 350, 351, 355, 356, 362, 363, 369, 370, 374, 375, 381, 382, 388, 389, 393, 394, 398, 399, 405, 406]
theorem addr_heapK (P : Params) : addrK = (heapK P).map (·.1) := by kernel_rfl
noncomputable def viewK : Program := view PySem.Challenge.pw_xm0756_01 [1, 2, 3, 4, 6, 7, 8, 10, 11, 12, 13, 14, 15, 16, 17, 18, 19, 20, 21, 22, 23, 24, 25, 26, 27, 28, 29, 30, 32, 33, 34, 35, 36, 37, 38, 39, 40, 41, 42, 43, 44, 45]
noncomputable def looseK : List Str := ["WORD", "KINDS", "is_leaf_node_view", "is_rows_node_view"]
noncomputable def readK : List (Str × WData) := [("WORD", .int 18446744073709551616), ("KINDS", .tuple [.int 2, .int 5, .int 10, .int 13])]
noncomputable def hookK : Hook := kmHook heapK addrK addr_heapK [391, 396, 401]
noncomputable def xtK : Shared → Bool := fun s => xlAt viewK readK s && recOk (RowW.records PySem.Challenge.rw_xm0756_01.row.toRowW) s
end Nv
namespace Nv
theorem view_same : viewK.main.body.length = 42 := by decide +kernel
theorem ws1 : namesResolve PySem.Challenge.rw_xm0756_01.row.prog = true := by kernel_rfl
theorem ws2 : noRoadLSs { strict := !(importedModules PySem.Challenge.rw_xm0756_01.row.prog.main.body).all cThrough.contains, foot := none, bare := (["vars", "dir", "locals"] : List Str).filter (readsOut PySem.Challenge.rw_xm0756_01.row.prog PySem.Challenge.rw_xm0756_01.row.prog.main.body) } PySem.Challenge.rw_xm0756_01.row.prog.main.body = true := by kernel_rfl
theorem ws3 : (namesMeet PySem.Challenge.rw_xm0756_01.row.prog PySem.Challenge.rw_xm0756_01.row.prog.main.body fun _ n => attrL n) = true := by kernel_rfl
theorem ws4 : looksOpen PySem.Challenge.rw_xm0756_01.row.prog = true := by
  unfold looksOpen
  rw [ws1, ws2, ws3]
  kernel_rfl
theorem ws5 : PySem.Challenge.rw_xm0756_01.row.wellSaid = true := by
  unfold OpenRow.wellSaid OpenRow.partSaid
  rw [ws4]
  kernel_rfl
theorem ws6 : (noRoadLSs { strict := true, foot := some PySem.Challenge.rw_xm0756_01.bound', writes := PySem.Challenge.rw_xm0756_01.writes, may := PySem.Challenge.rw_xm0756_01.may } PySem.Challenge.rw_xm0756_01.footing && defStands PySem.Challenge.rw_xm0756_01.about PySem.Challenge.rw_xm0756_01.above && PySem.Challenge.rw_xm0756_01.namesIt) = true := by kernel_rfl
theorem ws7 : (namesMeet PySem.Challenge.rw_xm0756_01.prog PySem.Challenge.rw_xm0756_01.above (fun _ n => !PySem.Challenge.rw_xm0756_01.own.contains n) && namesMeet PySem.Challenge.rw_xm0756_01.prog PySem.Challenge.rw_xm0756_01.footing fun sc n => sc.kind == .module || sc.names.lookup n != some .globalExplicit) = true := by kernel_rfl
theorem looks_said : PySem.Challenge.rw_xm0756_01.wellSaid = true := by
  obtain ⟨a, b⟩ := Bool.and_eq_true_iff.mp ws6
  obtain ⟨a, c⟩ := Bool.and_eq_true_iff.mp a
  obtain ⟨d, e⟩ := Bool.and_eq_true_iff.mp ws7
  unfold OpenLaw.wellSaid
  rw [ws5, a, b, c, d, e]
  kernel_rfl
theorem look2 : (chainsOk viewK && opensWell PySem.Challenge.rw_xm0756_01.row.prog && (frees PySem.Challenge.rw_xm0756_01.row.toRowW && PySem.Challenge.rw_xm0756_01.row.within.isEmpty)) = true := by decide +kernel
end Nv
end
section
open PySem PySem.W PySem.Calls PyProof.Rows PyProof.V PySem.Spec
namespace Nv
noncomputable def topRunT (tb : String → Option Builtin) (p : Program) (w : World) (n₀ : Nat) (ann : Option Value) : Nat → SharedT → Thread → Option SharedT
  | 0, _, _ => none
  | n + 1, s, t => match through t with
    | true => some s
    | false => match stepOk n₀ ann t with
      | false => none
      | true => match stepT (denote tb) p w s t with
        | some (s', t') => topRunT tb p w n₀ ann n s' t'
        | none => none
theorem topRunT_spec {tb : String → Option Builtin} {p : Program} {w : World} {n₀ : Nat} {ann : Option Value} : ∀ (n : Nat) (s s' : SharedT) (t : Thread), topRunT tb p w n₀ ann n s t = some s' → topRun tb p w n₀ ann n s.abs t = some s'.abs
  | 0, _, _, _, h => by cases h
  | n + 1, s, s', t, h => by
    unfold topRunT at h
    unfold topRun
    cases ht : through t with
    | true => rw [ht] at h; cases h; rfl
    | false =>
      rw [ht] at h
      cases hk : stepOk n₀ ann t with
      | false => rw [hk] at h; cases h
      | true =>
        rw [hk] at h
        cases hs : stepT (denote tb) p w s t with
        | none => rw [hs] at h; cases h
        | some r => obtain ⟨s₂, t₂⟩ := r; rw [hs] at h; rw [stepT_spec hs]; exact topRunT_spec n s₂ s' t₂ h
noncomputable def topRunQ (tb : String → Option Builtin) (p : Program) (w : World) (n₀ : Nat) (ann : Option Value) (n : Nat) : SharedT → Thread → Option SharedT :=
  @Nat.rec (fun _ => SharedT → Thread → Option SharedT) (fun _ _ => none) (fun _ ih s t => match through t with
    | true => some s
    | false => match Fast.tw6613529449190102663 n₀ ann t with
      | false => none
      | true => match Fast.tw10156331382660048174 (Fast.tw11892475500146522536 tb) p w s t with
        | some (s', t') => ih s' t'
        | none => none) n
theorem topRunQ_eq {tb : String → Option Builtin} {p : Program} {w : World} {n₀ : Nat} {ann : Option Value} : ∀ (n : Nat) (s : SharedT) (t : Thread), topRunT tb p w n₀ ann n s t = topRunQ tb p w n₀ ann n s t
  | 0, _, _ => rfl
  | n + 1, s, t => by
    show topRunT tb p w n₀ ann (n + 1) s t = (match through t with
    | true => some s
    | false => match Fast.tw6613529449190102663 n₀ ann t with
      | false => none
      | true => match Fast.tw10156331382660048174 (Fast.tw11892475500146522536 tb) p w s t with
        | some (s', t') => topRunQ tb p w n₀ ann n s' t'
        | none => none)
    rw [← Fast.te6613529449190102663, ← Fast.te10156331382660048174, ← Fast.te11892475500146522536]
    unfold topRunT
    cases through t with
    | true => rfl
    | false => cases stepOk n₀ ann t with
      | false => rfl
      | true => cases stepT (denote tb) p w s t with
        | none => rfl
        | some r => obtain ⟨s₂, t₂⟩ := r; exact topRunQ_eq n s₂ t₂
theorem topRunQ_fn : @topRunT = @topRunQ := funext fun tb => funext fun p => funext fun w => funext fun n₀ => funext fun ann => funext fun n => funext fun s => funext fun t => topRunQ_eq n s t
theorem tree_run {tb : String → Option Builtin} {p : Program} {w : World} {n₀ : Nat} {ann : Option Value} {α : Type} {g : Shared → α} {S : Shared} {s : SharedT} (e : s.abs = S) {n : Nat} {t : Thread} {a : α}
    (h : (topRunT tb p w n₀ ann n s t).map (fun s => g s.abs) = some a) : (topRun tb p w n₀ ann n S t).map g = some a := by
  obtain ⟨s', r, l⟩ := Option.map_eq_some_iff.mp h
  rw [← e, topRunT_spec n s s' t r, Option.map_some]
  exact congrArg some l
noncomputable def mkT : List Obj → Nat → BT → BT
  | [], _, t => t
  | o :: l, n, t => mkT l (n + 1) (t.ins n o)
noncomputable def bootT (P : Params) : BT := mkT (boot_heap P).objs.toList 0 .nil
noncomputable def startT (w : World) (os : OsState) : SharedT := ⟨bootT w.params, 11, (boot_heap w.params).life, Array.mk [], boot_drawn, boot_toks, os⟩
theorem startT_abs (w : World) (os : OsState) : (startT w os).abs = ⟨boot_heap w.params, Array.mk [], boot_drawn, boot_toks, os⟩ := by kernel_rfl
theorem sizeK : ∀ w : World, ((boot_heap w.params).isNs mainGlobals && (Array.mk [] : Array GenState).size == 0, (boot_heap w.params).objs.size, (boot_heap w.params).nsMap mainGlobals "__annotations__") = (true, 11, some (Value.ref 6)) := fun w => by kernel_rfl
noncomputable def lookA (w : World) (s : Shared) := ((staticsOk (importedModules PySem.Challenge.pw_xm0756_01.main.body) (boot_heap w.params) s.heap && namesBound PySem.Challenge.pw_xm0756_01 s.heap && gensDone s && laidKept (boot_heap w.params) s.heap), (Fast.tw4187177175401517315 viewK looseK (importedModules PySem.Challenge.pw_xm0756_01.main.body) xtK true s).2.1, (Fast.tw4187177175401517315 viewK looseK (importedModules PySem.Challenge.pw_xm0756_01.main.body) xtK true s).2.2.2.2.1)
noncomputable def lookB (w : World) (s : Shared) := (hookK.obs s, (Fast.tw4187177175401517315 viewK looseK (importedModules PySem.Challenge.pw_xm0756_01.main.body) xtK true s).1)
noncomputable def lookC (w : World) (s : Shared) := ((Fast.tw4187177175401517315 viewK looseK (importedModules PySem.Challenge.pw_xm0756_01.main.body) xtK true s).2.2.1, (Fast.tw4187177175401517315 viewK looseK (importedModules PySem.Challenge.pw_xm0756_01.main.body) xtK true s).2.2.2.1, (Fast.tw4187177175401517315 viewK looseK (importedModules PySem.Challenge.pw_xm0756_01.main.body) xtK true s).2.2.2.2.2.2.2.1)
noncomputable def lookD (w : World) (s : Shared) := ((Fast.tw4187177175401517315 viewK looseK (importedModules PySem.Challenge.pw_xm0756_01.main.body) xtK true s).2.2.2.2.2.1, (Fast.tw4187177175401517315 viewK looseK (importedModules PySem.Challenge.pw_xm0756_01.main.body) xtK true s).2.2.2.2.2.2.1, (Fast.tw4187177175401517315 viewK looseK (importedModules PySem.Challenge.pw_xm0756_01.main.body) xtK true s).2.2.2.2.2.2.2.2)
noncomputable def lookX (w : World) (s : Shared) := ((staticsOk (importedModules PySem.Challenge.pw_xm0756_01.main.body) (boot_heap w.params) s.heap && namesBound PySem.Challenge.pw_xm0756_01 s.heap && gensDone s && laidKept (boot_heap w.params) s.heap), (Fast.tw4187177175401517315 viewK looseK (importedModules PySem.Challenge.pw_xm0756_01.main.body) xtK true s), hookK.obs s)
theorem runA (w : World) (os : OsState) : (topRunQ Fast.tw14364793385576792824 PySem.Challenge.pw_xm0756_01 w 11 (some (Value.ref 6)) 3000 (startT w os) (topStub PySem.Challenge.pw_xm0756_01)).map (fun s => lookA w s.abs) = some (true, bltViewBooted, pinGoodD (drecsOf viewK)) := by kernel_rfl
theorem runB (w : World) (os : OsState) : (topRunQ Fast.tw14364793385576792824 PySem.Challenge.pw_xm0756_01 w 11 (some (Value.ref 6)) 3000 (startT w os) (topStub PySem.Challenge.pw_xm0756_01)).map (fun s => lookB w s.abs) = some (hookK.val w, expectedOf viewK) := by kernel_rfl
theorem runC (w : World) (os : OsState) : (topRunQ Fast.tw14364793385576792824 PySem.Challenge.pw_xm0756_01 w 11 (some (Value.ref 6)) 3000 (startT w os) (topStub PySem.Challenge.pw_xm0756_01)).map (fun s => lookC w s.abs) = some (true, true, wideGood viewK) := by kernel_rfl
theorem runD (w : World) (os : OsState) : (topRunQ Fast.tw14364793385576792824 PySem.Challenge.pw_xm0756_01 w 11 (some (Value.ref 6)) 3000 (startT w os) (topStub PySem.Challenge.pw_xm0756_01)).map (fun s => lookD w s.abs) = some (plainGoodE viewK (looseW viewK looseK), plainGoodD viewK looseK, clsGoodW viewK looseK) := by kernel_rfl
theorem map4 {S A B C D E : Type} {o : Option S} {f : S → A} {g : S → B} {h : S → C} {i : S → D} {a : A} {b : B} {c : C} {d : D} {k : S → E} {e : E} (ha : o.map f = some a) (hb : o.map g = some b) (hc : o.map h = some c) (hd : o.map i = some d) (hk : ∀ s, f s = a → g s = b → h s = c → i s = d → k s = e) : o.map k = some e := by
  cases o with
  | none => cases ha
  | some s => exact congrArg some (hk s (Option.some.inj ha) (Option.some.inj hb) (Option.some.inj hc) (Option.some.inj hd))
theorem look_all {w : World} (s : Shared) (eA : lookA w s = (true, bltViewBooted, pinGoodD (drecsOf viewK))) (eB : lookB w s = (hookK.val w, expectedOf viewK)) (eC : lookC w s = (true, true, wideGood viewK)) (eD : lookD w s = (plainGoodE viewK (looseW viewK looseK), plainGoodD viewK looseK, clsGoodW viewK looseK)) : lookX w s = (true, openGood viewK looseK, hookK.val w) := by
  unfold lookA at eA
  unfold lookB at eB
  unfold lookC at eC
  unfold lookD at eD
  exact Prod.ext (congrArg (·.1) eA) (Prod.ext (Prod.ext (congrArg (·.2) eB) (Prod.ext (congrArg (·.2.1) eA) (Prod.ext (congrArg (·.1) eC) (Prod.ext (congrArg (·.2.1) eC) (Prod.ext (congrArg (·.2.2) eA) (Prod.ext (congrArg (·.1) eD) (Prod.ext (congrArg (·.2.1) eD) (Prod.ext (congrArg (·.2.2) eC) (congrArg (·.2.2) eD))))))))) (congrArg (·.1) eB))
theorem runT (w : World) (os : OsState) : (topRunQ Fast.tw14364793385576792824 PySem.Challenge.pw_xm0756_01 w 11 (some (Value.ref 6)) 3000 (startT w os) (topStub PySem.Challenge.pw_xm0756_01)).map (fun s => lookX w s.abs) = some (true, openGood viewK looseK, hookK.val w) := map4 (runA w os) (runB w os) (runC w os) (runD w os) fun s a b c d => look_all s.abs a b c d
theorem runK : ∀ w : World, (fun os => (topRun treeTable PySem.Challenge.pw_xm0756_01 w 11 (some (Value.ref 6)) 3000 ⟨boot_heap w.params, Array.mk [], boot_drawn, boot_toks, os⟩ (topStub PySem.Challenge.pw_xm0756_01)).map fun s =>
    ((staticsOk (importedModules PySem.Challenge.pw_xm0756_01.main.body) (boot_heap w.params) s.heap && namesBound PySem.Challenge.pw_xm0756_01 s.heap && gensDone s && laidKept (boot_heap w.params) s.heap),
      openSeen viewK looseK (importedModules PySem.Challenge.pw_xm0756_01.main.body) xtK true s, hookK.obs s)) = fun os => some (true, openGood viewK looseK, hookK.val w) := fun w => funext fun os => tree_run (startT_abs w os) (by
  rw [Fast.te14364793385576792824, Fast.te4187177175401517315, topRunQ_fn]
  exact runT w os)
theorem openK : ∀ w : World, (fencedOpening treeTable PySem.Challenge.pw_xm0756_01 w 5134).map (fun s => (s.heap, s.gens, s.drawn, s.toks)) = some (boot_heap w.params, Array.mk [], boot_drawn, boot_toks) := boot_open (by kernel_rfl) (by rfl) (fun s => by rfl)
theorem left_of_run {p q : Program} {loose : List Str} {Xt : Shared → Bool} {α : Type} {Yf : Shared → α} {Ya : World → α} {N : Nat} {g0 : Bool} {H₀ : Params → Heap} {gs₀ : Array GenState} {d₀ : Drawn} {k₀ m₀ : Nat} {ann : Option Value} {M : Nat}
    (open_ : ∀ w : World, (fencedOpening treeTable p w N).map (fun s => (s.heap, s.gens, s.drawn, s.toks)) = some (H₀ w.params, gs₀, d₀, k₀))
    (size : ∀ w : World, ((H₀ w.params).isNs mainGlobals && gs₀.size == 0, (H₀ w.params).objs.size, (H₀ w.params).nsMap mainGlobals "__annotations__") = (true, m₀, ann))
    (run : ∀ w : World, (fun os => (topRun treeTable p w m₀ ann M ⟨H₀ w.params, gs₀, d₀, k₀, os⟩ (topStub p)).map fun s =>
      ((staticsOk (importedModules p.main.body) (H₀ w.params) s.heap && namesBound p s.heap && gensDone s && laidKept (H₀ w.params) s.heap), openSeen q loose (importedModules p.main.body) Xt g0 s, Yf s)) = fun os => some (true, openGood q loose, Ya w))
    (le : Nat.ble M N = true) : LeftO p q loose Xt Yf Ya N g0 := fun w => by
  obtain ⟨⟨h, gs, d, k, os⟩, e, e'⟩ := Option.map_eq_some_iff.mp (open_ w)
  obtain ⟨rfl, rfl, rfl, rfl⟩ : h = H₀ w.params ∧ gs = gs₀ ∧ d = d₀ ∧ k = k₀ := by simpa using e'
  obtain ⟨z1, z2, z3⟩ : _ ∧ _ ∧ _ := by simpa only [Prod.mk.injEq] using size w
  obtain ⟨s, r, l⟩ := Option.map_eq_some_iff.mp (congrFun (run w) os)
  obtain ⟨l1, l2, l3⟩ : _ ∧ _ ∧ _ := by simpa only [Prod.mk.injEq] using l
  have r := topRun_mono (N - M) _ _ _ _ r
  rw [show M + (N - M) = N by have := Nat.le_of_ble_eq_true le; omega] at r
  have t : topFrom treeTable p w N ⟨H₀ w.params, gs, d, k, os⟩ = some s := by
    unfold topFrom
    dsimp only
    rw [z1, z2, z3, r]
    show (match staticsOk (importedModules p.main.body) (H₀ w.params) s.heap && namesBound p s.heap && gensDone s && laidKept (H₀ w.params) s.heap with | true => _ | false => _) = _
    rw [l1]
  unfold openEnds
  rw [e]
  show (topFrom treeTable p w N _).map _ = _
  rw [t]
  exact congrArg some (Prod.ext l2 l3)
theorem leftK : LeftO PySem.Challenge.pw_xm0756_01 viewK looseK xtK hookK.obs hookK.val 5134 := left_of_run openK sizeK runK (by rfl)
end Nv
end
section
open PySem PySem.W PySem.Calls PyProof.Rows PyProof.V PySem.Spec
namespace Nv
theorem head (call : ∀ (d : DefRec) (kwd : List (Str × Expr)), d.name = "law" → WalkO viewK looseK (XL viewK readK) hookK.says PySem.Challenge.rw_xm0756_01.row.toRowW d kwd fun f vs => guarded (PySem.call f vs) (pure (.bool true))) : PySem.Challenge.rw_xm0756_01.Holds :=
  holds_law looks_said fun _ => PySem.W.holds_open (q := viewK) (loose := looseK) (Xt := xtK) (XP := XL viewK readK) (Yf := hookK.obs) (Ya := hookK.val) (YP := hookK.says) (N := 5134) leftK hookK.of hookK.keeps (fun s e => xl_of s (Bool.and_eq_true_iff.mp e).1) XL.keeps
    (by rfl) (by rfl) (by rfl) (fun s e => recFacts_of (Bool.and_eq_true_iff.mp e).2) (by rfl) (row_said looks_said) look2 ⟨rfl, rfl, rfl, rfl, rfl, by decide +kernel⟩ (by w_witness2) (call _ _ rfl)
end Nv
end
section
open PySem PySem.W PySem.Calls PyProof.Rows PyProof.V PySem.Spec
namespace Nv
noncomputable def looseG : List Str := looseW viewK looseK
noncomputable def GG : Gl := ⟨PySem.Challenge.rw_xm0756_01.row.prog, heapK, topProg, looseG ++ (recsOf viewK).map (·.name) ++ (litsOf viewK).map (·.1) ++ (clssOf viewK looseG).map (·.name), 44⟩
end Nv
end
section
open PySem PySem.W PySem.Calls PyProof.Rows PyProof.V PySem.Spec PySem.Builtin
namespace Nv
theorem owner_ba : Manifest.owners.lookup (String.ofList ['y', 'a', 'r', 'r', 'a', 'e', 't', 'y', 'b'].reverse) = some Manifest.sig_bytearray := by kernel_rfl
theorem slot_ba_len : Slot "bytearray" "__len__" "bytearray.__len__" :=
  .of (owner := "bytearray") (n := "__len__") (by rw [typeLookup_type, builtinLookup_eq_fast]; kernel_rfl) (by decide +kernel) (by decide +kernel) (by decide +kernel)
    (by first | exact .inl (by decide +kernel) | exact .inr (by decide +kernel)) (by rw [isSubtype_type]; kernel_rfl)
theorem entry_ba_len : entryFor table "bytearray.__len__" = some Builtin.«bytearray.__len__» := by
  first | exact entryFor_of_tree (by kernel_rfl) | exact entryFor_of_fast (by kernel_rfl)
theorem args_ba_len (a : Value) : argsOk "bytearray.__len__" ⟨[a], []⟩ := by
  unfold argsOk; kernel_rfl
theorem slot_ba_getitem : Slot "bytearray" "__getitem__" "bytearray.__getitem__" :=
  .of (owner := "bytearray") (n := "__getitem__") (by rw [typeLookup_type, builtinLookup_eq_fast]; kernel_rfl) (by decide +kernel) (by decide +kernel) (by decide +kernel)
    (by first | exact .inl (by decide +kernel) | exact .inr (by decide +kernel)) (by rw [isSubtype_type]; kernel_rfl)
theorem entry_ba_getitem : entryFor table "bytearray.__getitem__" = some Builtin.«bytearray.__getitem__» := by
  first | exact entryFor_of_tree (by kernel_rfl) | exact entryFor_of_fast (by kernel_rfl)
theorem args_ba_getitem (a b : Value) : argsOk "bytearray.__getitem__" ⟨[a, b], []⟩ := by unfold argsOk; kernel_rfl
theorem slot_ba_init : Slot "bytearray" "__init__" "bytearray.__init__" :=
  .of (owner := "bytearray") (n := "__init__") (by rw [typeLookup_type, builtinLookup_eq_fast]; kernel_rfl) (by decide +kernel) (by decide +kernel) (by decide +kernel)
    (by first | exact .inl (by decide +kernel) | exact .inr (by decide +kernel)) (by rw [isSubtype_type]; kernel_rfl)
theorem entry_ba_init : entryFor table "bytearray.__init__" = some Builtin.«bytearray.__init__» := by
  first | exact entryFor_of_tree (by kernel_rfl) | exact entryFor_of_fast (by kernel_rfl)
theorem args_ba_init (a b : Value) : argsOk "bytearray.__init__" ⟨[a, b], []⟩ := by unfold argsOk; kernel_rfl
theorem mro_ba : mroOf (.type "bytearray") = pure [.type "bytearray", .type "object"] := by rw [mroOf_type]; kernel_rfl
theorem lookup_ba_new : typeLookup (.type "bytearray") "__new__" = pure (some (.builtin "bytearray.__new__")) := by rw [typeLookup_type, builtinLookup_eq_fast]; kernel_rfl
theorem called_ba : TypeCalled "bytearray" "bytearray.__new__" "bytearray.__init__" :=
  ⟨by decide +kernel, by decide +kernel, ⟨_, _, mro_ba⟩, madeBy_type mro_ba lookup_ba_new (by decide +kernel), by decide +kernel, by rw [isSubtype_type]; kernel_rfl, slot_ba_init⟩
theorem typeCall_ba (a : Value) : checkTypeCall "bytearray" ⟨[a], []⟩ = pure () := by kernel_rfl
theorem newCall_ba (a : Value) : checkBuiltinCall "bytearray.__new__" ⟨[.type "bytearray", a], []⟩ = pure () := by kernel_rfl
theorem plain_ba_new : plainId "bytearray.__new__" = true := by decide +kernel
theorem plain_ba_init : plainId "bytearray.__init__" = true := by decide +kernel
theorem sub_ba_self : isSubtype (.type "bytearray") (.type "bytearray") = pure true := by rw [isSubtype_type]; kernel_rfl
theorem entry_ba_new : entryFor table "bytearray.__new__" = some Builtin.«list.__new__» :=
  entryFor_alias (id' := "list.__new__") (by kernel_rfl) (by kernel_rfl) (by kernel_rfl) (by kernel_rfl)
set_option maxRecDepth 1000000 in
set_option maxHeartbeats 4000000 in
theorem owner_ba_new : ("bytearray.__new__".splitOn ".__new__").headD "" = "bytearray" := by simp +decide [String.splitOn, String.splitOnAux]
theorem exp_clear {c : Code} {q : Pos} {f1 f2 f3 f4 f5 f6 f7} (hng : c.isGuard = false) (h6 : ∀ i a, c = .builtin i a → ∀ v t k p, f6 i v t k p = false) (h7 : ∀ x, f7 x = false) :
   Bytes.exported.match_1 (fun _ => Bool) (c, q) f1 f2 f3 f4 f5 f6 f7 = false := by
  cases c with
  | builtin i a =>
    have h : ∀ x, guardIds.contains x = true → i ≠ x := fun x hx e => by
      have : guardIds.contains i = false := hng
      rw [e, hx] at this; cases this
    obtain ⟨pos, kw⟩ := a
    delta Bytes.exported.match_1
    dsimp only
    show (dite _ _ _) = false
    rw [dif_neg (h _ (by decide)), dif_neg (h _ (by decide)), dif_neg (h _ (by decide)), dif_neg (h _ (by decide)), dif_neg (h _ (by decide))]
    cases pos with
    | nil => exact h7 _
    | cons v t => exact h6 _ _ rfl _ _ _ _
  | _ => exact h7 _
section
variable {prog : Program} {w : World} {A : Around} {E : Value → Shared → Prop} {s : Shared}
theorem code_ba_new (a : Value) {Q₁ : Value → Shared → Prop} (h : Q₁ (.ref s.heap.objs.size) { s with heap := s.heap.push { cls := .type "bytearray", data := .bytearray #[] } }) :
    codeAny (model prog w) A (.call (.builtin "bytearray.__new__") ⟨[.type "bytearray", a], []⟩) (wants Q₁ E) s := by
  refine codeAny_of_tree ?_
  show wpAny _ A.in1 (do checkBuiltinCall "bytearray.__new__" ⟨[.type "bytearray", a], []⟩; again (.builtin "bytearray.__new__" ⟨[.type "bytearray", a], []⟩)) _ _ s
  refine wpAny_bind (wpAny_of_eq (newCall_ba a) (wpAny_pure ⟨plainId_quiet plain_ba_new _, codeAny_builtin_stack entry_ba_new rfl fun p st => ?_⟩))
  rw [Around.under_plainId plain_ba_new _]
  have hsub := sub_ba_self
  have hown := owner_ba_new
  obtain ⟨hp, g, d, tk, os⟩ := s
  simp only [hown]
  wp_walk
  exact h
theorem any_clear {f : Code × Pos → Bool} (hf : ∀ c p, c.isGuard = false → isDec c = false → f (c, p) = false) : ∀ l : List (Code × Pos), guardsOf l = [] → clearS l = true → l.any f = false
  | [], _, _ => rfl
  | (c, q) :: l, h1, h2 => by
    rw [guardsOf_cons, List.append_eq_nil_iff] at h1
    rw [clearS, List.all_cons, Bool.and_eq_true] at h2
    have hng : c.isGuard = false := by
      cases hh : c.isGuard with
      | false => rfl
      | true => simp [Code.guards, hh] at h1
    have hnd : isDec c = false := by simpa using h2.1
    rw [List.any_cons, any_clear hf l h1.2 h2.2, hf c q hng hnd]; rfl
theorem exported_clear {M : Model} {self : Value} {Q : Bool → Shared → Prop} (hg : A.guards = some []) (h : Q false s) : wpP M A (Bytes.exported self) Q E s := by
  intro Γ p hΓ hc
  have hno : guardsOf ((Γ.code, p) :: Γ.below) = [] := by rw [guardsOf_cons]; exact hΓ.2.2.2.1 _ hg
  unfold Bytes.exported
  show Q (List.any ((Γ.code, p) :: Γ.below) _) s
  rw [any_clear (fun c q hng hnd => exp_clear hng (fun i a e v t k p => by
    subst e
    have : Bytes.decodersThatHold.contains i = false := hnd
    rw [this, Bool.and_false]) fun _ => rfl) _ hno hc]
  exact h
end
end Nv
end
section
open PySem PySem.W PySem.Calls PyProof.Rows PyProof.V PySem.Spec PySem.Builtin
namespace Nv
section
variable {prog : Program} {w : World} {A : Around} {E : Value → Shared → Prop} {s : Shared}
theorem ba_rel : typeLookup (.type "bytearray") "__release_buffer__" = pure (some (.builtin "bytearray.__release_buffer__")) := by rw [typeLookup_type, builtinLookup_eq_fast]; kernel_rfl
theorem by_rel : typeLookup (.type "bytes") "__release_buffer__" = pure none := by rw [typeLookup_type, builtinLookup_eq_fast]; kernel_rfl
theorem by_buf : typeLookup (.type "bytes") "__buffer__" = pure (some (.builtin "bytes.__buffer__")) := by rw [typeLookup_type, builtinLookup_eq_fast]; kernel_rfl
theorem by_index : typeLookup (.type "bytes") "__index__" = pure none := by rw [typeLookup_type, builtinLookup_eq_fast]; kernel_rfl
theorem own_ba {S : Addr} {Q : Bool → Shared → Prop} (hT : s.TypeIs (.ref S) "bytearray") (h : Q false s) : wpAny (model prog w) A (Bytes.ownRelease (.ref S)) Q E s := by
  unfold Bytes.ownRelease Bytes.slotIsOwn
  refine wpAny_bind (wpAny_bind (wpAny_specialOf hT ba_rel ?_))
  dsimp only
  rw [show (!("bytearray.__release_buffer__".endsWith ("." ++ "__release_buffer__"))) = false from by decide +kernel]
  simp only [Bool.false_eq_true, if_false]
  rw [show ("bytearray.__release_buffer__".dropRight ("__release_buffer__".length + 1)) = "bytearray" from by decide +kernel]
  exact wpAny_isInstance hT sub_ba_self (wpAny_pure h)
theorem own_bytes {b : Array UInt8} {t : Tok} {Q : Bool → Shared → Prop} (h : Q false s) : wpAny (model prog w) A (Bytes.ownRelease (.bytes b t)) Q E s := by
  unfold Bytes.ownRelease Bytes.slotIsOwn
  exact wpAny_bind (wpAny_bind (wpAny_specialOf (typeIs_bytes s b t) by_rel (wpAny_pure (wpAny_pure h))))
theorem slotOwn_bytes {b : Array UInt8} {t : Tok} {Q : Bool → Shared → Prop} (h : Q true s) : wpAny (model prog w) A (Bytes.slotIsOwn (.bytes b t) "__buffer__") Q E s := by
  unfold Bytes.slotIsOwn
  refine wpAny_bind (wpAny_specialOf (typeIs_bytes s b t) by_buf ?_)
  dsimp only
  rw [show (!("bytes.__buffer__".endsWith ("." ++ "__buffer__"))) = false from by decide +kernel]
  simp only [Bool.false_eq_true, if_false]
  rw [show ("bytes.__buffer__".dropRight ("__buffer__".length + 1)) = "bytes" from by decide +kernel]
  exact wpAny_isInstance (typeIs_bytes s b t) F.sub_bytes_bytes h
theorem buffer_bytes {id : String} {full : Bool} {b : Array UInt8} {t : Tok} {Q : Option (Array UInt8) → Shared → Prop} (h : Q (some b) s) : wpAny (model prog w) A (Bytes.buffer? id (.bytes b t) full) Q E s := by
  unfold Bytes.buffer?
  refine wpAny_bind (wpAny_specialOf (typeIs_bytes s b t) by_buf ?_)
  dsimp only
  refine wpAny_bind (slotOwn_bytes ?_)
  simp only [Bool.not_true, Bool.false_eq_true, if_false]
  refine wpAny_bind (wpAny_specialOf (typeIs_bytes s b t) by_buf ?_)
  refine wpAny_bind (own_bytes ?_)
  simp only [Bool.false_eq_true, if_false]
  exact wpAny_bind (wpAny_of_eq (a := b) rfl (wpAny_pure h))
theorem write_ba {S : Addr} {x : Array UInt8} {f : Array UInt8 → Array UInt8} {Q : Unit → Shared → Prop} (hS : s.heap.get? S = some { cls := .type "bytearray", data := .bytearray x 0 }) (hz : (f x).size ≤ sizeLine)
    (h : ∀ h', h'.get? S = some { cls := .type "bytearray", data := .bytearray (f x) 0 } → Heap.SameBut S s.heap h' → Q () { s with heap := h' }) : wpAny (model prog w) A (Bytes.write (.ref S) f) Q E s := by
  unfold Bytes.write updateBytearray
  refine wpAny_bind (wpAny_load hS ?_)
  dsimp only
  refine wpAny_bind (wpAny_update hS ?_)
  refine wpAny_lookBehind (o := Obj.mapBytearray f { cls := .type "bytearray", data := .bytearray x 0 }) (Heap.get?_update_self _ hS rfl) ?_ (h _ (Heap.get?_update_self _ hS rfl) (Heap.SameBut.update ..))
  show (if (f x).size > sizeLine then some "bytearray:memory" else none) = none
  rw [if_neg (Nat.not_lt.mpr hz)]
theorem ba_init {S : Addr} {b : Array UInt8} {t : Tok} {Q : Value → Shared → Prop} (hg : A.guards = some []) (hS : s.heap.get? S = some (baOf [])) (hz : b.size ≤ sizeLine) (hQ : ∀ h', h'.get? S = some (baOf b.toList) → Heap.SameBut S s.heap h' → Q .none { s with heap := h' }) :
    wpP (model prog w) A (Builtin.«bytearray.__init__» ⟨[.ref S, .bytes b t], []⟩) (fun fin s' => ∃ v, fin = .done (.ret v) ∧ Q v s') E s := by
  have hT : s.TypeIs (.ref S) "bytearray" := ⟨_, hS, rfl⟩
  unfold Builtin.«bytearray.__init__»
  refine wpP_bind (wpP_of (own_ba hT ?_))
  rw [if_neg Bool.false_ne_true]
  refine wpP_bind (wpP_of (wpAny_of_eq (a := [some (.bytes b t), none, none]) rfl ?_))
  dsimp only
  refine wpP_bind (wpP_of (wpAny_pure ?_))
  refine wpP_bind (wpP_of (wpAny_pure ?_))
  refine wpP_bind (wpP_bind (exported_clear hg ?_))
  refine wpP_of ?_
  show wpAny _ _ (Bytes.exportsOf (Value.ref S) >>= _) _ _ _
  refine wpAny_bind ?_
  unfold Bytes.exportsOf
  refine wpAny_bind (wpAny_load hS (wpAny_pure (wpAny_pure (wpP_of ?_))))
  rw [if_neg (show ¬ (decide (0 > 0) = true) by decide)]
  refine wpAny_bind (write_ba hS (by simp) fun h1 g1 s1 => ?_)
  refine wpAny_bind (wpAny_of_eq (a := none) rfl ?_)
  rw [if_neg (show ¬ ((none : Option Str).isSome = true) by decide), if_neg (show ¬ ((none : Option Value).isSome = true) by decide)]
  refine wpAny_bind (wpAny_pure ?_)
  refine wpAny_bind (wpAny_specialOf (typeIs_bytes _ b t) by_index ?_)
  rw [if_neg (show ¬ ((none : Option Value).isSome = true) by decide)]
  refine wpAny_bind (buffer_bytes ?_)
  dsimp only
  refine wpAny_bind (wpAny_rule (wpAny_bind (write_ba g1 hz fun h2 g2 s2 => wpAny_pure ⟨_, rfl, hQ h2 ?_ ?_⟩)))
  · rw [g2]
  · exact s1.trans s2
end
end Nv
end
section
open PySem PySem.W PySem.Calls PyProof.Rows PyProof.V PySem.Spec PySem.Builtin
namespace Nv
section
variable {prog : Program} {w : World} {A : Around} {E : Value → Shared → Prop} {s : Shared}
theorem codeP_builtin {i : String} {args : Args} {b : Builtin} {R : Result → Shared → Prop} (hb : entryFor table i = some b) (hd : isDec (.builtin i args) = false)
    (h : wpP (model prog w) (A.under (.builtin i args)) (b args) (fun fin s' => match fin with | .done f => R (.ok f) s' | .again c' => c'.quiet = true ∧ codeP (model prog w) A c' R s') (fun e s' => R (.error e) s') s) :
    codeP (model prog w) A (.builtin i args) R s := by
  refine codeP_of_tree hd ?_
  show wpP _ _ (match entryFor table i with | some b => b args | none => unsupported ((withoutEnding? i "#data").getD i)) _ _ s
  rw [hb]; exact h
theorem codeP_call_builtin {i : String} {args : Args} {b : Builtin} {R : Result → Shared → Prop} (hq : plainId i = true) (hb : entryFor table i = some b) (hd : isDec (.builtin i args) = false)
    (hc : ∀ (A : Around) (E : Value → Shared → Prop) (Q : Unit → Shared → Prop), Q () s → wpAny (model prog w) A (checkBuiltinCall i args) Q E s)
    (h : wpP (model prog w) A.in1 (b args) (fun fin s' => match fin with | .done f => R (.ok f) s' | .again c' => c'.quiet = true ∧ codeP (model prog w) A c' R s') (fun e s' => R (.error e) s') s) :
    codeP (model prog w) A (.call (.builtin i) args) R s := by
  refine codeP_of_tree rfl ?_
  show wpP _ A.in1 (do checkBuiltinCall i args; again (.builtin i args)) _ _ s
  refine wpP_bind (wpP_of (hc _ _ _ (wpP_pure ⟨plainId_quiet hq args, codeP_builtin hb hd ?_⟩)))
  rw [Around.under_plainId hq args]
  exact h
theorem call_ba {b : Array UInt8} {t : Tok} {Q : Value → Shared → Prop} (hg : A.guards = some []) (hz : b.size ≤ sizeLine)
    (hQ : ∀ h', h'.get? s.heap.objs.size = some (baOf b.toList) → (∀ a o, s.heap.get? a = some o → h'.get? a = some o) → Q (.ref s.heap.objs.size) { s with heap := h' }) :
    wpP (model prog w) A (call (.type "bytearray") [.bytes b t]) Q E s := by
  refine wpP_call (codeP_of_tree rfl ?_)
  show wpP _ A.in1 (callAny (.type "bytearray") ⟨[.bytes b t], []⟩) _ _ s
  refine wpP_pure ⟨Code.quiet_builtin _ (by decide +kernel), codeP_builtin F.entry_type_call rfl ?_⟩
  rw [Around.under_plain (weight_type_call_type "bytearray" [.bytes b t] []) rfl]
  unfold Builtin.«type.__call__»
  dsimp only
  rw [if_neg (show ¬ ((Value.type "bytearray" == Value.type "type") = true) by decide)]
  rw [if_neg (by have := called_ba.canCreate; rw [this]; exact Bool.false_ne_true)]
  refine wpP_bind (wpP_of_eq (typeCall_ba _) ?_)
  refine wpP_bind (wpP_of_eq mro_ba ?_)
  rw [if_neg (by decide)]
  refine wpP_bind (wpP_of_eq called_ba.made ?_)
  dsimp only
  refine wpP_bind (wpP_pure ?_)
  refine wpP_bind (wpP_holding (wpP_of (wpAny_call (code_ba_new _ ?_))))
  have hT : ({ s with heap := s.heap.push { cls := .type "bytearray", data := .bytearray #[] } } : Shared).TypeIs (.ref s.heap.objs.size) "bytearray" := ⟨_, Heap.get?_push_size _ rfl, rfl⟩
  refine wpP_bind (wpP_of (wpAny_isInstance hT sub_ba_self ?_))
  rw [if_neg (by decide)]
  refine wpP_bind (wpP_holding ?_)
  unfold callSpecial?
  refine wpP_bind (wpP_of (wpAny_specialOf hT slot_ba_init.lookup ?_))
  dsimp only
  refine wpP_holding (wpP_bind (wpP_of_eq (slot_ba_init.bind _) ?_))
  dsimp only
  refine wpP_bind (wpP_call (codeP_call_builtin plain_ba_init entry_ba_init rfl (fun A E Q h => slot_ba_init.check _ _ _ _ _ _ _ _ hT (args_ba_init _ _) h) ?_))
  refine wpP_mono (ba_init (Q := fun v s' => v = .none ∧ Q (.ref s.heap.objs.size) s') hg (Heap.get?_push_size _ rfl) hz fun h' e1 e2 => ⟨rfl, hQ h' e1 fun a o e => ?_⟩) (fun fin s' z => ?_) fun _ _ z => z
  · exact (e2.2 a (Nat.ne_of_lt (Heap.lt_size e))).trans (Heap.get?_push_of_some _ e)
  · obtain ⟨v, rfl, rfl, hq⟩ := z
    refine wpP_pure (wpP_pure ?_)
    exact hq
end
end Nv
end
section
open PySem PySem.W PySem.Calls PyProof.Rows PyProof.V PySem.Spec
namespace Nv
section
variable {M : Model} {A : Around} {E : Value → Shared → Prop} {s : Shared} {env : Env}
theorem wpP_at {α : Type} {t : Sem α} {Q : α → Shared → Prop} {pos : Pos} (h : wpP M A t Q E s) : wpP M A (do standAt pos; t) Q E s := wpP_bind (wpP_standAt h)
theorem wpP_execs_cons {st : Stmt} {rest : List Stmt} {Q : Flow → Shared → Prop} (h : wpP M A (exec st env) (fun f s' => match f with | .next => wpP M A (execs rest env) Q E s' | f => Q f s') E s) : wpP M A (execs (st :: rest) env) Q E s := by
  rw [execs_cons]
  refine wpP_bind (wpP_mono h (fun f s' h' => ?_) fun _ _ x => x)
  cases f <;> first | exact h' | exact wpP_pure h'
theorem wpP_Assign_Name {x : Str} {p' : Pos} {value : Expr} {pos : Pos} {Q : Flow → Shared → Prop} (h : wpP M A (eval value env) (fun v s₁ => wpP M A (storeName env x v) (fun _ => Q .next) E s₁) E s)
    (hs : swapsWith value (some (.Name x p')) pos.line env = pure false := by rfl) : wpP M A (exec (.Assign [.Name x p'] value pos) env) Q E s := fun Γ p hΓ hc => by
  simp only [exec_Assign_Name env x p' value pos hs, Sem.wp_bind', Sem.wp_cmd_standAt, Sem.wp_bindName, Sem.wp_pure']
  exact Sem.wp_mono M Γ _ (fun v _ s₁ h₁ => h₁ Γ _ hΓ hc) (fun _ _ _ h' => h') _ _ (h Γ _ hΓ hc)
theorem wpP_Assign_swapped {elts : List Expr} {k tpos} {value : Expr} {pos : Pos} {names : List Str} {Q : Flow → Shared → Prop}
    (h : wpP M A (eval value env) (fun v s₁ => wpP M A (unpackItems v names.length none) (fun items s₂ => wpP M A (assignInOrder (names.reverse.map fun n => bindName env n) items.reverse) (fun _ => Q .next) E s₂) E s₁) E s)
    (hs : swapsWithSole [.Tuple elts k tpos] value pos.line env = pure false := by rfl) (hw : swappedStores [.Tuple elts k tpos] value env = pure (some names) := by rfl) :
    wpP M A (exec (.Assign [.Tuple elts k tpos] value pos) env) Q E s := by
  rw [exec_Assign]
  refine wpP_at (wpP_bind (wpP_of_eq hs ?_))
  rw [if_neg (by decide)]
  refine wpP_bind (wpP_mono h (fun v s₁ h₁ => wpP_bind (wpP_of_eq hw ?_)) fun _ _ x => x)
  show wpP M A (do rule "assign.swapped-stores"; let items ← unpackItems v names.length none; assignInOrder (names.reverse.map fun n => bindName env n) items.reverse; pure .next) Q E s₁
  exact wpP_bind (wpP_of (wpAny_rule (wpP_bind (wpP_mono h₁ (fun items s₂ h₂ => wpP_bind (wpP_mono h₂ (fun _ _ x => wpP_pure x) fun _ _ x => x)) fun _ _ x => x))))
theorem wpP_If {test : Expr} {body orelse : List Stmt} {pos : Pos} {Q : Flow → Shared → Prop} (h : wpP M A (isTrue test env (eval test env)) (fun b s₂ => if b then wpP M A (execs body env) Q E s₂ else wpP M A (execs orelse env) Q E s₂) E s) :
    wpP M A (exec (.If test body orelse pos) env) Q E s := by
  rw [exec_If]
  refine wpP_at (wpP_bind (wpP_mono h (fun b s₂ h₂ => ?_) fun _ _ x => x))
  cases b <;> exact h₂
theorem wpP_Return {e : Expr} {pos : Pos} {Q : Flow → Shared → Prop} (h : wpP M A (eval e env) (fun v => Q (.ret v)) E s) : wpP M A (exec (.Return (some e) pos) env) Q E s := by
  rw [exec_Return_some]
  exact wpP_at (wpP_bind (wpP_mono h (fun v s' h' => wpP_pure h') fun _ _ x => x))
theorem wpP_Expr {e : Expr} {pos : Pos} {Q : Flow → Shared → Prop} (h : wpP M A (eval e env) (fun _ _ => False) E s) (hi : interactive env = false := by rfl) (hs : swapsWith e none pos.line env = pure false := by rfl) : wpP M A (exec (.Expr e pos) env) Q E s := by
  rw [exec_Expr env e pos hi hs]
  exact wpP_at (wpP_bind (wpP_mono h (fun v s' h' => h'.elim) fun _ _ x => x))
theorem wpP_not {x : Expr} {pos whole} {Q : Bool → Shared → Prop} (h : wpP M A (isTrue x env (eval x env)) (fun c s' => Q (!c) s') E s) : wpP M A (isTrue (.UnaryOp .Not x pos) env whole) Q E s := by
  show wpP M A (do return !(← isTrue x env (eval x env))) Q E s
  exact wpP_bind (wpP_mono h (fun c s' h' => wpP_pure h') fun _ _ x => x)
theorem wpP_plain {e : Expr} {whole : Sem Value} {Q : Bool → Shared → Prop} (h : wpP M A whole (fun v s₁ => wpP M A (truthy v) Q E s₁) E s) (he : isTrue e env whole = (do let v ← whole; standAt e.pos; holding [v] (truthy v)) := by rfl) : wpP M A (isTrue e env whole) Q E s := by
  rw [he]
  exact wpP_bind (wpP_mono h (fun v s₁ h₁ => wpP_at (wpP_holding h₁)) fun _ _ x => x)
theorem wpP_isTrue_Compare1 {l : Expr} {op : CmpOp} {r : Expr} {pos whole} {Q : Bool → Shared → Prop}
    (h : wpP M A (eval l env) (fun a s₁ => wpP M A (eval r env) (fun b s₂ => wpP M A (compareOp op a b) (fun c s₃ => wpP M A (truthy c) Q E s₃) E s₂) E s₁) E s)
    (hm : behindInMarks op r = false := by with_unfolding_all rfl) : wpP M A (isTrue (.Compare l [op] [r] pos) env whole) Q E s := fun Γ p hΓ hc => by
  simp only [isTrue_Compare1, markedBehindIn_of_false hm, Sem.wp_bind', Sem.wp_holding, Sem.wp_cmd_standAt, Sem.wp_operate]
  exact Sem.wp_mono M Γ _ (fun a p₁ s₁ h₁ => Sem.wp_mono M Γ _ (fun b _ s₂ h₂ => Sem.wp_mono M Γ _ (fun c p₃ s₃ h₃ => h₃ Γ p₃ hΓ hc)
    (fun _ _ _ h' => h') _ _ (h₂ Γ _ hΓ hc)) (fun _ _ _ h' => h') _ _ (h₁ Γ p₁ hΓ hc)) (fun _ _ _ h' => h') _ _ (h Γ p hΓ hc)
theorem wpP_spliced_cons {x : Sem Value} {rest : List (Bool × Sem Value)} {Q : List Value → Shared → Prop} (h : wpP M A x (fun v s₁ => wpP M A (spliced rest) (fun vs s₂ => Q (v :: vs) s₂) E s₁) E s) : wpP M A (spliced ((false, x) :: rest)) Q E s := by
  rw [spliced]
  refine wpP_bind (wpP_mono h (fun v s₁ h₁ => ?_) fun _ _ x => x)
  simp only [Bool.false_eq_true, if_false]
  exact wpP_bind (wpP_pure (wpP_bind (wpP_holding (wpP_mono h₁ (fun vs s₂ h₂ => wpP_pure h₂) fun _ _ x => x))))
theorem wpP_Tuple {elts : List Expr} {k : Nat} {pos : Pos} {Q : Value → Shared → Prop} (h : wpP M A (spliced (backTo pos (starEach elts env))) (fun vs s₁ => wpP M A (newTuple vs) Q E s₁) E s) : wpP M A (eval (.Tuple elts k pos) env) Q E s := by
  show wpP M A (do standAt pos; newTuple (← spliced (backTo pos (starEach elts env)))) Q E s
  exact wpP_at (wpP_bind h)
theorem wpP_evalArgs {f : Value} {x : Sem Value} {rest : List (Bool × Sem Value)} {Q : Args → Shared → Prop} (h : wpP M A (spliced ((false, x) :: rest)) (fun vs s' => Q ⟨vs, []⟩ s') E s) : wpP M A (evalArgs f true ((false, x) :: rest) []) Q E s := by
  unfold evalArgs
  show wpP M A (spliced ((false, x) :: rest) >>= _) Q E s
  refine wpP_bind (wpP_mono h (fun vs s' h' => wpP_holding ?_) fun _ _ x => x)
  exact wpP_bind (wpP_pure (wpP_bind (wpP_pure (wpP_pure h'))))
theorem wpP_evalArgs_nil {f : Value} {Q : Args → Shared → Prop} (h : Q ⟨[], []⟩ s) : wpP M A (evalArgs f true [] []) Q E s := wpP_of (PySem.evalArgs_none h)
theorem wpP_callWith {P : Heap → Prop} {pos : Pos} {f : Value} {first : List Value} {args : List (Bool × Sem Value)} {keywords : List (Option Str × Sem Value)} {Q : Value → Shared → Prop} (hplain : (args.any (·.1) || keywords.any (·.1.isNone)) = false)
    (hk : ∀ h, P h → ∃ k, (k = Keeper.frame ∨ k = Keeper.machine ∨ k = Keeper.boundFrame) ∧ Looks M h (keeperOf f) k)
    (h : wpP M A (evalArgs f true args keywords) (fun a s₁ => P s₁.heap ∧ wpP M A (call f (first ++ a.pos) a.kw) Q E s₁) E s) : wpP M A (callWith pos f first args keywords) Q E s := by
  unfold callWith
  refine wpP_bind (wpP_holding (wpP_mono h (fun a s₁ h₁ => wpP_at ?_) fun _ _ x => x))
  obtain ⟨k, hk', L⟩ := hk _ h₁.1
  simp only [hplain]
  refine wpP_bind (wpP_of (L.here ?_))
  have tail : ∀ {t : Sem Value}, wpP M A t Q E s₁ → wpP M A (t >>= fun r => holding [r] point >>= fun _ => pure r) Q E s₁ :=
    fun ht => wpP_bind (wpP_mono ht (fun r s₂ hr => wpP_of (wpAny_bind (wpAny_holding (wpAny_point (wpAny_pure hr))))) fun _ _ x => x)
  have marked (mk : Value) : wpP M A (callMarked mk f (first ++ a.pos) a.kw) Q E s₁ := by
    unfold callMarked
    exact fun Γ p hΓ hc => by rw [Sem.wp_keep]; exact h₁.2 Γ p hΓ hc
  rcases hk' with rfl | rfl | rfl <;> dsimp only <;> first | exact tail h₁.2 | (split <;> first | exact tail h₁.2 | exact tail (marked _))
theorem wpP_MethodCall {o : Expr} {name : Str} {apos pos : Pos} {args : List Expr} {pl : Sem Bool} {Q : Value → Shared → Prop}
    (h : wpP M A (eval o env) (fun ov s₁ => wpP M A (getMethod ov name pl) (fun fx s₂ => wpP M A (callWith pos fx.1 fx.2 (backTo pos (starEach args env)) []) Q E s₂) E s₁) E s)
    (he : eval (.Call (.Attribute o name apos) args [] pos) env = (do
      let ov ← eval o env
      standAt apos.atName
      let (f, first) ← holding [ov] (getMethod ov name pl)
      callWith pos f first (backTo pos (starEach args env)) []) := by rfl) : wpP M A (eval (.Call (.Attribute o name apos) args [] pos) env) Q E s := by
  rw [he]
  exact wpP_bind (wpP_mono h (fun ov s₁ h₁ => wpP_at (wpP_bind (wpP_holding (wpP_mono h₁ (fun fx s₂ h₂ => h₂) fun _ _ x => x)))) fun _ _ x => x)
theorem wpP_try {body orelse : Sem Flow} {h₀ : ExceptHandler} {hs : List ExceptHandler} {Q : Flow → Shared → Prop}
    (h : wpP M A body (fun f s₁ => match f with | .next => wpP M A orelse Q E s₁ | f => Q f s₁)
      (fun e s₁ => wpP M A (noteFrame e env) (fun _ s₂ => wpP M A (setFlight e none) (fun _ s₃ => wpP M A (handleBy e env (h₀ :: hs)) Q E s₃) E s₂) E s₁) s) : wpP M A (tryStmt false body (h₀ :: hs) orelse [] env) Q E s := by
  unfold tryStmt
  simp only [List.isEmpty_nil, if_true, List.isEmpty_cons, Bool.false_and, Bool.false_eq_true, if_false]
  refine wpP_bind (wpP_attempt (wpP_mono h (fun f s₁ h₁ => ?_) fun e s₁ h₁ => ?_))
  · cases f <;> first | exact h₁ | exact wpP_pure h₁
  · exact wpP_bind (wpP_mono h₁ (fun _ _ h₂ => wpP_bind h₂) fun _ _ x => x)
theorem wpP_Try {body orelse : List Stmt} {h₀ : ExceptHandler} {hs : List ExceptHandler} {pos : Pos} {Q : Flow → Shared → Prop}
    (h : wpP M A (execs body env) (fun f s₁ => match f with | .next => wpP M A (execs orelse env) Q E s₁ | f => Q f s₁)
      (fun e s₁ => wpP M A (noteFrame e env) (fun _ s₂ => wpP M A (setFlight e none) (fun _ s₃ => wpP M A (handleBy e env (h₀ :: hs)) Q E s₃) E s₂) E s₁) s) : wpP M A (exec (.Try body (h₀ :: hs) orelse [] pos) env) Q E s := by
  rw [arm_exec_Try]
  exact wpP_at (wpP_try h)
end
section
variable {prog : Program} {w : World} {A : Around} {s : Shared} {R : Result → Shared → Prop}
theorem codeP_func {body env} (h : wpP (model prog w) (A.deeper env) (execs body env) (fun f s' => R (.ok (.ret (match f with | .ret v => v | _ => .none))) s')
      (fun e s' => wpP (model prog w) (A.deeper env) (leaving env e) (fun _ s'' => R (.error e) s'') (fun e' s'' => R (.error e') s'') s') s) : codeP (model prog w) A (.func body env) R s := by
  refine codeP_of_tree rfl ?_
  show wpP _ (A.deeper env) (do point; match ← (execs body env).onRaise (leaving env) with | .ret v => ret v | _ => ret .none) _ _ s
  refine wpP_bind (wpP_of (wpAny_point (wpP_bind (wpP_onRaise (wpP_mono h (fun f s' h' => ?_) fun _ _ h' => h')))))
  cases f <;> exact wpP_pure h'
theorem codeP_call_function {a : Addr} {args : Args} {o : Obj} {fd : FuncData} {body : List Stmt} (hroom : A.depth < recursionLimit) (ho : s.heap.get? a = some o)
    (hd' : o.data = .func fd) (hco : fd.scope.isCoroutine = false) (hgen : fd.scope.isGenerator = false) (hbody : fd.body = .stmts body) (hcd : s.heap.CodeRec fd.code fd.qualname)
    (h : wpAny (model prog w) A.in1 (bindArgs fd args) (fun binds s₁ => wpAny (model prog w) A.in1 (newFunctionEnv fd.scope fd.globals fd.closure binds (fd.qualname ++ ".<locals>.") (some a) fd.code none fd.builtins)
        (fun env s₂ => s₂.heap.NoLimit ∧ codeP (model prog w) A (.func body env) R s₂) (fun e s' => R (.error e) s') s₁) (fun e s' => R (.error e) s') s) : codeP (model prog w) A (.call (.ref a) args) R s := by
  refine codeP_of_tree rfl (wpP_of ?_)
  show wpAny _ A.in1 (callAny (.ref a) args) _ _ s
  simp only [callAny]
  refine wpAny_bind (wpAny_load ho ?_)
  obtain ⟨c, oc, vs, tq, hc, hoc, hdc, hq⟩ := hcd
  simp only [hd', callFunction, hco, hgen, hbody, hc]
  rw [hc] at h
  refine wpAny_bind (m := field (.ref c) 1) (wpAny_field hoc hdc hq (wpAny_bind (wpAny_pure ?_)))
  exact wpAny_bind (wpAny_mono h (fun binds s₁ h₁ => wpAny_bind (wpAny_mono h₁ (fun env s₂ h₂ => wpAny_bind (wpAny_enterFrame h₂.1 hroom (wpAny_pure (And.intro rfl h₂.2)))) fun _ _ h' => h')) fun _ _ h' => h')
end
end Nv
end
section
open PySem PySem.W PySem.Calls PyProof.Rows PyProof.V PySem.Spec
namespace Nv
noncomputable def Cx.re (c : Cx) (g : Heap) : Cx := { c with g := g }
noncomputable def Tn (c : Cx) (g : Heap) : Prop := KtsTurn (c.outer.filterMap (·.frame)) c.g g
theorem Tn.refl (c : Cx) : Tn c c.g := KtsTurn.refl
theorem Tn.trans {c : Cx} {g g' : Heap} (a : Tn c g) (b : Tn (c.re g) g') : Tn c g' := KtsTurn.trans a b
noncomputable abbrev OkK (c : Cx) (T R : Led) (m : Nm) (K : PV → List AO → Prop) (Q : Value → Shared → Prop) : Prop :=
  ∀ v pv T' R' σ' s' g', Tn c g' → Gr T (μs R) T' (μs R') → St (c.re g') T' R' σ' m s' → VR T' (μs R') v pv → K pv σ' → Q v s'
noncomputable abbrev ExK (c : Cx) (T R : Led) (m : Nm) (X : List AO → Prop) (E : Value → Shared → Prop) : Prop :=
  ∀ e s' σ' g', Tn c g' → ExcS (c.re g') m T (μs R) σ' e s' → X σ' → E e s'
noncomputable def RunP (c : Cx) (T R : Led) (σ : List AO) (m : Nm) (s : Shared) (t : Sem Value) (K : PV → List AO → Prop) (X : List AO → Prop) : Prop :=
  ∀ (Q E : Value → Shared → Prop), OkK c T R m K Q → ExK c T R m X E → wpP (model c.prog c.w) c.A t Q E s
noncomputable def WEP (c : Cx) (e : Expr) (σ : List AO) (m : Nm) (K : PV → List AO → Prop) (X : List AO → Prop) : Prop := ∀ T R s, St c T R σ m s → RunP c T R σ m s (eval e c.env) K X
noncomputable def WBP (c : Cx) (e : Expr) (σ : List AO) (m : Nm) (K : Bool → List AO → Prop) (X : List AO → Prop) : Prop :=
  ∀ T R s, St c T R σ m s → ∀ (Q : Bool → Shared → Prop) (E : Value → Shared → Prop), (∀ b T' R' σ' s' g', Tn c g' → Gr T (μs R) T' (μs R') → St (c.re g') T' R' σ' m s' → K b σ' → Q b s') →
    ExK c T R m X E → wpP (model c.prog c.w) c.A (isTrue e c.env (eval e c.env)) Q E s
noncomputable def WLP (c : Cx) (pos : Pos) (es : List Expr) (σ : List AO) (m : Nm) (K : List PV → List AO → Prop) (X : List AO → Prop) : Prop :=
  ∀ T R s, St c T R σ m s → ∀ (Q : List Value → Shared → Prop) (E : Value → Shared → Prop), (∀ vs l T' R' σ' s' g', Tn c g' → Gr T (μs R) T' (μs R') → St (c.re g') T' R' σ' m s' → VRs T' (μs R') vs l → K l σ' → Q vs s') →
    ExK c T R m X E → wpP (model c.prog c.w) c.A (spliced (backTo pos (starEach es c.env))) Q E s
noncomputable def WCP (c : Cx) (f : Value) (as : List PV) (σ : List AO) (m : Nm) (K : PV → List AO → Prop) (X : List AO → Prop) : Prop := ∀ T R s vs, St c T R σ m s → VRs T (μs R) vs as → RunP c T R σ m s (call f vs) K X
noncomputable def WCoP (c : Cx) (f : Value) (as : List PV) (σ : List AO) (m : Nm) (K : PV → List AO → Prop) (X : List AO → Prop) : Prop :=
  ∀ T R s vs, St c T R σ m s → VRs T (μs R) vs as → ∀ (Q E : Value → Shared → Prop), OkK c T R m K Q → ExK c T R m X E →
    codeP (model c.prog c.w) c.A (.call f ⟨vs, []⟩) (fun r s' => match r with | .ok (.ret v) => Q v s' | .ok _ => False | .error e => E e s') s
noncomputable abbrev NxK (c : Cx) (T R : Led) (Kn : Nm → List AO → Prop) (Q : Flow → Shared → Prop) : Prop := ∀ m' T' R' σ' s' g', Tn c g' → Gr T (μs R) T' (μs R') → St (c.re g') T' R' σ' m' s' → Kn m' σ' → Q .next s'
noncomputable abbrev RtK (c : Cx) (T R : Led) (Kr : PV → List AO → Prop) (Q : Flow → Shared → Prop) : Prop := ∀ v pv m' T' R' σ' s' g', Tn c g' → Gr T (μs R) T' (μs R') → St (c.re g') T' R' σ' m' s' → VR T' (μs R') v pv → Kr pv σ' → Q (.ret v) s'
noncomputable abbrev ExSK (c : Cx) (T R : Led) (X : List AO → Prop) (E : Value → Shared → Prop) : Prop := ∀ e m' s' σ' g', Tn c g' → ExcS (c.re g') m' T (μs R) σ' e s' → X σ' → E e s'
noncomputable def WSP (c : Cx) (ss : List Stmt) (σ : List AO) (m : Nm) (Kn : Nm → List AO → Prop) (Kr : PV → List AO → Prop) (X : List AO → Prop) : Prop :=
  ∀ T R s, St c T R σ m s → ∀ (Q : Flow → Shared → Prop) (E : Value → Shared → Prop), NxK c T R Kn Q → RtK c T R Kr Q → ExSK c T R X E → wpP (model c.prog c.w) c.A (execs ss c.env) Q E s
noncomputable def WS1P (c : Cx) (st : Stmt) (σ : List AO) (m : Nm) (Kn : Nm → List AO → Prop) (Kr : PV → List AO → Prop) (X : List AO → Prop) : Prop :=
  ∀ T R s, St c T R σ m s → ∀ (Q : Flow → Shared → Prop) (E : Value → Shared → Prop), NxK c T R Kn Q → RtK c T R Kr Q → ExSK c T R X E → wpP (model c.prog c.w) c.A (exec st c.env) Q E s
noncomputable abbrev jSP (c : Cx) (rest : List Stmt) (Kn : Nm → List AO → Prop) (Kr : PV → List AO → Prop) (X : List AO → Prop) (m : List (Str × PV)) (σ : List AO) : Prop := ∀ g, Tn c g → WSP (c.re g) rest σ m Kn Kr X
noncomputable abbrev jSs (c : Cx) (rest : List Stmt) (Kn : Nm → List AO → Prop) (Kr : PV → List AO → Prop) (X : List AO → Prop) (m : List (Str × PV)) (σ : List AO) : Prop := WSP c rest σ m Kn Kr X
noncomputable abbrev jNP (c : Cx) (x : Str) (m : List (Str × PV)) (Kn : Nm → List AO → Prop) (pv : PV) (σ : List AO) : Prop := ∀ g, Tn c g → WN (c.re g) x pv σ m Kn
noncomputable abbrev jIfP (c : Cx) (a b : List Stmt) (m : List (Str × PV)) (Kn : Nm → List AO → Prop) (Kr : PV → List AO → Prop) (X : List AO → Prop) (v : Bool) (σ : List AO) : Prop := ∀ g, Tn c g → sel v (WSP (c.re g) a σ m Kn Kr X) (WSP (c.re g) b σ m Kn Kr X)
noncomputable abbrev jIf0 (c : Cx) (a b : List Stmt) (m : List (Str × PV)) (Kn : Nm → List AO → Prop) (Kr : PV → List AO → Prop) (X : List AO → Prop) (v : Bool) (σ : List AO) : Prop := sel v (WSP c a σ m Kn Kr X) (WSP c b σ m Kn Kr X)
noncomputable abbrev jTP (c : Cx) (m : List (Str × PV)) (KB : Bool → List AO → Prop) (X : List AO → Prop) (v : PV) (σ : List AO) : Prop := ∀ g, Tn c g → WT (c.re g) v σ m KB X
noncomputable abbrev jBP (c : Cx) (t : Value → Value → Sem Value) (r : Expr) (m : List (Str × PV)) (KB : Bool → List AO → Prop) (X : List AO → Prop) (a : PV) (σ : List AO) : Prop := ∀ g, Tn c g → WE (c.re g) r σ m (jBR (c.re g) t a m (jT (c.re g) m KB X) X) X
noncomputable abbrev jCP (c : Cx) (pos : Pos) (rest : List Expr) (m : List (Str × PV)) (KL : List PV → List AO → Prop) (X : List AO → Prop) (pv : PV) (σ : List AO) : Prop := ∀ g, Tn c g → WL (c.re g) pos rest σ m (jC1 KL pv) X
noncomputable abbrev jTSP (c : Cx) (names : List Str) (m : List (Str × PV)) (Kn : Nm → List AO → Prop) (pv : PV) (σ : List AO) : Prop := ∃ l, pv = .tup l ∧ l.length = names.length ∧ ∀ g, Tn c g → WAn (c.re g) names.reverse l.reverse σ m Kn
noncomputable abbrev jFP1 (c : Cx) (v : Value) (m : List (Str × PV)) (K : PV → List AO → Prop) (X : List AO → Prop) (as : List PV) (σ : List AO) : Prop := WCP c v as σ m K X
noncomputable abbrev jFP (c : Cx) (pos : Pos) (es : List Expr) (m : List (Str × PV)) (K : PV → List AO → Prop) (X : List AO → Prop) (f : PV) (σ : List AO) : Prop := ∃ v, f = .raw v ∧ keepOk c.K v = true ∧ WL c pos es σ m (jFP1 c v m K X) X
noncomputable abbrev jMP2 (c : Cx) (f : Value) (fl : List PV) (m : List (Str × PV)) (K : PV → List AO → Prop) (X : List AO → Prop) (as : List PV) (σ : List AO) : Prop := WCP c f (fl ++ as) σ m K X
noncomputable abbrev jMP1 (c : Cx) (pos : Pos) (es : List Expr) (m : List (Str × PV)) (K : PV → List AO → Prop) (X : List AO → Prop) (f : Value) (fl : List PV) (σ : List AO) : Prop := keepOk c.K f = true ∧ WL c pos es σ m (jMP2 c f fl m K X) X
noncomputable abbrev jMP (c : Cx) (name : Str) (pos : Pos) (es : List Expr) (m : List (Str × PV)) (K : PV → List AO → Prop) (X : List AO → Prop) (ov : PV) (σ : List AO) : Prop := ∀ g, Tn c g → WM (c.re g) ov name σ m (jMP1 (c.re g) pos es m K X) X
noncomputable abbrev jMP01 (c : Cx) (m : List (Str × PV)) (K : PV → List AO → Prop) (X : List AO → Prop) (f : Value) (fl : List PV) (σ : List AO) : Prop := keepOk c.K f = true ∧ WCP c f fl σ m K X
noncomputable abbrev jMP0 (c : Cx) (name : Str) (m : List (Str × PV)) (K : PV → List AO → Prop) (X : List AO → Prop) (ov : PV) (σ : List AO) : Prop := ∀ g, Tn c g → WM (c.re g) ov name σ m (jMP01 (c.re g) m K X) X
section
variable {c : Cx} {σ : List AO} {m : Nm} {K : PV → List AO → Prop} {Kn : Nm → List AO → Prop} {Kr : PV → List AO → Prop} {KB : Bool → List AO → Prop} {KL : List PV → List AO → Prop} {X : List AO → Prop}
theorem WEP.of {e : Expr} (h : WE c e σ m K X) : WEP c e σ m K X := fun T R s st Q E q ex => wpP_of (h T R s st Q E (fun v pv T' R' σ' s' => q v pv T' R' σ' s' _ (Tn.refl c)) (fun e s' σ' => ex e s' σ' _ (Tn.refl c)))
theorem WBP.of {e : Expr} (h : WB c e σ m KB X) : WBP c e σ m KB X := fun T R s st Q E q ex => wpP_of (h T R s st Q E (fun b T' R' σ' s' => q b T' R' σ' s' _ (Tn.refl c)) (fun e s' σ' => ex e s' σ' _ (Tn.refl c)))
theorem WLP.of {pos} {es : List Expr} (h : WL c pos es σ m KL X) : WLP c pos es σ m KL X := fun T R s st Q E q ex => wpP_of (h T R s st Q E (fun b l T' R' σ' s' => q b l T' R' σ' s' _ (Tn.refl c)) (fun e s' σ' => ex e s' σ' _ (Tn.refl c)))
theorem WCP.of {f : Value} {as : List PV} (h : WC c f as σ m K X) : WCP c f as σ m K X := fun T R s vs st rs Q E q ex => wpP_of (h T R s vs st rs Q E (fun v pv T' R' σ' s' => q v pv T' R' σ' s' _ (Tn.refl c)) (fun e s' σ' => ex e s' σ' _ (Tn.refl c)))
theorem WSP.of {ss : List Stmt} (h : WS c ss σ m Kn Kr X) : WSP c ss σ m Kn Kr X := fun T R s st Q E q1 q2 ex => wpP_of (h T R s st Q E (fun m' T' R' σ' s' => q1 m' T' R' σ' s' _ (Tn.refl c)) (fun v pv m' T' R' σ' s' => q2 v pv m' T' R' σ' s' _ (Tn.refl c)) (fun e m' s' σ' => ex e m' s' σ' _ (Tn.refl c)))
theorem WS1P.of {st : Stmt} (h : WS1 c st σ m Kn Kr X) : WS1P c st σ m Kn Kr X := fun T R s S Q E q1 q2 ex => wpP_of (h T R s S Q E (fun m' T' R' σ' s' => q1 m' T' R' σ' s' _ (Tn.refl c)) (fun v pv m' T' R' σ' s' => q2 v pv m' T' R' σ' s' _ (Tn.refl c)) (fun e m' s' σ' => ex e m' s' σ' _ (Tn.refl c)))
theorem WCoP.wcp {f as} (h : WCoP c f as σ m K X) : WCP c f as σ m K X := fun T R s vs st rs Q E q ex => wpP_call (h T R s vs st rs Q E q ex)
theorem WSP_cons {st : Stmt} {rest : List Stmt} (h : WS1P c st σ m (jSP c rest Kn Kr X) Kr X) : WSP c (st :: rest) σ m Kn Kr X := by
  intro T R s S Q E q1 q2 e
  refine wpP_execs_cons (h T R s S _ _ (fun m' T1 R1 σ1 s1 g t1 g1 S1 k => ?_) (fun v pv m' T' R' σ' s' g t g1 S' r k => q2 v pv m' T' R' σ' s' g t g1 S' r k) e)
  exact k g t1 T1 R1 s1 S1 Q E (fun m' T' R' σ' s' g' t' g2 S' k' => q1 m' T' R' σ' s' g' (t1.trans t') (g1.trans g2) S' k') (fun v pv m' T' R' σ' s' g' t' g2 S' r k => q2 v pv m' T' R' σ' s' g' (t1.trans t') (g1.trans g2) S' r k) (fun e' m' s' σ' g' t' hx hX => e e' m' s' σ' g' (t1.trans t') (hx.mono g1) hX)
theorem WSP_step {st : Stmt} {rest : List Stmt} (h : WS1 c st σ m (jSs c rest Kn Kr X) Kr X) : WSP c (st :: rest) σ m Kn Kr X := by
  intro T R s S Q E q1 q2 e
  refine wpP_execs_cons (wpP_of (h T R s S _ _ (fun m' T1 R1 σ1 s1 g1 S1 k => ?_) (fun v pv m' T' R' σ' s' g1 S' r k => q2 v pv m' T' R' σ' s' _ (Tn.refl c) g1 S' r k) (fun e' m' s' σ' => e e' m' s' σ' _ (Tn.refl c))))
  exact k T1 R1 s1 S1 Q E (fun m' T' R' σ' s' g' t' g2 S' k' => q1 m' T' R' σ' s' g' t' (g1.trans g2) S' k') (fun v pv m' T' R' σ' s' g' t' g2 S' r k => q2 v pv m' T' R' σ' s' g' t' (g1.trans g2) S' r k) (fun e' m' s' σ' g' t' hx hX => e e' m' s' σ' g' t' (hx.mono g1) hX)
theorem WS1P_ret {e : Expr} {pos} (h : WEP c e σ m Kr X) : WS1P c (.Return (some e) pos) σ m Kn Kr X :=
  fun T R s st Q E q1 q2 ex => wpP_Return (h T R s st _ _ (fun v pv T' R' σ' s' g t g1 S r k => q2 v pv m T' R' σ' s' g t g1 S r k) (fun e' s' σ' g t hx hX => ex e' m s' σ' g t hx hX))
theorem WS1P_asg {x : Str} {p pos} {e : Expr} (h : WEP c e σ m (jNP c x m Kn) X) (hs : swapsWith e (some (.Name x p)) pos.line c.env = pure false := by rfl) : WS1P c (.Assign [.Name x p] e pos) σ m Kn Kr X := by
  intro T R s st Q E q1 q2 ex
  refine wpP_Assign_Name (hs := hs) (h T R s st _ _ (fun v pv T1 R1 σ1 s1 g t g1 S1 r k => ?_) (fun e' s' σ' g t hx hX => ex e' m s' σ' g t hx hX))
  exact wpP_of (k g t T1 R1 s1 v S1 r _ _ fun m' R' σ' s' g2 S' k' => q1 m' T1 R' σ' s' g t (g1.trans g2) S' k')
theorem WS1P_if {t : Expr} {a b : List Stmt} {pos} (h : WBP c t σ m (jIfP c a b m Kn Kr X) X) : WS1P c (.If t a b pos) σ m Kn Kr X := by
  intro T R s st Q E q1 q2 ex
  refine wpP_If (h T R s st _ _ (fun v T1 R1 σ1 s1 g t1 g1 S1 k => ?_) (fun e' s' σ' g t hx hX => ex e' m s' σ' g t hx hX))
  cases v <;> exact k g t1 T1 R1 s1 S1 Q E (fun m' T' R' σ' s' g' t' g2 S' k' => q1 m' T' R' σ' s' g' (t1.trans t') (g1.trans g2) S' k') (fun v pv m' T' R' σ' s' g' t' g2 S' r k => q2 v pv m' T' R' σ' s' g' (t1.trans t') (g1.trans g2) S' r k) (fun e' m' s' σ' g' t' hx hX => ex e' m' s' σ' g' (t1.trans t') (hx.mono g1) hX)
theorem WS1P_if0 {t : Expr} {a b : List Stmt} {pos} (h : WB c t σ m (jIf0 c a b m Kn Kr X) X) : WS1P c (.If t a b pos) σ m Kn Kr X := by
  intro T R s st Q E q1 q2 ex
  refine wpP_If (wpP_of (h T R s st _ _ (fun v T1 R1 σ1 s1 g1 S1 k => ?_) (fun e' s' σ' => ex e' m s' σ' _ (Tn.refl c))))
  cases v <;> exact k T1 R1 s1 S1 Q E (fun m' T' R' σ' s' g' t' g2 S' k' => q1 m' T' R' σ' s' g' t' (g1.trans g2) S' k') (fun v pv m' T' R' σ' s' g' t' g2 S' r k => q2 v pv m' T' R' σ' s' g' t' (g1.trans g2) S' r k) (fun e' m' s' σ' g' t' hx hX => ex e' m' s' σ' g' t' (hx.mono g1) hX)
theorem WBP_not {x : Expr} {pos} (h : WBP c x σ m (jNot KB) X) : WBP c (.UnaryOp .Not x pos) σ m KB X :=
  fun T R s st Q E q ex => wpP_not (h T R s st _ _ (fun b T' R' σ' s' g t g1 st' k => q _ T' R' σ' s' g t g1 st' k) ex)
theorem WBP_plain {e : Expr} (h : WEP c e σ m (jTP c m KB X) X) (he : ∀ env whole, isTrue e env whole = (do let v ← whole; standAt e.pos; holding [v] (truthy v)) := by intro _ _; rfl) : WBP c e σ m KB X := by
  intro T R s st Q E q ex
  refine wpP_plain (he := he _ _) (h T R s st _ _ (fun va a T1 R1 σ1 s1 g t g1 st1 ra h1 => ?_) ex)
  exact wpP_of (h1 g t T1 R1 s1 va st1 ra Q E (fun b T' R' σ' s' g2 st' k => q b T' R' σ' s' g t (g1.trans g2) st' k) (fun e' s' σ' hx hX => ex e' s' σ' g t (hx.mono g1) hX))
theorem WBP_cmp {l r : Expr} {op pos} (h : WEP c l σ m (jBP c (compareOp op) r m KB X) X) (hm : behindInMarks op r = false := by with_unfolding_all rfl) : WBP c (.Compare l [op] [r] pos) σ m KB X := by
  intro T R s st Q E q e
  refine wpP_isTrue_Compare1 (hm := hm) (h T R s st _ _ (fun va a T1 R1 σ1 s1 g t g1 st1 ra h1 => ?_) e)
  refine wpP_of (wpAny_mono (h1 g t T1 R1 s1 st1 _ _ (fun vb b T2 R2 σ2 s2 g2 st2 rb h2 => ?_) (fun e' s' σ' hx hX => e e' s' σ' g t (hx.mono g1) hX)) (fun _ _ x => wpP_of x) fun _ _ x => x)
  refine wpAny_mono (h2 T2 R2 s2 va vb st2 (ra.mono g2) rb _ _ (fun v pv T3 R3 σ3 s3 g3 st3 r3 h3 => ?_) (fun e' s' σ' hx hX => e e' s' σ' g t (hx.mono (g1.trans g2)) hX)) (fun _ _ x => wpP_of x) fun _ _ x => x
  exact h3 T3 R3 s3 v st3 r3 Q E (fun b T' R' σ' s' g4 st' k => q b T' R' σ' s' g t (g1.trans (g2.trans (g3.trans g4))) st' k) (fun e' s' σ' hx hX => e e' s' σ' g t (hx.mono (g1.trans (g2.trans g3))) hX)
theorem WLP_cons {pos} {e : Expr} {rest : List Expr} (h : WEP c e σ m (jCP c pos rest m KL X) X) (he : ∀ env, starEach (e :: rest) env = (false, eval e env) :: starEach rest env := by intro _; rfl) : WLP c pos (e :: rest) σ m KL X := by
  intro T R s st Q E q ex
  rw [he]
  refine wpP_spliced_cons (h T R s st _ _ (fun v pv T1 R1 σ1 s1 g t g1 S1 r k => ?_) ex)
  exact wpP_of (k g t T1 R1 s1 S1 _ _ (fun vs l T' R' σ' s' g2 S' rs k' => q (v :: vs) (pv :: l) T' R' σ' s' g t (g1.trans g2) S' (.cons (r.mono g2) rs) k') (fun e' s' σ' hx hX => ex e' s' σ' g t (hx.mono g1) hX))
theorem WEP_tup {es : List Expr} {k pos} (h : WLP c pos es σ m (jTu K) X) : WEP c (.Tuple es k pos) σ m K X := by
  intro T R s st Q E q ex
  refine wpP_Tuple (h T R s st _ _ (fun vs l T1 R1 σ1 s1 g t g1 S1 rs k => ?_) ex)
  obtain ⟨hl, k⟩ := k
  have S2 := S1.addT (tk := s1.toks) (o := tupOf vs 0) (fun b o e => Heap.get?_push_of_some _ e) (none_of_size s1.heap) (Heap.get?_push_size _ rfl)
  refine wpP_of (wpAny_newObj_type (q (.ref s1.heap.objs.size) (.tup l) _ R1 σ1 _ g t (g1.trans ⟨fun p hp => List.mem_cons_of_mem _ hp, List.prefix_refl _⟩) S2 (.tup (.head _) (rs.mono ⟨fun p hp => List.mem_cons_of_mem _ hp, List.prefix_refl _⟩)) k) ?_)
  show vs.toArray.size ≤ sizeLine
  rw [List.size_toArray, rs.length]
  exact Nat.le_trans hl (by decide)
theorem WS1P_asgS {elts : List Expr} {k tpos pos} {e : Expr} {names : List Str} (h : WEP c e σ m (jTSP c names m Kn) X)
    (hw : swappedStores [.Tuple elts k tpos] e c.env = pure (some names) := by rfl) (hs : swapsWithSole [.Tuple elts k tpos] e pos.line c.env = pure false := by rfl) : WS1P c (.Assign [.Tuple elts k tpos] e pos) σ m Kn Kr X := by
  intro T R s st Q E q1 q2 ex
  refine wpP_Assign_swapped (hs := hs) (hw := hw) (h T R s st _ _ (fun v pv T1 R1 σ1 s1 g t g1 S1 r k => ?_) (fun e' s' σ' g t hx hX => ex e' m s' σ' g t hx hX))
  obtain ⟨l, rfl, hl, kA⟩ := k
  replace r := r.inv; obtain ⟨_, _, _, rfl, hm, hr⟩ := r
  rename_i vs n
  have hn : names.length = vs.toArray.size := by rw [← hl, List.size_toArray, hr.length]
  rw [hn]
  refine wpP_of (unpackItems_tuple S1.ok.hh (tupIs S1 hm) fun h' he => wpP_of ?_)
  exact kA g t T1 R1 _ _ (S1.extBut he) hr.reverse _ _ fun m' R' σ' s' g2 S' k' => q1 m' T1 R' σ' s' g t (g1.trans g2) S' k'
theorem callWith_P {T R s} (S : St c T R σ m s) {f : Value} {first : List Value} {fl : List PV} (hk : keepOk c.K f = true) (rf : VRs T (μs R) first fl) {pos} {e : Expr} {rest : List Expr} {Q : Value → Shared → Prop} {E : Value → Shared → Prop}
    (h : WL c pos (e :: rest) σ m (fun as σ2 => WCP c f (fl ++ as) σ2 m K X) X) (q : OkK c T R m K Q) (ex : ExK c T R m X E)
    (he : ∀ env, starEach (e :: rest) env = (false, eval e env) :: starEach rest env) (hplain : ∀ env, (backTo pos (starEach rest env)).any (·.1) = false) :
    wpP (model c.prog c.w) c.A (callWith pos f first (backTo pos (starEach (e :: rest) c.env)) []) Q E s := by
  have body : wpP (model c.prog c.w) c.A (spliced (backTo pos (starEach (e :: rest) c.env))) (fun vs s₁ => c.K.In s₁.heap ∧ wpP (model c.prog c.w) c.A (call f (first ++ vs) []) Q E s₁) E s := by
    refine wpP_of (h T R s S _ _ (fun vs l T1 R1 σ1 s1 g1 S1 rs k => ⟨S1.kin, ?_⟩) (fun e' s' σ' => ex e' s' σ' _ (Tn.refl c)))
    exact k T1 R1 s1 _ S1 ((rf.mono g1).append rs) Q E (fun v pv T' R' σ' s' g t g2 S' r k' => q v pv T' R' σ' s' g t (g1.trans g2) S' r k') (fun e' s' σ' g t hx hX => ex e' s' σ' g t (hx.mono g1) hX)
  rw [he] at body ⊢
  exact wpP_callWith (P := c.K.In) (by show ((false || (backTo pos (starEach rest c.env)).any (·.1)) || false) = false; rw [hplain]; rfl) (keeps_ok hk) (wpP_evalArgs body)
theorem WEP_call {func e : Expr} {rest : List Expr} {pos} (h : WE c func σ m (jFP c pos (e :: rest) m K X) X)
    (hc : ∀ env, eval (.Call func (e :: rest) [] pos) env = (do callWith pos (← eval func env) [] (backTo pos (starEach (e :: rest) env)) (backToKw pos (keywordEach [] env))) := by intro _; rfl)
    (he : ∀ env, starEach (e :: rest) env = (false, eval e env) :: starEach rest env := by intro _; rfl) (hplain : ∀ env, (backTo pos (starEach rest env)).any (·.1) = false := by intro _; rfl) : WEP c (.Call func (e :: rest) [] pos) σ m K X := by
  intro T R s st Q E q ex
  rw [hc]
  refine wpP_bind (wpP_of (h T R s st _ _ (fun v pv T1 R1 σ1 s1 g1 S1 r k => ?_) (fun e' s' σ' => ex e' s' σ' _ (Tn.refl c))))
  obtain ⟨f, rfl, hk, k⟩ := k
  replace r := r.inv; obtain rfl := r
  exact callWith_P (fl := []) S1 hk .nil k (fun v pv T' R' σ' s' g t g2 S' r k' => q v pv T' R' σ' s' g t (g1.trans g2) S' r k') (fun e' s' σ' g t hx hX => ex e' s' σ' g t (hx.mono g1) hX) he hplain
theorem WEP_meth {o e : Expr} {name : Str} {rest : List Expr} {apos pos} {pl : Env → Sem Bool} (h : WEP c o σ m (jMP c name pos (e :: rest) m K X) X)
    (hc : ∀ env, eval (.Call (.Attribute o name apos) (e :: rest) [] pos) env = (do
      let ov ← eval o env
      standAt apos.atName
      let (f, first) ← holding [ov] (getMethod ov name (pl env))
      callWith pos f first (backTo pos (starEach (e :: rest) env)) []) := by intro _; rfl)
    (he : ∀ env, starEach (e :: rest) env = (false, eval e env) :: starEach rest env := by intro _; rfl) (hplain : ∀ env, (backTo pos (starEach rest env)).any (·.1) = false := by intro _; rfl) : WEP c (.Call (.Attribute o name apos) (e :: rest) [] pos) σ m K X := by
  intro T R s st Q E q ex
  refine wpP_MethodCall (he := hc _) (h T R s st _ _ (fun v pv T1 R1 σ1 s1 g t g1 S1 r k => ?_) ex)
  refine wpP_of (k g t T1 R1 s1 v _ S1 r _ _ (fun f first l T2 R2 σ2 s2 g2 S2 rs k2 => ?_) (fun e' s' σ' hx hX => ex e' s' σ' g t (hx.mono g1) hX))
  obtain ⟨hk, k2⟩ := k2
  exact callWith_P (c := c.re g) S2 hk rs k2 (fun v pv T' R' σ' s' g' t' g3 S' r k' => q v pv T' R' σ' s' g' (t.trans t') (g1.trans (g2.trans g3)) S' r k') (fun e' s' σ' g' t' hx hX => ex e' s' σ' g' (t.trans t') (hx.mono (g1.trans g2)) hX) he hplain
theorem WEP_meth0 {o : Expr} {name : Str} {apos pos} {pl : Env → Sem Bool} (h : WEP c o σ m (jMP0 c name m K X) X)
    (hc : ∀ env, eval (.Call (.Attribute o name apos) [] [] pos) env = (do
      let ov ← eval o env
      standAt apos.atName
      let (f, first) ← holding [ov] (getMethod ov name (pl env))
      callWith pos f first (backTo pos (starEach [] env)) []) := by intro _; rfl) : WEP c (.Call (.Attribute o name apos) [] [] pos) σ m K X := by
  intro T R s st Q E q ex
  refine wpP_MethodCall (he := hc _) (h T R s st _ _ (fun v pv T1 R1 σ1 s1 g t g1 S1 r k => ?_) ex)
  refine wpP_of (k g t T1 R1 s1 v _ S1 r _ _ (fun f first l T2 R2 σ2 s2 g2 S2 rs k2 => ?_) (fun e' s' σ' hx hX => ex e' s' σ' g t (hx.mono g1) hX))
  obtain ⟨hk, k2⟩ := k2
  refine wpP_callWith (P := c.K.In) rfl (keeps_ok hk) (wpP_evalArgs_nil ⟨S2.kin, ?_⟩)
  rw [List.append_nil]
  exact k2 T2 R2 s2 _ S2 rs Q E (fun v pv T' R' σ' s' g' t' g3 S' r k' => q v pv T' R' σ' s' g' (t.trans t') (g1.trans (g2.trans g3)) S' r k') (fun e' s' σ' g' t' hx hX => ex e' s' σ' g' (t.trans t') (hx.mono (g1.trans g2)) hX)
end
end Nv
end
section
open PySem PySem.W PySem.Calls PyProof.Rows PyProof.V PySem.Spec
namespace Nv
theorem upToSlots_turn {fs : List Addr} {g g' : Heap} (t : KtsTurn fs g g') : g.UpToSlots g' := fun b o e _ => t.up e
theorem RaisedW.turn {base g g' h : Heap} {l : List Env} {e : Addr} {cls : Value} {news : Led} (R : RaisedW base g' l e cls news h) (t : KtsTurn (l.filterMap (·.frame)) g g') : RaisedW base g l e cls news h := by
  obtain ⟨B, a0, x1, x2, x3, x4⟩ := R
  refine ⟨B, a0, x1, fun b o q n => x2 b o (t.other b o q n) n, fun q hq => ⟨(x3 q hq).1, (x3 q hq).2.1, ?_⟩, x4⟩
  cases hg : g.get? q.1 with
  | none => rfl
  | some o =>
    obtain ⟨sl, h'⟩ := t.up hg
    rw [(x3 q hq).2.2] at h'; cases h'
section
variable {prog : Program} {w : World} {A₀ A : Around} {s : Shared} {base h₀ : Heap} {outer : List Env} {L : Addr} {m : Str → Option Value} {env : Env} {news : List (Addr × Obj)}
  {R : Result → Shared → Prop} {name qual : Str} {params : Arguments} {body : List Stmt} {scope : Scope} {cl : List (Str × Addr)} {dV kV doc pm cdv ct : Value} {an : Option Addr} {fo : Obj} {f : Addr} {args : Args} {binds : List (Str × Value)}
theorem turn_back (B : Below A₀ base outer h₀) (F : Fr h₀ L s.heap m) (N : News h₀ L s.heap news) (hf : env.frame = some L) {g' h' : Heap} {L' : Addr} {m' : Str → Option Value} {news' : List (Addr × Obj)}
    (T' : KtsTurn ((env :: outer).filterMap (·.frame)) (hideAll s.heap (news.map (·.1))) g') (F' : Fr g' L' h' m') (N' : News g' L' h' news') :
    ∃ g₁, KtsTurn (outer.filterMap (·.frame)) h₀ g₁ ∧ Fr g₁ L h' m ∧ News g₁ L h' news' ∧ Below A₀ base outer g₁ := by
  have nm : ∀ b o, h₀.get? b = some o → b ∉ news.map (·.1) := fun b o e q => by
    obtain ⟨p, hp, rfl⟩ := List.mem_map.mp q
    rw [(N p hp).2.2] at e; cases e
  have st : h₀.StaysIn (hideAll s.heap (news.map (·.1))) := fun b o e => hideAll_get _ (F.keep b o e) (nm b o e)
  obtain ⟨oL, es, ep, hL, hLd, hLk, hLf⟩ := F.ns
  have nL : L ∉ news.map (·.1) := fun q => by
    obtain ⟨p, hp, e⟩ := List.mem_map.mp q
    exact (N p hp).2.1 e
  have hLg := hideAll_get (news.map (·.1)) hL nL
  have nL₀ : h₀.get? L = none := kts_self F
  have mem : ∀ b, b ∈ (env :: outer).filterMap (·.frame) → b = L ∨ b ∈ outer.filterMap (·.frame) := fun b hm => by
    obtain ⟨e, he, hf'⟩ := List.mem_filterMap.mp hm
    rcases List.mem_cons.mp he with rfl | he
    · exact .inl (Option.some.inj (hf'.symm.trans hf))
    · exact .inr (List.mem_filterMap.mpr ⟨e, he, hf'⟩)
  obtain ⟨sl, hs⟩ := T'.up hLg
  obtain ⟨T₁, S₁⟩ := kts_turn_at (h := h') (fs := outer.filterMap (·.frame)) (g := h₀)
    (fun b hb => by
      obtain ⟨_, o, ho', _⟩ := B.frames.mem hb
      exact ⟨o, ho'⟩)
    (fun b o e nmem => F'.keep b o (T'.other b o (st b o e) (fun q => by
      rcases mem b q with z | z
      · rw [z, nL₀] at e
        cases e
      · exact nmem z)))
    (fun b o e hm => by
      obtain ⟨sl', hs'⟩ := T'.up (st b o e)
      exact ⟨sl', F'.keep _ _ hs'⟩)
  refine ⟨_, T₁, ⟨⟨_, es, ep, F'.keep _ _ hs, hLd, hLk, hLf⟩, S₁, by rw [T₁.size]; exact F.above⟩, fun p hp => ⟨(N' p hp).1, fun q => ?_, ?_⟩, ⟨B.stack, fun b o e => T₁.other b o (B.stays b o e) (fun hm => by
    rw [(B.frames.mem hm).1] at e
    cases e), B.frames.of_keeps fun b o e _ => ?_⟩⟩
  · have := (N' p hp).2.2; rw [q, hs] at this; cases this
  · refine T₁.none_ _ ?_
    cases q : h₀.get? p.1 with
    | none => rfl
    | some o =>
      obtain ⟨sl', hs'⟩ := T'.up (st _ _ q)
      have := (N' p hp).2.2
      rw [hs'] at this
      cases this
  · obtain ⟨sl', hs'⟩ := T₁.up e
    exact ⟨_, hs', rfl⟩
noncomputable abbrev Back (A₀ : Around) (base h₀ g : Heap) (env : Env) (outer : List Env) (L : Addr) (m : Str → Option Value) : Prop :=
  ∀ (g' h' : Heap) (L' : Addr) (m' : Str → Option Value) (news' : List (Addr × Obj)), KtsTurn ((env :: outer).filterMap (·.frame)) g g' → Fr g' L' h' m' → News g' L' h' news' →
    ∃ g₁, KtsTurn (outer.filterMap (·.frame)) h₀ g₁ ∧ Fr g₁ L h' m ∧ News g₁ L h' news' ∧ Below A₀ base outer g₁
theorem callP_plain (B : Below A₀ base outer h₀) (F : Fr h₀ L s.heap m) (N : News h₀ L s.heap news) (hlim : h₀.NoLimit) (hA : A.frames = some (env :: outer)) (hf : env.frame = some L) (hke : env.scope.kind = .function)
    (ho : s.heap.get? f = some fo) (hd : fo.data = .func (fnX name qual params body scope cl dV kV doc pm an cdv ct)) (hcd : s.heap.CodeRec cdv qual) (hroom : A.depth < recursionLimit)
    (hbind : BindsTo s (fnX name qual params body scope cl dV kV doc pm an cdv ct) args binds) (hloc : ∀ y ∈ binds, scope.names.lookup y.1 = some .local)
    (h : ∀ g L' h₁, Fr h₀ L g m → Fr g L' h₁ (fun y => binds.reverse.lookup y) → News g L' h₁ news → Below A base (env :: outer) g → h₀.StaysIn g → (∀ p ∈ news, p.1 < L') → Back A₀ base h₀ g env outer L m →
      wpP (model prog w) (A.deeper (envX qual scope L' f cdv cl)) (execs body (envX qual scope L' f cdv cl))
        (fun fl s' => R (.ok (.ret (match fl with | .ret v => v | _ => .none))) s')
        (fun e s' => wpP (model prog w) (A.deeper (envX qual scope L' f cdv cl)) (leaving (envX qual scope L' f cdv cl) e) (fun _ s'' => R (.error e) s'') (fun e' s'' => R (.error e') s'') s')
        { s with heap := h₁, toks := s.toks + binds.length })
    (hcell : ∀ x ∈ scope.names, x.2 ≠ .cell) (hco : scope.isCoroutine = false := by rfl) (hgen : scope.isGenerator = false := by rfl) (hk : scope.kind = .function := by rfl) : codeP (model prog w) A (.call (.ref f) args) R s := by
  obtain ⟨FG, BG, st, _⟩ := groundX (R := R) B F N hA hf hke
  refine codeP_call_function (fd := fnX name qual params body scope cl dV kV doc pm an cdv ct) (body := body) hroom ho hd hco hgen rfl hcd (hbind _ _ _ _ ?_)
  refine wpAny_newFunctionEnv hcell hloc (fun h₁ hns₀ hsb₀ => ?_) hk
  have hk₁ : ∀ b o, s.heap.get? b = some o → h₁.get? b = some o := fun b o e => hsb₀.extBut b o (Nat.ne_of_lt (Heap.lt_size e)) (Heap.get?_push_of_some _ e)
  refine ⟨(hlim.keeps F.keep).fresh _ hsb₀, codeP_func ?_⟩
  exact wpP_mono (h _ s.heap.objs.size h₁ FG ⟨hns₀, fun b o e => hk₁ b o (of_hideAll _ e), Nat.le_of_eq (hideAll_size _ _)⟩
    (fun p hp => ⟨hk₁ _ _ (N p hp).1, Nat.ne_of_lt (Heap.lt_size (N p hp).1), hideAll_none _ (List.mem_map_of_mem hp)⟩) BG st (fun p hp => Heap.lt_size (N p hp).1) (fun g' h' L' m' news' t f n => turn_back B F N hf t f n)) (fun fl s' hl => hl) fun _ _ y => y
theorem callP_cells (B : Below A₀ base outer h₀) (F : Fr h₀ L s.heap m) (N : News h₀ L s.heap news) (hlim : h₀.NoLimit) (hA : A.frames = some (env :: outer)) (hf : env.frame = some L) (hke : env.scope.kind = .function)
    (ho : s.heap.get? f = some fo) (hd : fo.data = .func (fnX name qual params body scope [] dV kV doc pm an cdv ct)) (hcd : s.heap.CodeRec cdv qual) (hroom : A.depth < recursionLimit)
    (hbind : BindsTo s (fnX name qual params body scope [] dV kV doc pm an cdv ct) args binds)
    (hkind : ∀ n, ∀ x ∈ binds, scope.names.lookup x.1 = some .local ∨ (scope.names.lookup x.1 = some .cell ∧ ((cellsFrom n scope.names []).lookup x.1).isSome = true))
    (hnd : ((cellsFrom 0 scope.names []).map (·.1)).Nodup)
    (h : ∀ g L' h₁ tk cells, Fr h₀ L g m → Fr g L' h₁ (bindL (envOfC qual scope L' f cdv).kindOf binds fun _ => none) → News g L' h₁ (cells ++ news) →
      CellsAre (bindC (envOfC qual scope L' f cdv).kindOf binds fun _ => none) (cellsFrom (L' + 1) scope.names []) cells → Below A base (env :: outer) g → h₀.StaysIn g → (∀ p ∈ news, p.1 < L') → Back A₀ base h₀ g env outer L m →
      wpP (model prog w) (A.deeper (envOfC qual scope L' f cdv)) (execs body (envOfC qual scope L' f cdv))
        (fun fl s' => R (.ok (.ret (match fl with | .ret v => v | _ => .none))) s')
        (fun e s' => wpP (model prog w) (A.deeper (envOfC qual scope L' f cdv)) (leaving (envOfC qual scope L' f cdv) e) (fun _ s'' => R (.error e) s'') (fun e' s'' => R (.error e') s'') s')
        { s with heap := h₁, toks := tk })
    (hco : scope.isCoroutine = false := by rfl) (hgen : scope.isGenerator = false := by rfl) (hk : scope.kind = .function := by rfl) : codeP (model prog w) A (.call (.ref f) args) R s := by
  obtain ⟨FG, BG, st, _⟩ := groundX (R := R) B F N hA hf hke
  refine codeP_call_function hroom ho hd hco hgen rfl hcd (hbind _ _ _ _ ?_)
  refine wpAny_newFunctionEnv_cells hk (hkind _) fun env' he s' x => ?_
  subst he
  refine ⟨(hlim.keeps F.keep).keeps x.toInCall.keep, codeP_func ?_⟩
  obtain ⟨h₁, tk, rfl, _⟩ := x.done
  have hk₁ := x.toInCall.keep
  obtain ⟨cells, NC, Y⟩ := Cl.news (h₀ := s.heap) (Nat.le_refl _) fun n c hm => ⟨x.cell n c (lookup_of_mem_nodup (cellsFrom_names scope.names 0 (s.heap.objs.size + 1) [] [] rfl ▸ hnd) hm), x.above n c hm⟩
  refine wpP_mono (h _ s.heap.objs.size h₁ tk cells FG ⟨x.toInCall.ns, fun b o e => hk₁ b o (of_hideAll _ e), Nat.le_of_eq (hideAll_size _ _)⟩ (fun p hp => ?_) Y BG st (fun p hp => Heap.lt_size (N p hp).1) (fun g' h' L' m' news' t f n => turn_back B F N hf t f n)) (fun fl s' hl => hl) fun _ _ y => y
  rcases List.mem_append.mp hp with hp | hp
  · refine ⟨(NC p hp).1, (NC p hp).2.1, ?_⟩
    cases q : (hideAll s.heap (news.map (·.1))).get? p.1 with
    | none => rfl
    | some o => have := of_hideAll _ q; rw [(NC p hp).2.2] at this; cases this
  · exact ⟨hk₁ _ _ (N p hp).1, Nat.ne_of_lt (Heap.lt_size (N p hp).1), hideAll_none _ (List.mem_map_of_mem hp)⟩
end
theorem Cx.Ok.re {c : Cx} (ok : c.Ok) {g : Heap} (B : Below c.A₀ c.base c.outer g) : (c.re g).Ok := ⟨B, ok.kinB.keeps B.stays, ok.topB.keeps B.stays, ok.hA, ok.hf, ok.hk, ok.hh, ok.glob, ok.bl, ok.ek, ok.kinB, ok.topB⟩
section
variable {G : Gl} {c : Cx} {σ : List AO} {m : Nm} {K : PV → List AO → Prop} {X : List AO → Prop}
theorem WCoP_defc {f : Addr} {name qual : Str} {params : Arguments} {body : List Stmt} {scope : Scope} {dV kV doc pm cdv ct oc : Value} {an od : Option Addr} {osl : Array (Option Value)} {as : List PV} {names cns : List Str} {n : Nat}
    (std : c.Std G) (room : Room c (n + 1)) (hgd : c.A.guards = some [])
    (ho : ∀ P, (G.Kw P).lookup f = some ⟨oc, od, .func (fnOf name qual params body scope dV kV doc pm an cdv ct), osl⟩) (hcd : ∀ P, codeIn (G.Kw P) cdv qual = true)
    (hb : BindN (fnOf name qual params body scope dV kV doc pm an cdv ct) names names []) (hlen : names.length = as.length)
    (hkind : ∀ vs : List Value, vs.length = as.length → ((names.zip vs).all fun y => scope.names.lookup y.1 == some .local || scope.names.lookup y.1 == some .cell) = true)
    (hcns : ∀ k, (cellsFrom k scope.names []).map (·.1) = cns) (hnd : cns.Nodup) (hco : scope.isCoroutine = false) (hgen : scope.isGenerator = false) (hk : scope.kind = .function)
    (h : ∀ (P : Px), (G.at P ⟨qual, scope, f, cdv⟩ (cellsFrom (P.L + 1) scope.names []) (idxFrom σ.length cns)).Ok → Room (G.at P ⟨qual, scope, f, cdv⟩ (cellsFrom (P.L + 1) scope.names []) (idxFrom σ.length cns)) n → (G.at P ⟨qual, scope, f, cdv⟩ (cellsFrom (P.L + 1) scope.names []) (idxFrom σ.length cns)).A.guards = some [] →
      WSP (G.at P ⟨qual, scope, f, cdv⟩ (cellsFrom (P.L + 1) scope.names []) (idxFrom σ.length cns)) body (σ ++ cns.map fun x => .cell (bindCA (fun y => scope.names.lookup y) (names.zip as) (fun _ => none) x)) (bindLA (fun y => scope.names.lookup y) (names.zip as) []) (fun _ σ' => K .none σ') K X) :
    WCoP c (.ref f) as σ m K X := by
  intro T R s vs st rs Q E q ex
  obtain ⟨mr, F, nr⟩ := st.fr
  have ok := st.ok
  refine (callP_cells (fo := ⟨oc, od, .func (fnOf name qual params body scope dV kV doc pm an cdv ct), osl⟩) (binds := names.zip vs) ok.below F st.news ok.top.nolimit ok.hA ok.hf ok.hk ((st.kin) _ _ (by rw [std.K]; exact ho _)) rfl (codeRec_of st.kin (by rw [std.K]; exact hcd _)) (by have := room.d; show c.A.depth < 1000; omega)
    (BindsTo.of_eq (by have := hb.all vs (by rw [rs.length, hlen]); simpa using this)) (kindsX (hkind vs (by rw [rs.length]))) (by rw [hcns]; exact hnd) (fun g L' h₁ tk cells FG F' N' Y B' stg hlt back => ?_) hco hgen hk)
  have hw := h (c.px g L')
  change Cx.Ok (G.at (c.px g L') ⟨qual, scope, f, cdv⟩ (cellsFrom (L' + 1) scope.names []) (idxFrom σ.length cns)) → Room (G.at (c.px g L') ⟨qual, scope, f, cdv⟩ (cellsFrom (L' + 1) scope.names []) (idxFrom σ.length cns)) n → c.A.guards = some [] → WSP (G.at (c.px g L') ⟨qual, scope, f, cdv⟩ (cellsFrom (L' + 1) scope.names []) (idxFrom σ.length cns)) _ _ _ _ _ _ at hw
  rw [std.at_eq g L' ⟨qual, scope, f, cdv⟩ (cellsFrom (L' + 1) scope.names []) (idxFrom σ.length cns)] at hw
  have gC := Gr.more T R cells
  have hok := inOk ok B' stg hk (L' := L') (cl := cellsFrom (L' + 1) scope.names []) (ci := idxFrom σ.length cns) (qual := qual) (f := f) (cdv := cdv)
  have hS := enterSt (s := { s with heap := h₁, toks := tk }) (names := names) (vs := vs) (as := as) (R := R) (T := T) (cells := cells) (σ := σ) hok F' (fun p hp => N' p (by
      rw [← List.append_assoc] at hp
      rcases List.mem_append.mp hp with hp | hp
      · exact List.mem_append_right _ hp
      · exact List.mem_append_left _ hp)) st.nd st.len st.objs (by show ({ s with heap := h₁, toks := tk } : Shared) = _; rw [st.sh]; rfl) rfl rfl ⟨fun p hp => gC.get (st.nso.1 p hp), rfl⟩ (hcns _) hnd (cellsFrom_nd _ _ _ (by simp) (by simp))
    (fun p hp y hy => Nat.lt_of_lt_of_le (hlt p hp) (Nat.le_trans (Nat.le_succ _) (cellsFrom_above scope.names (L' + 1) [] (L' + 1) (Nat.le_refl _) (by simp) y hy))) Y rs
  have fin : ∀ v pv m' T' R' σ' s' g2, Tn (c.inn g L' qual scope f cdv (cellsFrom (L' + 1) scope.names []) (idxFrom σ.length cns)) g2 → Gr T (μs (R ++ cells)) T' (μs R') → St ((c.inn g L' qual scope f cdv (cellsFrom (L' + 1) scope.names []) (idxFrom σ.length cns)).re g2) T' R' σ' m' s' → VR T' (μs R') v pv → K pv σ' → Q v s' := by
    intro v pv m' T' R' σ' s' g2 tn gr S' r k
    have gr := gC.trans gr
    obtain ⟨mr', F2, _⟩ := S'.fr
    obtain ⟨g1, t1, F3, N3, B3⟩ := back g2 s'.heap _ _ _ tn F2 S'.news
    exact q v pv T' R' σ' s' g1 t1 gr ⟨ok.re B3, ⟨mr, F3, nr.mono gr⟩, N3, S'.nd, S'.len, S'.objs, S'.sh, fun x k e => let ⟨a, h1, h2⟩ := st.cel x k e; ⟨a, h1, gr.get h2⟩, st.nso.mono gr⟩ r k
  refine hw hok (inRoom room) hgd T (R ++ cells) _ hS (fun fl s' => Q (match fl with | .ret v => v | _ => .none) s')
    (fun e s' => wpP (model c.prog c.w) (c.A.deeper (envX qual scope L' f cdv (cellsFrom (L' + 1) scope.names []))) (leaving (envX qual scope L' f cdv (cellsFrom (L' + 1) scope.names [])) e) (fun _ s'' => E e s'') (fun e' s'' => E e' s'') s')
    (fun m' T' R' σ' s' g2 tn gr S' k => fin .none .none m' T' R' σ' s' g2 tn gr S' .none k) fin (fun e m' s' σ' g2 tn hx hX => ?_)
  refine wpP_of <| leaveW (c := (c.inn g L' qual scope f cdv (cellsFrom (L' + 1) scope.names []) (idxFrom σ.length cns)).re g2) hx rfl rfl fun e1 T1 R1 h' he1 g1 S1 R2 U => ?_
  have g1 := gC.trans g1
  refine ex e _ σ' _ (Tn.refl c) ⟨e1, T1, R1, mr, g, he1, g1, nr.mono g1, FG, ⟨ok, S1.nd, S1.len, S1.objs, fun x k e => let ⟨a, h1, h2⟩ := st.cel x k e; ⟨a, h1, g1.get h2⟩, st.nso.mono g1⟩, ?_, .inr ⟨(upToSlots_turn tn).trans U, R2.turn tn⟩⟩ hX
  obtain ⟨e2, T2, R2', mr2, hh2, _, _, _, _, _, hs2, _⟩ := hx
  show ({ s' with heap := h' } : Shared) = _
  rw [hs2]; rfl
theorem WCoP_def {f : Addr} {name qual : Str} {params : Arguments} {body : List Stmt} {scope : Scope} {dV kV doc pm cdv ct oc : Value} {an od : Option Addr} {osl : Array (Option Value)} {as : List PV} {names : List Str} {n : Nat}
    (std : c.Std G) (room : Room c (n + 1)) (hgd : c.A.guards = some [])
    (ho : ∀ P, (G.Kw P).lookup f = some ⟨oc, od, .func (fnOf name qual params body scope dV kV doc pm an cdv ct), osl⟩) (hcd : ∀ P, codeIn (G.Kw P) cdv qual = true)
    (hb : BindN (fnOf name qual params body scope dV kV doc pm an cdv ct) names names []) (hlen : names.length = as.length)
    (hloc : (names.all fun y => scope.names.lookup y == some .local) = true)
    (hcell : ∀ x ∈ scope.names, x.2 ≠ .cell) (hco : scope.isCoroutine = false) (hgen : scope.isGenerator = false) (hk : scope.kind = .function)
    (h : ∀ P : Px, (G.at P ⟨qual, scope, f, cdv⟩ [] []).Ok → Room (G.at P ⟨qual, scope, f, cdv⟩ [] []) n → (G.at P ⟨qual, scope, f, cdv⟩ [] []).A.guards = some [] →
      WSP (G.at P ⟨qual, scope, f, cdv⟩ [] []) body σ (names.zip as).reverse (fun _ σ' => K .none σ') K X) :
    WCoP c (.ref f) as σ m K X := by
  have hc0 : ∀ k, cellsFrom k scope.names [] = [] := fun k => cellsFrom_none _ _ _ hcell
  have hl : ∀ y ∈ names, scope.names.lookup y = some .local := fun y hy => beq_iff_eq.mp (List.all_eq_true.mp hloc y hy)
  refine WCoP_defc (cns := []) std room hgd ho hcd hb hlen (fun vs _ => List.all_eq_true.mpr fun y hy => by rw [hl _ (List.of_mem_zip hy).1]; rfl) (fun k => by rw [hc0]; rfl) List.nodup_nil hco hgen hk fun P => ?_
  rw [hc0, bindLA_local _ _ fun y hy => hl _ (List.of_mem_zip hy).1, List.map_nil, List.append_nil, List.append_nil]
  exact h P
end
end Nv
end
section
open PySem PySem.W PySem.Calls PyProof.Rows PyProof.V PySem.Spec PySem.Builtin
namespace Nv
section
variable {prog : Program} {w : World} {A : Around} {K : Frag} {C : Addr} {s : Shared} {R : Result → Shared → Prop}
theorem makeP {rest : List Value} {init : Value} (Y : Makes (model prog w) s.heap C) (hi : Looks (model prog w) s.heap (typeLookup (.ref C) "__init__") (some init))
    (hb : ∀ self, Looks (model prog w) s.heap (bindSpecial init self) (init, [self])) (hne : (some init != some (Value.builtin "object.__init__")) = true)
    (hq : codeP (model prog w) (A.under (.builtin "type.__call__" ⟨.ref C :: rest, []⟩)) (.call init ⟨.ref (s.heap.objs.size + 1) :: rest, []⟩) (InitBack (s.heap.objs.size + 1) R) { s with heap := (s.heap.push emptyDict).push (instObj C s.heap.objs.size) }) :
    codeP (model prog w) A (.call (.ref C) ⟨rest, []⟩) R s := by
  have Y' := Y
  obtain ⟨⟨oc, od, cd, sl, hC, e1, e2, e4⟩, made, base, self, top, call, typ⟩ := Y
  have hm : Looks (model prog w) s.heap (mroOf (.ref C)) cd.mro := ((Looks.ld (part := none) hC).andThen .now).andThen .now
  refine codeP_of_tree rfl (wpP_of ?_)
  show wpAny _ _ (callAny (.ref C) _) _ _ _
  simp only [callAny]
  refine wpAny_bind (wpAny_load hC ?_)
  show wpAny _ _ (callAny.viaDunder (.ref C) _) _ _ _
  unfold callAny.viaDunder
  refine wpAny_bind (call.here ?_)
  dsimp only
  rw [tc_bind]
  refine wpAny_bind (wpAny_pure (wpAny_bind (wpAny_pure ?_)))
  refine wpAny_pure (a := Fin.again (.call (.builtin "type.__call__") ⟨.ref C :: rest, []⟩)) (And.intro rfl ?_)
  refine codeP_of_tree rfl ?_
  show wpP _ A.in1 (do checkBuiltinCall "type.__call__" ⟨.ref C :: rest, []⟩; again (.builtin "type.__call__" ⟨.ref C :: rest, []⟩)) _ _ s
  refine wpP_bind (wpP_of (check_slot tc_kind tc_split typ (tc_args _ _ _) (wpP_pure ⟨Code.quiet_builtin _ (by decide +kernel), codeP_builtin entry_typeCall rfl ?_⟩)))
  unfold Builtin.«type.__call__»
  dsimp only
  rw [if_neg (show ¬ ((Value.ref C == Value.type "type") = true) from Bool.false_ne_true)]
  refine wpP_bind (wpP_of (hm.here ?_))
  rw [if_neg (by rw [e4]; exact Bool.false_ne_true)]
  refine wpP_bind (wpP_of (made.here ?_))
  dsimp only
  refine wpP_bind (wpP_pure ?_)
  obtain ⟨h, g, d, t, os⟩ := s
  refine wpP_bind (wpP_holding (wpP_of (wpAny_call (new_K Y' hi (.inl hne) ?_))))
  have k : ∀ b o, h.get? b = some o → ((h.push emptyDict).push (instObj C h.objs.size)).get? b = some o := fun b o e => Heap.get?_push_of_some _ (Heap.get?_push_of_some _ e)
  have hx : ((h.push emptyDict).push (instObj C h.objs.size)).get? (h.objs.size + 1) = some (instObj C h.objs.size) := by heap_get
  have t1 : Looks (model prog w) ((h.push emptyDict).push (instObj C h.objs.size)) (typeOf (.ref (h.objs.size + 1))) (.ref C) := (Looks.ld hx).andThen .now
  have ii : Looks (model prog w) ((h.push emptyDict).push (instObj C h.objs.size)) (isInstance (.ref (h.objs.size + 1)) (.ref C)) true := t1.andThen (self.keeps k)
  refine wpP_bind (wpP_of (ii.here ?_))
  rw [if_neg (by decide)]
  refine wpP_bind (wpP_holding ?_)
  unfold callSpecial?
  have sp : Looks (model prog w) ((h.push emptyDict).push (instObj C h.objs.size)) (specialOf (.ref (h.objs.size + 1)) "__init__") (some init) := t1.andThen (hi.keeps k)
  refine wpP_bind (wpP_of (sp.here ?_))
  dsimp only
  refine wpP_holding (wpP_bind (wpP_of (((hb (.ref (h.objs.size + 1))).keeps k).here ?_)))
  dsimp only
  refine wpP_bind (wpP_call (codeP_mono hq fun r s' z => ?_))
  rcases r with e | (v | _ | _ | _) <;> first | exact z | exact z.elim | skip
  obtain ⟨rfl, z⟩ := z
  exact wpP_pure (wpP_pure z)
variable {h₀ : Heap} {L : Addr} {m : Str → Option Value} {news : Led}
theorem makeP_K {rest : List Value} {fI : Addr} (F : Fr h₀ L s.heap m) (N : News h₀ L s.heap news) (X : K.In s.heap) (hm : makesIn K C = true)
    (hi : findIn K (.ref C) "__init__" = some (some (.ref fI))) (hf : typeIn K (.ref fI) = some (.type "function"))
    (h : ∀ x dx h', Fr h₀ L h' m → News h₀ L h' ((x, instObj C dx) :: (dx, emptyDict) :: news) → (∀ p ∈ news, p.1 < dx) → dx < x →
      codeP (model prog w) (A.under (.builtin "type.__call__" ⟨.ref C :: rest, []⟩)) (.call (.ref fI) ⟨.ref x :: rest, []⟩) (InitBack x R) { s with heap := h' }) :
    codeP (model prog w) A (.call (.ref C) ⟨rest, []⟩) R s := by
  refine makeP (makes_of X hm) (looks_findIn X hi) (fun self => bind_fn X self hf) rfl (h _ s.heap.objs.size _ ((F.push _).push _) ?_ (fun p hp => Heap.lt_size (N p hp).1) (Nat.lt_succ_self _))
  have := (N.push F emptyDict).push (F.push _) (instObj C s.heap.objs.size)
  rwa [Heap.size_push] at this
end
section
variable {G : Gl} {c : Cx} {σ : List AO} {m : Nm} {K : PV → List AO → Prop} {Kn : Nm → List AO → Prop} {Kr : PV → List AO → Prop} {X : List AO → Prop}
theorem WCP_new {C fI : Addr} {as : List PV} {n : Nat} (std : c.Std G) (room : Room c (n + 1)) (hgd : c.A.guards = some []) (hm : ∀ P, makesIn (G.Kw P) C = true) (hi : ∀ P, findIn (G.Kw P) (.ref C) "__init__" = some (some (.ref fI))) (hf : ∀ P, typeIn (G.Kw P) (.ref fI) = some (.type "function"))
    (h : ∀ c' : Cx, c'.Std G → Room c' n → c'.A.guards = some [] → WCoP c' (.ref fI) (.loc (σ.length + 1) :: as) (σ ++ [.dict [], .inst C σ.length]) m (fun v σ' => v = .none ∧ K (.loc (σ.length + 1)) σ') X) : WCP c (.ref C) as σ m K X := by
  intro T R s vs st rs Q E q ex
  obtain ⟨mr, F, nr⟩ := st.fr
  refine wpP_call (makeP_K F st.news st.kin (by rw [std.K]; exact hm _) (by rw [std.K]; exact hi _) (by rw [std.K]; exact hf _) fun x dx h' F' N' hlt hdx => ?_)
  have ok := st.ok
  have ok' : (c.und (.builtin "type.__call__" ⟨.ref C :: vs, []⟩)).Ok := ⟨ok.below, ok.kin, ok.top, ok.hA, ok.hf, ok.hk, ok.hh, ok.glob, ok.bl, ok.ek, ok.kinB, ok.topB⟩
  have s1 : St c T R σ m { s with heap := h' } := ⟨ok, ⟨mr, F', nr⟩, fun p hp => N' p (.tail _ (.tail _ hp)), st.nd, st.len, st.objs, by rw [st.sh], st.cel, st.nso⟩
  have hx := N' (x, instObj C dx) (.head _)
  have hd := N' (dx, emptyDict) (.tail _ (.head _))
  have nid : dx ∉ (T ++ R).map (·.1) := fun hm' => by
    obtain ⟨p, hp, e⟩ := List.mem_map.mp hm'
    exact Nat.ne_of_lt (hlt p hp) e
  obtain ⟨s2, g2, μ2⟩ := s1.addR' (a := dx) (o := emptyDict) (ao := .dict []) ⟨nid, hd.2⟩ hd.1 (OR.dict (n := 0) .nil)
  have nix : x ∉ (T ++ (R ++ [(dx, emptyDict)])).map (·.1) := fun hm' => by
    rw [← List.append_assoc] at hm'
    obtain ⟨p, hp, e⟩ := List.mem_map.mp hm'
    rcases List.mem_append.mp hp with hp | hp
    · have := hlt p hp
      exact Nat.ne_of_lt (Nat.lt_trans this hdx) e
    · rw [List.mem_singleton.mp hp] at e
      exact Nat.ne_of_lt hdx e
  obtain ⟨s3, g3, μ3⟩ := s2.addR' (a := x) (o := instObj C dx) (ao := .inst C σ.length) ⟨nix, hx.2⟩ hx.1 (OR.inst (by
    obtain ⟨o, ho⟩ := μs_get.mp μ2
    rw [μs, List.map_append, List.getElem?_append_left (by rw [List.length_map]; exact (List.getElem?_eq_some_iff.mp ho).1)]
    exact μ2))
  rw [List.length_append, List.length_singleton] at μ3
  have hσ : σ ++ [AO.dict []] ++ [AO.inst C σ.length] = σ ++ [AO.dict [], AO.inst C σ.length] := List.append_assoc ..
  rw [hσ] at s3
  have s4 : St (c.und (.builtin "type.__call__" ⟨.ref C :: vs, []⟩)) T (R ++ [(dx, emptyDict)] ++ [(x, instObj C dx)]) (σ ++ [.dict [], .inst C σ.length]) m { s with heap := h' } := ⟨ok', s3.fr, s3.news, s3.nd, s3.len, s3.objs, s3.sh, s3.cel, s3.nso⟩
  have g4 := g2.trans g3
  have std' : (c.und (.builtin "type.__call__" ⟨.ref C :: vs, []⟩)).Std G := ⟨std.prog, std.K, std.p, std.loose, std.xc⟩
  have room' : Room (c.und (.builtin "type.__call__" ⟨.ref C :: vs, []⟩)) n := ⟨by have := room.d; show c.A.depth + 1 + n < 1000; omega, by have := room.u; show c.A.units + 1 + 10 * n < 9800; omega⟩
  refine codeP_mono (h _ std' room' hgd T _ _ (.ref x :: vs) s4 (.cons (.loc μ3) (VRs.mono g4 rs)) (fun v s' => v = .none ∧ Q (.ref x) s') E ?_ ?_) fun r s' z => ?_
  · rintro v pv T' R' σ' s' g' tn gr S' r ⟨rfl, k⟩
    (first | (replace r := r.inv; obtain rfl := r) | (replace r := r.inv; obtain ⟨_, rfl⟩ := r) | cases r)
    exact ⟨rfl, q _ _ T' R' σ' s' g' tn (g4.trans gr) ⟨ok.re S'.ok.below, S'.fr, S'.news, S'.nd, S'.len, S'.objs, S'.sh, S'.cel, S'.nso⟩ (.loc (gr.get μ3)) k⟩
  · rintro e s' σ' g' tn hx' hX
    refine ex e s' σ' g' tn ?_ hX
    obtain ⟨e', T', R', mr', hh, a1, a2, a3, a4, a5, a6, a7⟩ := hx'
    exact ⟨e', T', R', mr', hh, a1, g4.trans a2, a3, a4, ⟨ok.re a5.ok.below, a5.nd, a5.len, a5.objs, a5.cel, a5.nso⟩, a6, a7⟩
  · rcases r with e | (v | _ | _ | _) <;> first | exact z | exact z.elim
theorem WCP_ba {b : List UInt8} (hgd : c.A.guards = some []) (hz : b.length ≤ 100000) (h : K (.loc σ.length) (σ ++ [.ba b])) : WCP c (.type "bytearray") [.bytes b] σ m K X := by
  intro T R s vs st rs Q E q ex
  replace rs := rs.inv; obtain ⟨_, _, rfl, r1, r2⟩ := rs
  (first | (replace r2 := r2.inv; obtain rfl := r2) | (replace r2 := r2.inv; obtain ⟨_, rfl⟩ := r2) | cases r2); (first | (replace r1 := r1.inv; obtain rfl := r1) | (replace r1 := r1.inv; obtain ⟨_, rfl⟩ := r1) | cases r1)
  refine call_ba hgd (by rw [List.size_toArray]; exact Nat.le_trans hz (by decide)) fun h' e1 e2 => ?_
  obtain ⟨S2, g2, hn⟩ := st.addR (tk := s.toks) (o := baOf b) e2 (none_of_size s.heap) (by simpa using e1) (.ba b)
  exact q _ _ _ _ _ _ _ (Tn.refl c) g2 S2 (.loc hn) h
end
end Nv
end
section
open PySem PySem.W PySem.Calls PyProof.Rows PyProof.V PySem.Spec
namespace Nv
noncomputable def putF (x : Str) (pv : PV) : Nm → Nm
  | [] => [(x, pv)]
  | (y, p) :: r => if y == x then (y, pv) :: r else (y, p) :: putF x pv r
theorem DR.put {T μ} {x : Str} {hs : Int} {t : Tok} {v : Value} {pv : PV} (r : VR T μ v pv) : ∀ {es : List DictEntry} {fs : Nm}, DR T μ es fs → DR T μ (putL x hs (.str x t) v es) (putF x pv fs)
  | _, _, .nil => .cons r .nil
  | _, _, .cons (h := h) (x := y) (t := ty) (v := vy) (pv := py) (es := es) (fs := fs) r0 d => by
    unfold putL putF
    have hkey : (⟨h, .str y ty, vy⟩ : DictEntry).key.isStr x = (y == x) := rfl
    rw [hkey]
    cases hxy : (y == x) with
    | true => simp only [if_true]; exact .cons r d
    | false => simp only [Bool.false_eq_true, if_false]; exact .cons r0 (DR.put r d)
theorem DR.len {T μ} : ∀ {es : List DictEntry} {fs : Nm}, DR T μ es fs → es.length = fs.length
  | _, _, .nil => rfl
  | _, _, .cons _ d => by rw [List.length_cons, List.length_cons, DR.len d]
theorem upd_at {d : Addr} {o o' : Obj} : ∀ {l : Led} {i : Nat}, (l.map (·.1)).Nodup → l[i]? = some (d, o) → Upd d o o' l (l.set i (d, o'))
  | [], _, _, h => by simp at h
  | p :: r, 0, nd, h => by
    simp only [List.getElem?_cons_zero, Option.some.injEq] at h
    subst h
    rw [List.map_cons, List.nodup_cons] at nd
    exact .head fun q hq e => nd.1 (e ▸ List.mem_map_of_mem (f := (·.1)) hq)
  | p :: r, i + 1, nd, h => by
    simp only [List.getElem?_cons_succ] at h
    rw [List.map_cons, List.nodup_cons] at nd
    rw [List.set_cons_succ]
    exact .tail (fun e => nd.1 (by rw [e]; exact List.mem_map_of_mem (f := (·.1)) (List.mem_of_getElem? h))) (upd_at nd.2 h)
theorem upd_R {T R : Led} {d : Addr} {o o' : Obj} {i : Nat} (nd : ((T ++ R).map (·.1)).Nodup) (h : R[i]? = some (d, o)) : Upd d o o' (T ++ R) (T ++ R.set i (d, o')) := by
  have e : (T ++ R)[T.length + i]? = some (d, o) := by rw [List.getElem?_append_right (Nat.le_add_right _ _), Nat.add_sub_cancel_left]; exact h
  have := upd_at (o' := o') nd e
  rwa [List.set_append_right _ _ (Nat.le_add_right _ _), Nat.add_sub_cancel_left] at this
theorem μs_set {R : Led} {n : Nat} {a : Addr} {o o' : Obj} (e : R[n]? = some (a, o)) : μs (R.set n (a, o')) = μs R := by
  unfold μs
  rw [List.map_set]
  apply List.ext_getElem?
  intro i
  rw [List.getElem?_set]
  split
  · rename_i hi; subst hi
    split
    · rw [List.getElem?_map, e]; rfl
    · rename_i hlt
      rw [List.getElem?_eq_none (Nat.le_of_not_lt hlt)]
  · rfl
section
variable {c : Cx} {σ : List AO} {m : Nm} {K : PV → List AO → Prop} {Kn : Nm → List AO → Prop} {Kr : PV → List AO → Prop} {X : List AO → Prop}
theorem St.turnR {T R s} (st : St c T R σ m s) {h' : Heap} {tk : Nat} {n : Nat} {a : Addr} {o o' : Obj} {ao : AO} {mr : Str → Option Value} (nr : NR T (μs R) mr m) (F : Fr c.g c.L h' mr) (N : News c.g c.L h' (T ++ R.set n (a, o'))) (e : R[n]? = some (a, o)) (hr : OR T (μs R) o' ao) :
    St c T (R.set n (a, o')) (σ.set n ao) m { s with heap := h', toks := tk } ∧ μs (R.set n (a, o')) = μs R := by
  have hμ := μs_set (o' := o') e
  refine ⟨⟨st.ok, ⟨mr, F, hμ ▸ nr⟩, N, ?_, ?_, fun i p ao' e1 e2 => ?_, ?_, ?_, ?_⟩, hμ⟩
  · have := st.nd
    rw [List.map_append] at this ⊢
    show (T.map (·.1) ++ μs (R.set n (a, o'))).Nodup
    rw [hμ]; exact this
  · rw [List.length_set, List.length_set, st.len]
  · rw [hμ]
    rw [List.getElem?_set] at e1 e2
    split at e1
    · rename_i hin
      rw [if_pos hin] at e2
      split at e1
      · cases e1
        split at e2
        · cases e2; exact hr
        · cases e2
      · cases e1
    · rename_i hin
      rw [if_neg hin] at e2
      exact st.objs i p ao' e1 e2
  · show ({ s with heap := h', toks := tk } : Shared) = _
    rw [st.sh]
  · intro x k hx; rw [hμ]; exact st.cel x k hx
  · rw [hμ]; exact st.nso
noncomputable def setsOk (K : Frag) (C : Addr) (name : Str) : Bool := findIn K (.ref C) "__setattr__" == some (some (.builtin "object.__setattr__")) && plainOver K C && takerIn K C name == some none && hasDictIn K C
theorem set_W {T R s} (st : St c T R σ m s) {v ov : Value} {pv : PV} {n d : Nat} {C : Addr} {fs : Nm} {name : Str} (rv : VR T (μs R) v pv) (ro : VR T (μs R) ov (.loc n)) (e1 : σ[n]? = some (.inst C d)) (e2 : σ[d]? = some (.dict fs)) (hk : setsOk c.K C name = true) (hlen : (putF name pv fs).length ≤ 1000)
    {Q : Unit → Shared → Prop} {E : Value → Shared → Prop} (q : ∀ R' s', Gr T (μs R) T (μs R') → St c T R' (σ.set d (.dict (putF name pv fs))) m s' → Q () s') : wpAny (model c.prog c.w) c.A (setAttr ov name v) Q E s := by
  obtain ⟨x, dx, es, k, rfl, I, hr, hd, _⟩ := instAt st e1 e2 ro
  obtain ⟨mr, F, nr⟩ := st.fr
  simp only [setsOk, Bool.and_eq_true, beq_iff_eq] at hk
  obtain ⟨⟨⟨k1, k2⟩, k3⟩, k4⟩ := hk
  have hput := hr.put (x := name) (hs := PyData.keyHash c.w.params name) (t := s.toks + 1) rv
  refine set_dict F st.ok.kin st.news I rfl k1 k2 k3 k4 ?_ rfl (upd_R st.nd hd) (by rw [hput.len]; exact hlen) fun h' F' N' => ?_
  · cases hl : fs.lookup name with
    | none => rw [(getL_of hr).2 hl]; rfl
    | some p => obtain ⟨v', e, _⟩ := (getL_of hr).1 p hl; rw [e]; rfl
  · obtain ⟨S, hμ⟩ := st.turnR (tk := s.toks + 2) nr F' N' hd (.dict hput)
    exact q _ _ ⟨fun _ h => h, by rw [hμ]; exact List.prefix_refl _⟩ S
noncomputable abbrev jSA1 (c : Cx) (name : Str) (pv : PV) (m : List (Str × PV)) (Kn : Nm → List AO → Prop) (ov : PV) (σ : List AO) : Prop := ∃ n d C fs, ov = .loc n ∧ σ[n]? = some (.inst C d) ∧ σ[d]? = some (.dict fs) ∧ setsOk c.K C name = true ∧ (putF name pv fs).length ≤ 1000 ∧ Kn m (σ.set d (.dict (putF name pv fs)))
noncomputable abbrev jSA (c : Cx) (o : Expr) (name : Str) (m : List (Str × PV)) (Kn : Nm → List AO → Prop) (X : List AO → Prop) (pv : PV) (σ : List AO) : Prop := WE c o σ m (jSA1 c name pv m Kn) X
noncomputable abbrev jSAP (c : Cx) (o : Expr) (name : Str) (m : List (Str × PV)) (Kn : Nm → List AO → Prop) (X : List AO → Prop) (pv : PV) (σ : List AO) : Prop := ∀ g, Tn c g → WE (c.re g) o σ m (jSA1 c name pv m Kn) X
theorem WS1_asgA {o : Expr} {name : Str} {p pos} {e : Expr}
    (h : WE c e σ m (jSA c o name m Kn X) X)
    (hs : swapsWith e (some (.Attribute o name p)) pos.line c.env = pure false := by rfl) : WS1 c (.Assign [.Attribute o name p] e pos) σ m Kn Kr X := by
  intro T R s st Q E q1 q2 ex
  refine plainObj_wpAny_Assign_Attribute (hs := hs) (h T R s st _ _ (fun v pv T1 R1 σ1 s1 g1 S1 r k => ?_) (fun e' s' σ' hx hX => ex e' m s' σ' hx hX))
  refine k T1 R1 s1 S1 _ _ (fun ov po T2 R2 σ2 s2 g2 S2 r2 k2 => ?_) (fun e' s' σ' hx hX => ex e' m s' σ' (hx.mono g1) hX)
  obtain ⟨n, d, C, fs, rfl, e1, e2, hk, hl, k3⟩ := k2
  exact set_W S2 (r.mono g2) r2 e1 e2 hk hl fun R' s' g S => q1 m T2 R' _ s' (g1.trans (g2.trans g)) S k3
theorem WS1P_asgA {o : Expr} {name : Str} {p pos} {e : Expr}
    (h : WEP c e σ m (jSAP c o name m Kn X) X)
    (hs : swapsWith e (some (.Attribute o name p)) pos.line c.env = pure false := by rfl) : WS1P c (.Assign [.Attribute o name p] e pos) σ m Kn Kr X := by
  intro T R s st Q E q1 q2 ex
  rw [plainObj_exec_Assign_Attribute o name p e pos hs]
  refine wpP_at (wpP_bind (h T R s st _ _ (fun v pv T1 R1 σ1 s1 g t g1 S1 r k => wpP_of ?_) (fun e' s' σ' g t hx hX => ex e' m s' σ' g t hx hX)))
  rw [assign_Attribute]
  refine fun Γ p hΓ => ?_
  simp only [Sem.wp_bind', Sem.wp_holding, Sem.wp_cmd_standAt, Sem.wp_release, Sem.wp_pure']
  refine Sem.wp_mono _ Γ _ (fun x pos' sh' z => z _) (fun _ _ _ x => x) _ _ (k g t T1 R1 s1 S1 (fun ov s2 => ∀ p', Sem.wp (model c.prog c.w) Γ (setAttr ov name v) (fun _ _ s' => Q .next s') (fun e _ s' => E e s') p' s2) E (fun ov po T2 R2 σ2 s2 g2 S2 r2 k2 p' => ?_) (fun e' s' σ' hx hX => ex e' m s' σ' g t (hx.mono g1) hX) Γ _ hΓ)
  obtain ⟨n, d, C, fs, rfl, e1, e2, hk, hl, k3⟩ := k2
  exact set_W S2 (r.mono g2) r2 e1 e2 hk hl (Q := fun _ s' => Q .next s') (fun R' s' g3 S => q1 m T2 R' _ s' g t (g1.trans (g2.trans g3)) S k3) Γ p' hΓ
end
end Nv
end
section
open PySem PySem.W PySem.Calls PyProof.Rows PyProof.V PySem.Spec
namespace Nv
noncomputable def WG (c : Cx) (ov iv : PV) (σ : List AO) (m : Nm) (K : PV → List AO → Prop) (X : List AO → Prop) : Prop :=
  ∀ T R s v u, St c T R σ m s → VR T (μs R) v ov → VR T (μs R) u iv → ∃ (T' id : String), s.TypeIs v T' ∧ typeLookup (.type T') "__getitem__" = pure (some (.builtin id)) ∧ Run c T R σ m s (getItem v u) K X
noncomputable abbrev sliceOf (vl vu : Value) : Obj := { cls := .type "slice", data := .fields #[vl, vu, .none] }
noncomputable def WGs (c : Cx) (ov lo hi : PV) (σ : List AO) (m : Nm) (K : PV → List AO → Prop) (X : List AO → Prop) : Prop :=
  ∀ T R s v a vl vu, St c T R σ m s → VR T (μs R) v ov → VR T (μs R) vl lo → VR T (μs R) vu hi → (a, sliceOf vl vu) ∈ T →
    ∃ (T' id : String), s.TypeIs v T' ∧ typeLookup (.type T') "__getitem__" = pure (some (.builtin id)) ∧ Run c T R σ m s (getItem v (.ref a)) K X
noncomputable def WPart (c : Cx) (e : Option Expr) (σ : List AO) (m : Nm) (K : PV → List AO → Prop) (X : List AO → Prop) : Prop := match e with
  | none => K .none σ
  | some e => WE c e σ m K X
noncomputable abbrev jGR (c : Cx) (ov : PV) (m : List (Str × PV)) (K : PV → List AO → Prop) (X : List AO → Prop) (iv : PV) (σ : List AO) : Prop := WG c ov iv σ m K X
noncomputable abbrev jGL (c : Cx) (i : Expr) (m : List (Str × PV)) (K : PV → List AO → Prop) (X : List AO → Prop) (ov : PV) (σ : List AO) : Prop := WE c i σ m (jGR c ov m K X) X
noncomputable abbrev jL3 (c : Cx) (ov lv : PV) (m : List (Str × PV)) (K : PV → List AO → Prop) (X : List AO → Prop) (hv : PV) (σ : List AO) : Prop := WGs c ov lv hv σ m K X
noncomputable abbrev jL2 (c : Cx) (hi : Option Expr) (ov : PV) (m : List (Str × PV)) (K : PV → List AO → Prop) (X : List AO → Prop) (lv : PV) (σ : List AO) : Prop := WPart c hi σ m (jL3 c ov lv m K X) X
noncomputable abbrev jL1 (c : Cx) (lo hi : Option Expr) (m : List (Str × PV)) (K : PV → List AO → Prop) (X : List AO → Prop) (ov : PV) (σ : List AO) : Prop := WPart c lo σ m (jL2 c hi ov m K X) X
section
variable {c : Cx} {σ : List AO} {m : Nm} {K : PV → List AO → Prop} {Kn : Nm → List AO → Prop} {Kr : PV → List AO → Prop} {X : List AO → Prop}
theorem WE_sub {value slice : Expr} {pos} (h : WE c value σ m (jGL c slice m K X) X)
    (hs : ∀ o i, subscripted slice false o i = operate [o, i] (getItem o i) := by intro _ _; rfl) : WE c (.Subscript value slice pos) σ m K X := by
  intro T R s st Q E q ex
  refine Subscript_ (h T R s st _ _ (fun v pv T1 R1 σ1 s1 g1 S1 r k => ?_) ex)
  refine k T1 R1 s1 S1 _ _ (fun u pu T2 R2 σ2 s2 g2 S2 r2 k2 => ?_) (fun e' s' σ' hx hX => ex e' s' σ' (hx.mono g1) hX)
  obtain ⟨T', i, hT, hl, hr⟩ := k2 T2 R2 s2 v u S2 (r.mono g2) r2
  exact tail_any hT hl (hr Q E (fun v pv T' R' σ' s' g S' r k' => q v pv T' R' σ' s' (g1.trans (g2.trans g)) S' r k') (fun e' s' σ' hx hX => ex e' s' σ' (hx.mono (g1.trans g2)) hX)) (hs _ _)
theorem part_W {e : Option Expr} {T R s} (st : St c T R σ m s) (h : WPart c e σ m K X) : Run c T R σ m s (evalPart e c.env) K X := by
  cases e with
  | none => intro Q E q ex; exact evalPart_none_step (q _ _ T R σ s (Gr.refl _ _) st .none h)
  | some e => intro Q E q ex; exact evalPart_some_step (h T R s st Q E q ex)
theorem WE_slice {value : Expr} {lo hi : Option Expr} {p pos} (h : WE c value σ m (jL1 c lo hi m K X) X) : WE c (.Subscript value (.Slice lo hi none p) pos) σ m K X := by
  intro T R s st Q E q ex
  refine Subscript_ (h T R s st _ _ (fun v pv T1 R1 σ1 s1 g1 S1 r k => ?_) ex)
  refine wpAny_Slice (part_W S1 k _ _ (fun vl pl T2 R2 σ2 s2 g2 S2 r2 k2 => ?_) (fun e' s' σ' hx hX => ex e' s' σ' (hx.mono g1) hX))
  refine part_W S2 k2 _ _ (fun vu pu T3 R3 σ3 s3 g3 S3 r3 k3 => ?_) (fun e' s' σ' hx hX => ex e' s' σ' (hx.mono (g1.trans g2)) hX)
  rw [evalPart_none]
  refine wpAny_pure ?_
  have g4 : Gr T3 (μs R3) ((s3.heap.objs.size, sliceOf vl vu) :: T3) (μs R3) := ⟨fun p hp => List.mem_cons_of_mem _ hp, List.prefix_refl _⟩
  have S4 := S3.addT (tk := s3.toks) (o := sliceOf vl vu) (fun b o e => Heap.get?_push_of_some _ e) (none_of_size s3.heap) (Heap.get?_push_size _ rfl)
  obtain ⟨T', i, hT, hl, hr⟩ := k3 _ _ _ v s3.heap.objs.size vl vu S4 (r.mono (g2.trans (g3.trans g4))) (r2.mono (g3.trans g4)) (r3.mono g4) (.head _)
  exact tail_any (ops := [.ref s3.heap.objs.size, v]) hT hl (hr Q E (fun v pv T' R' σ' s' g S' r k' => q v pv T' R' σ' s' (g1.trans (g2.trans (g3.trans (g4.trans g)))) S' r k') (fun e' s' σ' hx hX => ex e' s' σ' (hx.mono (g1.trans (g2.trans (g3.trans g4)))) hX)) rfl
theorem listAt {T R s} (st : St c T R σ m s) {n : Nat} {l : List PV} {v : Value} (e : σ[n]? = some (.list l)) (r : VR T (μs R) v (.loc n)) : ∃ a vs k, v = .ref a ∧ R[n]? = some (a, listOf vs.toArray k) ∧ s.heap.get? a = some (listOf vs.toArray k) ∧ VRs T (μs R) vs l := by
  replace r := r.inv; obtain ⟨_, rfl, h⟩ := r
  obtain ⟨o, a1, a2, a3⟩ := st.at e h
  replace a3 := a3.inv; obtain ⟨_, _, rfl, hr⟩ := a3
  exact ⟨_, _, _, rfl, a1, a2, hr⟩
theorem isListOf {h : Heap} {a : Addr} {vs : List Value} {k : Nat} (e : h.get? a = some (listOf vs.toArray k)) : h.IsList a vs.toArray := ⟨_, e, rfl, k, rfl⟩
theorem baAt {T R s} (st : St c T R σ m s) {n : Nat} {b : List UInt8} {v : Value} (e : σ[n]? = some (.ba b)) (r : VR T (μs R) v (.loc n)) : ∃ a, v = .ref a ∧ R[n]? = some (a, baOf b) ∧ s.heap.get? a = some (baOf b) := by
  replace r := r.inv; obtain ⟨_, rfl, h⟩ := r
  obtain ⟨o, a1, a2, a3⟩ := st.at e h
  cases a3 with
  | ba => exact ⟨_, rfl, a1, a2⟩
theorem WG_list {n : Nat} {l : List PV} {i : Int} {pv : PV} (e : σ[n]? = some (.list l)) (h0 : 0 ≤ i) (h1 : i < 2 ^ 60) (hl : l[i.toNat]? = some pv) (h : K pv σ) : WG c (.loc n) (.int i) σ m K X := by
  intro T R s v u st r1 r2
  obtain ⟨a, vs, k, rfl, _, ha, hr⟩ := listAt st e r1
  (first | (replace r2 := r2.inv; obtain rfl := r2) | (replace r2 := r2.inv; obtain ⟨_, rfl⟩ := r2) | cases r2)
  obtain ⟨v, hv, rv⟩ := hr.get hl
  exact ⟨_, _, (isListOf ha).typeIs, slot_list_getitem.lookup, fun Q E q ex => wpAny_getItem_list (isListOf ha) h0 (by omega) (by simpa using hv) (q v pv T R σ s (Gr.refl _ _) st rv h)⟩
theorem seqIdx {i : Int} {n : Nat} (h0 : 0 ≤ i) (h1 : i < n) : seqIndex? i n = some i.toNat := by
  have hn : ¬ i < 0 := by omega
  simp [seqIndex?, hn, h0, h1]
theorem WG_tup {l : List PV} {i : Int} {pv : PV} (h0 : 0 ≤ i) (h1 : i < 2 ^ 60) (hl : l[i.toNat]? = some pv) (h : K pv σ) : WG c (.tup l) (.int i) σ m K X := by
  intro T R s v u st r1 r2
  replace r1 := r1.inv; obtain ⟨_, _, _, rfl, hm, hr⟩ := r1
  (first | (replace r2 := r2.inv; obtain rfl := r2) | (replace r2 := r2.inv; obtain ⟨_, rfl⟩ := r2) | cases r2)
  obtain ⟨v, hv, rv⟩ := hr.get hl
  have hlt : i < l.length := by have := (List.getElem?_eq_some_iff.mp hl).1; omega
  exact ⟨_, _, (tupIs st hm).typeIs, slot_tuple_getitem.lookup, fun Q E q ex => getItem_tuple (tupIs st hm) (by omega) (by omega) (seqIdx h0 (by rw [List.size_toArray, hr.length]; exact hlt)) (by simpa using hv) (q v pv T R σ s (Gr.refl _ _) st rv h)⟩
theorem WG_bytes {b : List UInt8} {i : Int} (hz : b.length ≤ 100000) (h0 : 0 ≤ i) (h1 : i < b.length) (h : K (.int (b.getD i.toNat 0).toNat) σ) : WG c (.bytes b) (.int i) σ m K X := by
  intro T R s v u st r1 r2
  (first | (replace r1 := r1.inv; obtain rfl := r1) | (replace r1 := r1.inv; obtain ⟨_, rfl⟩ := r1) | cases r1); (first | (replace r2 := r2.inv; obtain rfl := r2) | (replace r2 := r2.inv; obtain ⟨_, rfl⟩ := r2) | cases r2)
  exact ⟨_, _, typeIs_bytes _ _ _, FB.slot_bytes_getitem.lookup, fun Q E q ex => getItem_bytes (by omega) h0 h1 (q _ _ T R σ _ (Gr.refl _ _) (st.tok _) (.int _ _) h)⟩
noncomputable def clipO (n : Nat) (d : Nat) : PV → Nat
  | .int i => clipAt n i
  | _ => d
noncomputable def cut {α : Type} (l : List α) (lo hi : PV) : List α := (l.drop (clipO l.length 0 lo)).take (clipO l.length l.length hi - clipO l.length 0 lo)
noncomputable def isPart : PV → Bool
  | .int _ => true
  | .none => true
  | _ => false
noncomputable def partOf : PV → Option Int
  | .int i => some i
  | _ => none
theorem IsPart.of {T μ v pv} (r : VR T μ v pv) (h : isPart pv = true) : IsPart v (partOf pv) := by
  cases r <;> first | (cases h; done) | constructor
theorem clipO_eq (n d : Nat) (pv : PV) : clipO n d pv = (partOf pv).elim d (clipAt n) := by cases pv <;> rfl
theorem WGs_bytes {b : List UInt8} {lo hi : PV} (hz : b.length ≤ 100000) (hl : isPart lo = true) (hh : isPart hi = true) (h : K (.bytes (cut b lo hi)) σ) : WGs c (.bytes b) lo hi σ m K X := by
  intro T R s v a vl vu st r1 r2 r3 hm
  (first | (replace r1 := r1.inv; obtain rfl := r1) | (replace r1 := r1.inv; obtain ⟨_, rfl⟩ := r1) | cases r1)
  refine ⟨_, _, typeIs_bytes _ _ _, FB.slot_bytes_getitem.lookup, fun Q E q ex => ?_⟩
  refine getItem_meets (typeIs_bytes _ _ _) (by decide) FB.slot_bytes_getitem FB.entry_bytes_getitem (FB.args_bytes_getitem_2 _ _) (KBc.meets_slice2 b.toArray _ _ (IsPart.of r2 hl) (IsPart.of r3 hh)) ⟨⟨_, st.tupGet hm, rfl, rfl⟩, Nat.le_trans (KBc.size_picked_le _ _ _) (by rw [List.size_toArray]; exact Nat.le_trans hz (by decide)), fun t' k => ?_⟩
  rw [KBc.picked_eq]
  have : (cut b lo hi).toArray = ((b.toArray.toList.drop ((partOf lo).elim 0 (clipAt b.toArray.size))).take ((partOf hi).elim b.toArray.size (clipAt b.toArray.size) - (partOf lo).elim 0 (clipAt b.toArray.size))).toArray := by
    simp only [cut, clipO_eq, List.size_toArray]
  rw [← this]
  exact q _ _ T R σ _ (Gr.refl _ _) (st.tok _) (.bytes _ _) h
end
end Nv
end
section
open PySem PySem.W PySem.Calls PyProof.Rows PyProof.V PySem.Spec PySem.SeqAt
namespace Nv
mutual
inductive Same (σ : List AO) : Nat → PV → PV → Prop
  | none (n) : Same σ n .none .none
  | bool (n b) : Same σ n (.bool b) (.bool b)
  | int (n i) : Same σ n (.int i) (.int i)
  | bytes (n b) : Same σ n (.bytes b) (.bytes b)
  | tup {n l k} : Sames σ n l k → Same σ (n + 1) (.tup l) (.tup k)
  | list {n a b l k} : σ[a]? = some (.list l) → σ[b]? = some (.list k) → Sames σ n l k → Same σ (n + 1) (.loc a) (.loc b)
inductive Sames (σ : List AO) : Nat → List PV → List PV → Prop
  | nil (n) : Sames σ n [] []
  | cons {n a b l k} : Same σ n a b → Sames σ n l k → Sames σ n (a :: l) (b :: k)
end
theorem Sames.ind {σ : List AO} {n : Nat} {P : PV → PV → Prop} (hP : ∀ a b, Same σ n a b → P a b) {l k : List PV} (h : Sames σ n l k) : l.length = k.length ∧ ∀ (j : Nat) (a b : PV), l[j]? = some a → k[j]? = some b → P a b :=
  Sames.rec (motive_1 := fun _ _ _ _ => True) (motive_2 := fun n' l k _ => ∀ P : PV → PV → Prop, (∀ a b, Same σ n' a b → P a b) → l.length = k.length ∧ ∀ (j : Nat) (a b : PV), l[j]? = some a → k[j]? = some b → P a b)
    (fun _ => trivial) (fun _ _ => trivial) (fun _ _ => trivial) (fun _ _ => trivial) (fun _ _ => trivial) (fun _ _ _ _ => trivial) (fun _ P _ => ⟨rfl, fun j a b h => by cases h⟩)
    (fun h _ _ ih P hP => ⟨congrArg (· + 1) (ih P hP).1, fun j a b h1 h2 => by
      cases j with
      | zero => cases h1; cases h2; exact hP _ _ h
      | succ j => exact (ih P hP).2 j a b h1 h2⟩) h P hP
theorem Sames.get {σ : List AO} {n : Nat} {l k : List PV} (h : Sames σ n l k) : l.length = k.length ∧ ∀ (j : Nat) (a b : PV), l[j]? = some a → k[j]? = some b → Same σ n a b := h.ind (P := Same σ n) fun _ _ h => h
theorem EqAt.bytes_same {A : Around} {s : Shared} (b : Array UInt8) (t u : Tok) : EqAt A s (.bytes b t) (.bytes b u) true := fun prog w E Q h => by
  unfold eqBool
  refine wpAny_holding ?_
  refine wpAny_ite_split (fun _ => wpAny_bind (wpAny_rule (wpAny_pure h))) (fun _ => ?_)
  refine wpAny_bind (richCompare_gives (op := .Eq) (typeIs_bytes s b t) (typeIs_bytes s b u) FB.slot_bytes_eq FB.entry_bytes_eq (FB.args_bytes_eq_2 _ _) (gives_bytes_eq b b t u) (fun e => nomatch e) ?_)
  rw [show (b.toList == b.toList) = true from beq_self_eq_true _]
  exact wpAny_truthy_bool h
theorem all_tt (n : Nat) : (List.range n).all (fun _ => true) = true := List.all_eq_true.mpr fun _ _ => rfl
section
variable {c : Cx} {σ : List AO} {m : Nm}
theorem vrs_at {T μ} {vs : List Value} {l : List PV} (r : VRs T μ vs l) {j : Nat} (h : j < vs.toArray.size) : ∃ pv, l[j]? = some pv ∧ VR T μ vs.toArray[j] pv := by
  have h' : j < vs.length := by simpa using h
  obtain ⟨pv, e, rv⟩ := r.get' (List.getElem?_eq_getElem h')
  exact ⟨pv, e, by simpa using rv⟩
noncomputable def SameP (c : Cx) (σ : List AO) (m : Nm) (n : Nat) (a b : PV) : Prop := ∀ {A : Around} {T R : Led} {s : Shared} {v u : Value}, St c T R σ m s → VR T (μs R) v a → VR T (μs R) u b → A.units + n < cLine → EqAt A s v u true ∧ (∀ x, a = .tup x → RcAt A s v u true)
noncomputable def SamePs (c : Cx) (σ : List AO) (m : Nm) (n : Nat) (l k : List PV) : Prop := l.length = k.length ∧ ∀ (j : Nat) (a b : PV), l[j]? = some a → k[j]? = some b → SameP c σ m n a b
theorem samePs_el {n : Nat} {l k : List PV} (hs : SamePs c σ m n l k) {A : Around} {T R : Led} {s : Shared} {vs1 vs2 : List Value} (st : St c T R σ m s) (q1 : VRs T (μs R) vs1 l) (q2 : VRs T (μs R) vs2 k) (hu : A.units + 1 + n < cLine) :
    vs1.toArray.size = vs2.toArray.size ∧ ∀ j (h1 : j < vs1.toArray.size) (h2 : j < vs2.toArray.size), EqAt A.in1 s vs1.toArray[j] vs2.toArray[j] ((fun _ => true) j) := by
  refine ⟨by rw [List.size_toArray, List.size_toArray, q1.length, q2.length, hs.1], fun j h1 h2 => ?_⟩
  obtain ⟨p1, e1, w1⟩ := vrs_at q1 h1
  obtain ⟨p2, e2, w2⟩ := vrs_at q2 h2
  exact (hs.2 j p1 p2 e1 e2 st w1 w2 hu).1
theorem sameP_tup {n : Nat} {l k : List PV} (hs : SamePs c σ m n l k) : SameP c σ m (n + 1) (.tup l) (.tup k) := by
  intro A T R s v u st r1 r2 hu
  replace r1 := r1.inv; obtain ⟨_, _, _, rfl, m1, q1⟩ := r1
  replace r2 := r2.inv; obtain ⟨_, _, _, rfl, m2, q2⟩ := r2
  rename_i a1 vs1 k1 a2 vs2 k2
  obtain ⟨hsz, hel⟩ := samePs_el (A := A) hs st q1 q2 (by omega)
  have rc : RcAt A s (.ref a1) (.ref a2) true := by
    have := RcAt.tuples (A := A) (e := fun _ => true) (tupIs st m1) (tupIs st m2) (by omega) hel
    rw [hsz, Nat.min_self, all_tt, beq_self_eq_true] at this
    exact this
  refine ⟨?_, fun _ _ => rc⟩
  by_cases h : a1 = a2
  · subst h; exact EqAt.same _
  · exact EqAt.of_refs h rc
theorem sameP_list {n a b : Nat} {l k : List PV} (e1 : σ[a]? = some (.list l)) (e2 : σ[b]? = some (.list k)) (hs : SamePs c σ m n l k) : SameP c σ m (n + 1) (.loc a) (.loc b) := by
  intro A T R s v u st r1 r2 hu
  obtain ⟨a1, vs1, k1, rfl, _, h1, q1⟩ := listAt st e1 r1
  obtain ⟨a2, vs2, k2, rfl, _, h2, q2⟩ := listAt st e2 r2
  obtain ⟨hsz, hel⟩ := samePs_el (A := A) hs st q1 q2 (by omega)
  refine ⟨?_, fun x e => by cases e⟩
  by_cases h : a1 = a2
  · subst h; exact EqAt.same _
  · refine EqAt.of_refs h ?_
    have := RcAt.lists (A := A) (e := fun _ => true) (isListOf h1) (isListOf h2) hsz (by omega) hel
    rw [all_tt] at this
    exact this
theorem sameP_flat {n : Nat} {a : PV} (ht : ∀ x, a ≠ .tup x) (h : ∀ {A : Around} {T R : Led} {s : Shared} {v u : Value}, VR T (μs R) v a → VR T (μs R) u a → EqAt A s v u true) : SameP c σ m n a a :=
  fun st r1 r2 hu => ⟨h r1 r2, fun x e => absurd e (ht x)⟩
theorem Same.eqAt (n : Nat) {a b : PV} (h : Same σ n a b) : SameP c σ m n a b :=
  Same.rec (motive_1 := fun n a b _ => SameP c σ m n a b) (motive_2 := fun n l k _ => SamePs c σ m n l k)
    (fun n => sameP_flat (fun x e => by cases e) fun r1 r2 => by (first | (replace r1 := r1.inv; obtain rfl := r1) | (replace r1 := r1.inv; obtain ⟨_, rfl⟩ := r1) | cases r1); (first | (replace r2 := r2.inv; obtain rfl := r2) | (replace r2 := r2.inv; obtain ⟨_, rfl⟩ := r2) | cases r2); exact EqAt.same _)
    (fun n b => sameP_flat (fun x e => by cases e) fun r1 r2 => by (first | (replace r1 := r1.inv; obtain rfl := r1) | (replace r1 := r1.inv; obtain ⟨_, rfl⟩ := r1) | cases r1); (first | (replace r2 := r2.inv; obtain rfl := r2) | (replace r2 := r2.inv; obtain ⟨_, rfl⟩ := r2) | cases r2); exact EqAt.same _)
    (fun n i => sameP_flat (fun x e => by cases e) fun {A T R s v u} r1 r2 => by
      (first | (replace r1 := r1.inv; obtain rfl := r1) | (replace r1 := r1.inv; obtain ⟨_, rfl⟩ := r1) | cases r1); (first | (replace r2 := r2.inv; obtain rfl := r2) | (replace r2 := r2.inv; obtain ⟨_, rfl⟩ := r2) | cases r2)
      rename_i t1 t2
      have := EqAt.int_int (A := A) (s := s) i t1 i t2
      rwa [beq_self_eq_true] at this)
    (fun n b => sameP_flat (fun x e => by cases e) fun r1 r2 => by (first | (replace r1 := r1.inv; obtain rfl := r1) | (replace r1 := r1.inv; obtain ⟨_, rfl⟩ := r1) | cases r1); (first | (replace r2 := r2.inv; obtain rfl := r2) | (replace r2 := r2.inv; obtain ⟨_, rfl⟩ := r2) | cases r2); exact EqAt.bytes_same _ _ _)
    (fun _ ih => sameP_tup ih) (fun e1 e2 _ ih => sameP_list e1 e2 ih)
    (fun n => ⟨rfl, fun j a b h => by cases h⟩)
    (fun _ _ ih1 ih2 => ⟨congrArg (· + 1) ih2.1, fun j a b h1 h2 => by
      cases j with
      | zero => cases h1; cases h2; exact ih1
      | succ j => exact ih2.2 j a b h1 h2⟩) h
variable {K : PV → List AO → Prop} {X : List AO → Prop}
theorem sames_el {n : Nat} {l k : List PV} (hs : Sames σ n l k) {A : Around} {T R : Led} {s : Shared} {vs1 vs2 : List Value} (st : St c T R σ m s) (q1 : VRs T (μs R) vs1 l) (q2 : VRs T (μs R) vs2 k) (hu : A.units + 1 + n < cLine) :
    vs1.toArray.size = vs2.toArray.size ∧ ∀ j (h1 : j < vs1.toArray.size) (h2 : j < vs2.toArray.size), EqAt A.in1 s vs1.toArray[j] vs2.toArray[j] ((fun _ => true) j) :=
  samePs_el (hs.ind (P := SameP c σ m n) fun _ _ h => h.eqAt n) st q1 q2 hu
theorem WO_neT {n : Nat} {l k : List PV} (hs : Sames σ n l k) (hu : c.A.units + 1 + n < 9800) (h : K (.bool false) σ) : WO2 c (compareOp .NotEq) (.tup l) (.tup k) σ m K X := by
  intro T R s v u st r1 r2 Q E q ex
  have hc : (9800 : Nat) ≤ cLine := by decide
  replace r1 := r1.inv; obtain ⟨_, _, _, rfl, m1, q1⟩ := r1
  replace r2 := r2.inv; obtain ⟨_, _, _, rfl, m2, q2⟩ := r2
  obtain ⟨hsz, he⟩ := sames_el (A := c.A) hs st q1 q2 (by omega)
  have := RcNeAt.tuples (A := c.A) (tupIs st m1) (tupIs st m2) (by omega) he
  rw [hsz] at this
  refine this c.prog c.w E Q ?_
  rw [show (!((List.range (min _ _)).all (fun _ => true) && (_ == _))) = false from by simp]
  exact q _ _ T R σ s (Gr.refl _ _) st (.bool _) h
theorem WO_neL {n a b : Nat} {l k : List PV} (e1 : σ[a]? = some (.list l)) (e2 : σ[b]? = some (.list k)) (hs : Sames σ n l k) (hu : c.A.units + 1 + n < 9800) (h : K (.bool false) σ) : WO2 c (compareOp .NotEq) (.loc a) (.loc b) σ m K X := by
  intro T R s v u st r1 r2 Q E q ex
  have hc : (9800 : Nat) ≤ cLine := by decide
  obtain ⟨a1, vs1, k1, rfl, _, h1, q1⟩ := listAt st e1 r1
  obtain ⟨a2, vs2, k2, rfl, _, h2, q2⟩ := listAt st e2 r2
  obtain ⟨hsz, he⟩ := sames_el (A := c.A) hs st q1 q2 (by omega)
  refine RcNeAt.lists (A := c.A) (isListOf h1) (isListOf h2) hsz (by omega) he c.prog c.w E Q ?_
  rw [show (!(List.range _).all (fun _ => true)) = false from by simp]
  exact q _ _ T R σ s (Gr.refl _ _) st (.bool _) h
theorem WO_neLen {a b : Nat} {l k : List PV} (e1 : σ[a]? = some (.list l)) (e2 : σ[b]? = some (.list k)) (hl : l.length ≠ k.length) (hu : c.A.units < 9800) (h : K (.bool true) σ) : WO2 c (compareOp .NotEq) (.loc a) (.loc b) σ m K X := by
  intro T R s v u st r1 r2 Q E q ex
  have hc : (9800 : Nat) ≤ cLine := by decide
  obtain ⟨a1, vs1, k1, rfl, _, h1, q1⟩ := listAt st e1 r1
  obtain ⟨a2, vs2, k2, rfl, _, h2, q2⟩ := listAt st e2 r2
  exact RcNeAt.lists_lengths (A := c.A) (isListOf h1) (isListOf h2) (by rw [List.size_toArray, List.size_toArray, q1.length, q2.length]; simpa using hl) (by omega) c.prog c.w E Q (q _ _ T R σ s (Gr.refl _ _) st (.bool _) h)
theorem WO_eqLen {a b : Nat} {l k : List PV} (e1 : σ[a]? = some (.list l)) (e2 : σ[b]? = some (.list k)) (hl : l.length ≠ k.length) (hu : c.A.units < 9800) (h : K (.bool false) σ) : WO2 c (compareOp .Eq) (.loc a) (.loc b) σ m K X := by
  intro T R s v u st r1 r2 Q E q ex
  have hc : (9800 : Nat) ≤ cLine := by decide
  obtain ⟨a1, vs1, k1, rfl, _, h1, q1⟩ := listAt st e1 r1
  obtain ⟨a2, vs2, k2, rfl, _, h2, q2⟩ := listAt st e2 r2
  exact eq_list_lengthsAt (isListOf h1) (isListOf h2) (by rw [List.size_toArray, List.size_toArray, q1.length, q2.length]; simpa using hl) (by omega) (q _ _ T R σ s (Gr.refl _ _) st (.bool _) h)
theorem WO_eqL0 {a b : Nat} (e1 : σ[a]? = some (.list [])) (e2 : σ[b]? = some (.list [])) (hu : c.A.units + 1 < 9800) (h : K (.bool true) σ) : WO2 c (compareOp .Eq) (.loc a) (.loc b) σ m K X := by
  intro T R s v u st r1 r2 Q E q ex
  have hc : (9800 : Nat) ≤ cLine := by decide
  obtain ⟨a1, vs1, k1, rfl, _, h1, q1⟩ := listAt st e1 r1
  obtain ⟨a2, vs2, k2, rfl, _, h2, q2⟩ := listAt st e2 r2
  (first | (replace q1 := q1.inv; obtain rfl := q1) | (replace q1 := q1.inv; obtain ⟨_, rfl⟩ := q1) | cases q1); (first | (replace q2 := q2.inv; obtain rfl := q2) | (replace q2 := q2.inv; obtain ⟨_, rfl⟩ := q2) | cases q2)
  exact eq_listAt (e := fun _ => true) (isListOf h1) (isListOf h2) rfl (by omega) (fun j h1 => absurd h1 (by simp)) (q _ _ T R σ s (Gr.refl _ _) st (.bool _) h)
theorem WO_neB {b d : List UInt8} (h : K (.bool (b != d)) σ) : WO2 c (compareOp .NotEq) (.bytes b) (.bytes d) σ m K X := by
  intro T R s v u st r1 r2 Q E q ex
  (first | (replace r1 := r1.inv; obtain rfl := r1) | (replace r1 := r1.inv; obtain ⟨_, rfl⟩ := r1) | cases r1); (first | (replace r2 := r2.inv; obtain rfl := r2) | (replace r2 := r2.inv; obtain ⟨_, rfl⟩ := r2) | cases r2)
  exact ne_bytes (q _ _ T R σ s (Gr.refl _ _) st (.bool _) (by simpa using h))
theorem WO_inT {i : Int} {ns : List Int} {l : List PV} (hl : l = ns.map .int) (h : K (.bool (ns.contains i)) σ) : WO2 c (compareOp .In) (.int i) (.tup l) σ m K X := by
  intro T R s v u st r1 r2 Q E q ex
  subst hl
  (first | (replace r1 := r1.inv; obtain rfl := r1) | (replace r1 := r1.inv; obtain ⟨_, rfl⟩ := r1) | cases r1)
  replace r2 := r2.inv; obtain ⟨_, _, _, rfl, m2, q2⟩ := r2
  rename_i t a vs k
  have key : ∀ {vs : List Value} {ns : List Int}, VRs T (μs R) vs (ns.map .int) → (vs.any (isInt i)) = ns.contains i ∧ ∀ y ∈ vs, EqAt c.A.in1 s y (.int i t) (isInt i y) := by
    intro vs ns hq
    induction ns generalizing vs with
    | nil => cases hq; exact ⟨rfl, fun y hy => by cases hy⟩
    | cons n ns ih =>
      cases hq with
      | cons r1 r2 =>
        obtain ⟨i1, i2⟩ := ih r2
        (first | (replace r1 := r1.inv; obtain rfl := r1) | (replace r1 := r1.inv; obtain ⟨_, rfl⟩ := r1) | cases r1)
        refine ⟨?_, fun y hy => ?_⟩
        · rw [List.any_cons, i1, List.contains_cons]
          congr 1
          show (n == i) = (i == n)
          exact Bool.beq_comm
        · rcases List.mem_cons.mp hy with rfl | hy
          · exact EqAt.int_int n _ i t
          · exact i2 y hy
  obtain ⟨k1, k2⟩ := key q2
  refine in_tupleAt (isInt i) (tupIs st m2) (fun y hy => k2 y (by simpa using hy)) ?_
  rw [List.any_toArray, k1]
  exact q _ _ T R σ s (Gr.refl _ _) st (.bool _) h
end
end Nv
end
section
open PySem PySem.W PySem.Calls PyProof.Rows PyProof.V PySem.Spec
namespace Nv
theorem VRs.ints {T μ} {ns : List Int} : ∀ {vs : List Value}, VRs T μ vs (ns.map .int) → IntsAre vs ns := by
  induction ns with
  | nil => intro vs h; cases h; exact .nil
  | cons n ns ih =>
    intro vs h
    cases h with
    | cons r1 r2 => (first | (replace r1 := r1.inv; obtain rfl := r1) | (replace r1 := r1.inv; obtain ⟨_, rfl⟩ := r1) | cases r1); exact .cons n _ (ih r2)
theorem sameN {T : Led} {R R' : Led} (h : μs R' = μs R) : Gr T (μs R) T (μs R') := ⟨fun _ h => h, by rw [h]; exact List.prefix_refl _⟩
section
variable {c : Cx} {σ : List AO} {m : Nm}
theorem St.ofFN {T R s} (st : St c T R σ m s) {mr : Str → Option Value} (nr : NR T (μs R) mr m) {h' : Heap} {tk : Nat} (F : Fr c.g c.L h' mr) (N : News c.g c.L h' (T ++ R)) : St c T R σ m { s with heap := h', toks := tk } :=
  ⟨st.ok, ⟨mr, F, nr⟩, N, st.nd, st.len, st.objs, by show ({ s with heap := h', toks := tk } : Shared) = _; rw [st.sh], st.cel, st.nso⟩
theorem St.bornFN {T R s} (st : St c T R σ m s) {mr : Str → Option Value} (nr : NR T (μs R) mr m) {h' : Heap} {tk : Nat} {D : Addr} {vs : List Value} {l : List PV} {k : Nat} (F : Fr c.g c.L h' mr) (N : News c.g c.L h' ((D, listOf vs.toArray k) :: (T ++ R))) (hn : s.heap.get? D = none) (rs : VRs T (μs R) vs l) :
    ∃ R', Gr T (μs R) T (μs R') ∧ St c T R' (σ ++ [.list l]) m { s with heap := h', toks := tk } ∧ VR T (μs R') (.ref D) (.loc σ.length) := by
  have S := st.ofFN nr (tk := tk) F fun p hp => N p (.tail _ hp)
  have hd := N _ (.head _)
  have g0 : Gr T (μs R) T (μs (R ++ [(D, listOf vs.toArray k)])) := ⟨fun p hp => hp, by unfold μs; rw [List.map_append]; exact List.prefix_append _ _⟩
  obtain ⟨S2, g2, hn2⟩ := S.addR' (a := D) (ao := .list l) ⟨notIn_of_fresh st.news hn, hd.2⟩ hd.1 (.list (rs.mono g0))
  exact ⟨_, g2, S2, .loc hn2⟩
end
section
variable {c : Cx} {σ : List AO} {m : Nm} {K : PV → List AO → Prop} {Kn : Nm → List AO → Prop} {Kr : PV → List AO → Prop} {X : List AO → Prop}
theorem WC_range1 {n : Int} (h : K (.rng 0 n) σ) : WC c (.type "range") [.int n] σ m K X := by
  intro T R s vs st rs Q E q ex
  replace rs := rs.inv; obtain ⟨_, _, rfl, r1, r2⟩ := rs
  (first | (replace r2 := r2.inv; obtain rfl := r2) | (replace r2 := r2.inv; obtain ⟨_, rfl⟩ := r2) | cases r2); (first | (replace r1 := r1.inv; obtain rfl := r1) | (replace r1 := r1.inv; obtain ⟨_, rfl⟩ := r1) | cases r1)
  rename_i t
  refine call_range_1 ?_
  have S2 := st.addT (tk := s.toks + 1 + 1) (o := rngOf 0 n s.toks t (s.toks + 1)) (fun b o e => Heap.get?_push_of_some _ e) (none_of_size s.heap) (Heap.get?_push_size _ rfl)
  exact q _ (.rng 0 n) _ R σ _ ⟨fun p hp => List.mem_cons_of_mem _ hp, List.prefix_refl _⟩ S2 (.rng (.head _)) h
theorem WC_lenL {n : Nat} {l : List PV} (e : σ[n]? = some (.list l)) (hz : l.length ≤ 100000) (h : K (.int l.length) σ) : WC c (.builtin "len") [.loc n] σ m K X := by
  intro T R s vs st rs Q E q ex
  replace rs := rs.inv; obtain ⟨_, _, rfl, r1, r2⟩ := rs
  (first | (replace r2 := r2.inv; obtain rfl := r2) | (replace r2 := r2.inv; obtain ⟨_, rfl⟩ := r2) | cases r2)
  obtain ⟨a, vs, k, rfl, _, ha, hr⟩ := listAt st e r1
  refine len_list (isListOf ha) (by rw [List.size_toArray, hr.length]; omega) ?_
  rw [List.size_toArray, hr.length]
  exact q _ _ T R σ _ (Gr.refl _ _) (st.tok _) (.int _ _) h
theorem WC_lenB {b : List UInt8} (hz : b.length ≤ 100000) (h : K (.int b.length) σ) : WC c (.builtin "len") [.bytes b] σ m K X := by
  intro T R s vs st rs Q E q ex
  replace rs := rs.inv; obtain ⟨_, _, rfl, r1, r2⟩ := rs
  (first | (replace r2 := r2.inv; obtain rfl := r2) | (replace r2 := r2.inv; obtain ⟨_, rfl⟩ := r2) | cases r2); (first | (replace r1 := r1.inv; obtain rfl := r1) | (replace r1 := r1.inv; obtain ⟨_, rfl⟩ := r1) | cases r1)
  refine len_bytes (by rw [List.size_toArray]; omega) ?_
  rw [List.size_toArray]
  exact q _ _ T R σ _ (Gr.refl _ _) (st.tok _) (.int _ _) h
theorem WC_max2 {a b : Int} (h : K (.int (max a b)) σ) : WC c (.builtin "max") [.int a, .int b] σ m K X := by
  intro T R s vs st rs Q E q ex
  replace rs := rs.inv; obtain ⟨_, _, rfl, r1, r2⟩ := rs
  replace r2 := r2.inv; obtain ⟨_, _, rfl, r2, r3⟩ := r2
  (first | (replace r3 := r3.inv; obtain rfl := r3) | (replace r3 := r3.inv; obtain ⟨_, rfl⟩ := r3) | cases r3); (first | (replace r1 := r1.inv; obtain rfl := r1) | (replace r1 := r1.inv; obtain ⟨_, rfl⟩ := r1) | cases r1); (first | (replace r2 := r2.inv; obtain rfl := r2) | (replace r2 := r2.inv; obtain ⟨_, rfl⟩ := r2) | cases r2)
  refine max_two_ints st.ok.hh fun h' tk hk => ?_
  have S := st.grow (tk := tk) hk
  by_cases hba : b > a
  · rw [if_pos hba]
    rw [show max a b = b by omega] at h
    exact q _ _ T R σ _ (Gr.refl _ _) S (.int _ _) h
  · rw [if_neg hba]
    rw [show max a b = a by omega] at h
    exact q _ _ T R σ _ (Gr.refl _ _) S (.int _ _) h
theorem WC_min2 {a b : Int} (h : K (.int (min a b)) σ) : WC c (.builtin "min") [.int a, .int b] σ m K X := by
  intro T R s vs st rs Q E q ex
  replace rs := rs.inv; obtain ⟨_, _, rfl, r1, r2⟩ := rs
  replace r2 := r2.inv; obtain ⟨_, _, rfl, r2, r3⟩ := r2
  (first | (replace r3 := r3.inv; obtain rfl := r3) | (replace r3 := r3.inv; obtain ⟨_, rfl⟩ := r3) | cases r3); (first | (replace r1 := r1.inv; obtain rfl := r1) | (replace r1 := r1.inv; obtain ⟨_, rfl⟩ := r1) | cases r1); (first | (replace r2 := r2.inv; obtain rfl := r2) | (replace r2 := r2.inv; obtain ⟨_, rfl⟩ := r2) | cases r2)
  refine min_two_ints st.ok.hh fun h' tk hk => ?_
  have S := st.grow (tk := tk) hk
  by_cases hba : b < a
  · rw [if_pos hba]
    rw [show min a b = b by omega] at h
    exact q _ _ T R σ _ (Gr.refl _ _) S (.int _ _) h
  · rw [if_neg hba]
    rw [show min a b = a by omega] at h
    exact q _ _ T R σ _ (Gr.refl _ _) S (.int _ _) h
theorem WC_intI {a : Int} (h : K (.int a) σ) : WC c (.type "int") [.int a] σ m K X := by
  intro T R s vs st rs Q E q ex
  replace rs := rs.inv; obtain ⟨_, _, rfl, r1, r2⟩ := rs
  (first | (replace r2 := r2.inv; obtain rfl := r2) | (replace r2 := r2.inv; obtain ⟨_, rfl⟩ := r2) | cases r2); (first | (replace r1 := r1.inv; obtain rfl := r1) | (replace r1 := r1.inv; obtain ⟨_, rfl⟩ := r1) | cases r1)
  exact call_int_int (q _ _ T R σ _ (Gr.refl _ _) st (.int _ _) h)
theorem WC_intB {b : Bool} (h : K (.int (if b then 1 else 0)) σ) : WC c (.type "int") [.bool b] σ m K X := by
  intro T R s vs st rs Q E q ex
  replace rs := rs.inv; obtain ⟨_, _, rfl, r1, r2⟩ := rs
  (first | (replace r2 := r2.inv; obtain rfl := r2) | (replace r2 := r2.inv; obtain ⟨_, rfl⟩ := r2) | cases r2); (first | (replace r1 := r1.inv; obtain rfl := r1) | (replace r1 := r1.inv; obtain ⟨_, rfl⟩ := r1) | cases r1)
  exact call_int_bool (q _ _ T R σ _ (Gr.refl _ _) (st.tok _) (.int _ _) h)
theorem WC_sum {n : Nat} {ns : List Int} (e : σ[n]? = some (.list (ns.map .int))) (h : K (.int ns.sum) σ) : WC c (.builtin "sum") [.loc n] σ m K X := by
  intro T R s vs st rs Q E q ex
  replace rs := rs.inv; obtain ⟨_, _, rfl, r1, r2⟩ := rs
  (first | (replace r2 := r2.inv; obtain rfl := r2) | (replace r2 := r2.inv; obtain ⟨_, rfl⟩ := r2) | cases r2)
  obtain ⟨a, vs, k, rfl, _, ha, hr⟩ := listAt st e r1
  obtain ⟨mr, F, nr⟩ := st.fr
  exact LSm.sum_ints F st.news st.ok.hh (isListOf ha) hr.ints fun h' tk t' F' N' => q _ _ T R σ _ (Gr.refl _ _) (st.ofFN nr F' N') (.int _ _) h
theorem WO_iadd {a b : Int} (h : K (.int (a + b)) σ) : WO2 c (inplaceOp .Add) (.int a) (.int b) σ m K X := int2 (fun _ _ _ _ _ _ z => AutoIntOps.iadd_0 z) h
theorem WO_addB {a b : List UInt8} (hz : a.length + b.length ≤ 100000) (h : K (.bytes (a ++ b)) σ) : WO2 c (binaryOp .Add) (.bytes a) (.bytes b) σ m K X := by
  intro T R s v u st r1 r2 Q E q ex
  (first | (replace r1 := r1.inv; obtain rfl := r1) | (replace r1 := r1.inv; obtain ⟨_, rfl⟩ := r1) | cases r1); (first | (replace r2 := r2.inv; obtain rfl := r2) | (replace r2 := r2.inv; obtain ⟨_, rfl⟩ := r2) | cases r2)
  refine KBy.add_bytes (by rw [List.size_toArray, List.size_toArray]; omega) fun t' k => ?_
  rw [List.append_toArray]
  exact q _ _ T R σ _ (Gr.refl _ _) (st.tok _) (.bytes _ _) h
theorem WO_isnot {a : PV} {b : Bool} (hb : (match a with | .none => some false | .raw _ => none | _ => some true) = some b) (h : K (.bool b) σ) : WO2 c (compareOp .IsNot) a .none σ m K X := by
  intro T R s v u st r1 r2 Q E q ex
  (first | (replace r2 := r2.inv; obtain rfl := r2) | (replace r2 := r2.inv; obtain ⟨_, rfl⟩ := r2) | cases r2)
  cases r1 <;> first | (cases hb; exact isnot_none_none (q _ _ T R σ _ (Gr.refl _ _) st (.bool _) h)) | (cases hb; exact isnot_none_ne (by intro x; cases x) (q _ _ T R σ _ (Gr.refl _ _) st (.bool _) h)) | cases hb
theorem WO_addL {a b : Nat} {l k : List PV} (e1 : σ[a]? = some (.list l)) (e2 : σ[b]? = some (.list k)) (hz : l.length + k.length ≤ 100000) (h : K (.loc σ.length) (σ ++ [.list (l ++ k)])) : WO2 c (binaryOp .Add) (.loc a) (.loc b) σ m K X := by
  intro T R s v u st r1 r2 Q E q ex
  obtain ⟨a1, vs1, k1, rfl, _, h1, q1⟩ := listAt st e1 r1
  obtain ⟨a2, vs2, k2, rfl, _, h2, q2⟩ := listAt st e2 r2
  obtain ⟨mr, F, nr⟩ := st.fr
  refine add_lists F st.news (isListOf h1) (isListOf h2) (fun h' F' N' => ?_) (by rw [q1.length, q2.length]; exact Nat.le_trans hz (by decide))
  obtain ⟨R', g, S, r⟩ := st.bornFN nr (tk := s.toks) (k := 0) F' N' (none_of_size s.heap) (q1.append q2)
  exact q _ _ _ _ _ _ g S r h
theorem rep_flat (vs : List Value) : ∀ n : Nat, List.foldl (fun x1 x2 => x1 ++ x2) #[] (List.replicate n vs.toArray) = (List.replicate n vs).flatten.toArray := by
  intro n
  have key : ∀ (n : Nat) (acc : Array Value), List.foldl (fun x1 x2 => x1 ++ x2) acc (List.replicate n vs.toArray) = acc ++ (List.replicate n vs).flatten.toArray := by
    intro n
    induction n with
    | zero => intro acc; simp
    | succ n ih => intro acc; rw [List.replicate_succ, List.foldl_cons, ih, List.replicate_succ, List.flatten_cons]; simp [Array.append_assoc]
  rw [key]; simp
theorem VRs.rep {T μ} {vs : List Value} {l : List PV} (r : VRs T μ vs l) : ∀ n : Nat, VRs T μ (List.replicate n vs).flatten (List.replicate n l).flatten
  | 0 => .nil
  | n + 1 => by rw [List.replicate_succ, List.replicate_succ, List.flatten_cons, List.flatten_cons]; exact r.append (VRs.rep r n)
theorem WO_mulL {a : Nat} {pv : PV} {x : Int} (e1 : σ[a]? = some (.list [pv])) (h0 : 0 ≤ x) (h1 : x ≤ 100000) (h : K (.loc σ.length) (σ ++ [.list (List.replicate x.toNat pv)])) : WO2 c (binaryOp .Mult) (.loc a) (.int x) σ m K X := by
  intro T R s v u st r1 r2 Q E q ex
  obtain ⟨a1, vs1, k1, rfl, _, hh, q1⟩ := listAt st e1 r1
  obtain ⟨mr, F, nr⟩ := st.fr
  (first | (replace r2 := r2.inv; obtain rfl := r2) | (replace r2 := r2.inv; obtain ⟨_, rfl⟩ := r2) | cases r2)
  have hl : vs1.length = 1 := q1.length
  refine mul_list F st.news hh (by omega) (by omega) (by rw [List.size_toArray, hl]; omega) fun h' F' N' => ?_
  have he : vs1.toArray.isEmpty = false := by cases vs1 with | nil => cases hl | cons v vs => rfl
  rw [he] at N'
  simp only [Bool.false_eq_true, if_false, rep_flat] at N'
  obtain ⟨R', g, S, r⟩ := st.bornFN nr (tk := s.toks) (k := 0) F' N' (none_of_size s.heap) (q1.rep x.toNat)
  have hf : (List.replicate x.toNat [pv]).flatten = List.replicate x.toNat pv := by simp
  rw [hf] at S
  exact q _ _ _ _ _ _ g S r h
theorem WC_listR {n : Int} (h0 : 0 ≤ n) (h1 : n ≤ 100000) (h : K (.loc σ.length) (σ ++ [.list ((List.range n.toNat).map fun i : Nat => PV.int (i : Int))])) : WC c (.type "list") [.rng 0 n] σ m K X := by
  intro T R s vs st rs Q E q ex
  replace rs := rs.inv; obtain ⟨_, _, rfl, r1, r2⟩ := rs
  (first | (replace r2 := r2.inv; obtain rfl := r2) | (replace r2 := r2.inv; obtain ⟨_, rfl⟩ := r2) | cases r2)
  replace r1 := r1.inv; obtain ⟨_, _, _, _, rfl, hm⟩ := r1
  have hsz : Builtin.Range.rangeSize 0 n 1 = ((n.toNat : Nat) : Int) := by rw [rangeSize_one]; split <;> omega
  refine call_list_range st.ok.hh (st.tupGet hm) (small_one (by omega) (by omega) (by omega) (by omega)) hsz (by omega) fun h' tk acc' c' hk ho hi => ?_
  obtain ⟨i1, i2⟩ := hi
  have rs' : VRs T (μs R) acc'.toList ((List.range n.toNat).map fun i : Nat => PV.int (i : Int)) := by
    have key : ∀ (l : List Value) (k : Nat), (∀ j v, l[j]? = some v → ∃ t, v = Value.int ((0 : Int) + ((k + j : Nat) : Int) * 1) t) → VRs T (μs R) l ((List.range' k l.length).map fun i : Nat => PV.int (i : Int)) := by
      intro l
      induction l with
      | nil => intro k _; exact .nil
      | cons v l ih =>
        intro k hl
        obtain ⟨t, rfl⟩ := hl 0 v rfl
        rw [List.length_cons, List.range'_succ, List.map_cons]
        refine .cons ?_ (ih (k + 1) fun j v e => ?_)
        · have : ((0 : Int) + ((k + 0 : Nat) : Int) * 1) = (k : Int) := by omega
          rw [this]; exact .int _ _
        · obtain ⟨t, rfl⟩ := hl (j + 1) v (by simpa using e)
          exact ⟨t, by congr 1; omega⟩
    have := key acc'.toList 0 fun j v e => i2 j v (by simpa using e) |>.imp fun t ht => by rw [ht]; congr 1; omega
    rw [Array.length_toList, i1] at this
    rw [List.range_eq_range']
    exact this
  have g0 : Gr T (μs R) T (μs (R ++ [(s.heap.objs.size, listOf acc'.toList.toArray c')])) := ⟨fun p hp => hp, by unfold μs; rw [List.map_append]; exact List.prefix_append _ _⟩
  obtain ⟨S2, g2, hn⟩ := st.addR (tk := tk) (o := listOf acc'.toList.toArray c') hk (none_of_size s.heap) (by simpa using ho) (.list (rs'.mono g0))
  exact q _ _ _ _ _ _ g2 S2 (.loc hn) h
end
end Nv
end
section
open PySem PySem.W PySem.Calls PyProof.Rows PyProof.V PySem.Spec PySem.Builtin
namespace Nv
section
variable {prog : Program} {w : World} {A : Around} {E : Value → Shared → Prop} {s : Shared}
theorem meets_ba_get (S : Addr) (b : List UInt8) (i : Int) (u : Tok) (h0 : 0 ≤ i) (h1 : i < b.length) (hz : b.length ≤ 100000) :
    Meets (Builtin.«bytearray.__getitem__» ⟨[.ref S, .int i u], []⟩) (fun _ R s => s.heap.get? S = some (baOf b) ∧ R (.ok (.ret (.int (b.getD i.toNat 0).toNat s.toks))) { s with toks := s.toks + 1 }) := by
  refine .of_wp fun prog w A R s h => ?_
  obtain ⟨hS, hR⟩ := h
  show wpAny _ _ (Bytes.subscript? (.int i u) >>= fun r => _) _ _ s
  refine wpAny_bind ?_
  unfold Bytes.subscript?
  refine wpAny_bind (wpAny_specialOf (typeIs_int s i u) F.slot_int_index.lookup ?_)
  have hf : Bytes.fitsIndex i = true := by simp only [Bytes.fitsIndex, Bool.and_eq_true, decide_eq_true_eq]; omega
  show wpAny _ _ (if (!Bytes.fitsIndex i) = true then _ else pure (some i)) _ _ s
  rw [hf]
  refine wpAny_pure ?_
  show wpAny _ _ (Bytes.payload (.ref S) >>= fun r => _) _ _ s
  refine wpAny_bind (wpAny_bind (wpAny_bind (wpAny_load hS (wpAny_pure (wpAny_pure ?_)))))
  have hx : (seqIndex? i b.toArray.size).bind (b.toArray[·]?) = some (b.getD i.toNat 0) := by
    have hl : i.toNat < b.length := by omega
    rw [seqIdx h0 (by rw [List.size_toArray]; exact h1)]
    simp [hl]
  rw [hx]
  exact wpAny_bind (wpAny_mkInt (wpAny_pure ⟨_, rfl, hR⟩))
theorem meets_ba_len (S : Addr) (b : List UInt8) : Meets (Builtin.«bytearray.__len__» ⟨[.ref S], []⟩) (fun _ R s => s.heap.get? S = some (baOf b) ∧ R (.ok (.ret (.int b.length s.toks))) { s with toks := s.toks + 1 }) := by
  refine .of_wp fun prog w A R s h => ?_
  obtain ⟨hS, hR⟩ := h
  show wpAny _ _ (Bytes.payload (.ref S) >>= fun r => _) _ _ s
  refine wpAny_bind (wpAny_bind (wpAny_bind (wpAny_load hS (wpAny_pure (wpAny_pure ?_)))))
  rw [List.size_toArray]
  exact wpAny_bind (wpAny_mkInt (wpAny_pure ⟨_, rfl, hR⟩))
theorem len_ba {S : Addr} {b : List UInt8} {Q : Value → Shared → Prop} (hS : s.heap.get? S = some (baOf b)) (hz : b.length ≤ 100000) (h : Q (.int b.length (s.toks + 1)) { s with toks := s.toks + 1 + 1 }) : wpAny (model prog w) A (call (.builtin "len") [.ref S]) Q E s := by
  refine Calls.call_function_entry kind_len plain_len entry_len (args_len1 _) ?_
  unfold Builtin.«len»
  refine wpAny_bind (m := oneArg "len" _) (wpAny_pure ?_)
  refine wpAny_bind (m := callSpecial? (.ref S) (Str.ofString "__len__")) (wpAny_callSpecial?_slot (name := Str.ofString "__len__") ⟨_, hS, rfl⟩ slot_ba_len (call_meets slot_ba_len ⟨_, hS, rfl⟩ entry_ba_len (args_ba_len _) (meets_ba_len S b) ⟨hS, ?_⟩))
  show wpAny _ _ _ _ _ { s with toks := s.toks + 1 }
  refine wpAny_bind (wpAny_holding (wpAny_pure ?_))
  refine wpAny_bind (wpAny_letGo ?_)
  show wpAny _ _ (if (b.length : Int) < 0 then _ else _) _ _ _
  rw [if_neg (by omega)]
  show wpAny _ _ (if (b.length : Int) ≥ 2 ^ 63 then _ else _) _ _ _
  rw [if_neg (by omega)]
  exact wpAny_bind (wpAny_mkInt (wpAny_pure ⟨_, rfl, h⟩))
theorem meets_ba_cut (S : Addr) (b : List UInt8) (a : Addr) {l u : Value} {lo hi : Option Int} (hl : IsPart l lo) (hu : IsPart u hi) (hz : b.length ≤ 100000) :
    Meets (Builtin.«bytearray.__getitem__» ⟨[.ref S, .ref a], []⟩) (fun _ R s => s.heap.get? S = some (baOf b) ∧ s.heap.IsSliceOf a l u .none ∧ R (.ok (.ret (.ref s.heap.objs.size))) { s with heap := s.heap.push { cls := .type "bytearray", data := .bytearray (KBy.picked b.toArray lo hi) 0 } }) := by
  refine .of_wp fun prog w A R s hS => ?_
  obtain ⟨hB, ⟨o, ho, hc, hd⟩, hR⟩ := hS
  have hT : s.TypeIs (.ref a) "slice" := ⟨o, ho, hc⟩
  have hsz : ∀ lo hi, (KBy.picked b.toArray lo hi).size ≤ sizeLine := fun lo hi => Nat.le_trans (KBc.size_picked_le b.toArray lo hi) (by rw [List.size_toArray]; exact Nat.le_trans hz (by decide))
  have hpay : ∀ {Q : Array UInt8 → Shared → Prop}, Q b.toArray s → wpAny (model prog w) A.in1 (Bytes.payload (.ref S)) Q (fun e s' => R (.error e) s') s := fun h => wpAny_bind (wpAny_bind (wpAny_load hB (wpAny_pure (wpAny_pure h))))
  show wpAny _ _ (Bytes.subscript? (.ref a) >>= fun r => _) _ _ s
  refine wpAny_bind ?_
  unfold Bytes.subscript?
  refine wpAny_bind (wpAny_specialOf hT slice_no_index (wpAny_pure ?_))
  refine wpAny_bind (wpAny_typeOf hT ?_)
  show wpAny _ _ (Bytes.sliceParts (.ref a) >>= fun r => _) _ _ s
  refine wpAny_bind ?_
  unfold Bytes.sliceParts
  refine wpAny_bind (wpAny_field (x := .none) ho hd rfl ?_)
  kby_none
  refine wpAny_ite (KBy.ite_no (show ¬ ((Value.none == rawInt 0) = true) from Bool.false_ne_true) ?_)
  refine wpAny_bind (wpAny_field (x := l) ho hd rfl ?_)
  have go : wpAny (model prog w) A.in1 (sliceIndices (rawPart lo) (rawPart hi) (rawPart none) b.toArray.size) (fun r s' => r = sliceBounds lo hi none b.toArray.size ∧ s' = s) (fun _ _ => False) s :=
    wpAny_of_eq (sliceIndices_raw lo hi none b.toArray.size (fun e => nomatch e)) ⟨rfl, rfl⟩
  have fin : ∀ (r : Int × Int × Int) (s' : Shared), r = sliceBounds lo hi none b.toArray.size → s' = s → wpAny (model prog w) A.in1 (match r with | (start, stop, step) => do ret (← Bytes.newBytearray (Bytes.sliced b.toArray start stop step))) (fun fin s' => ∃ v, fin = .done (.ret v) ∧ R (.ok (.ret v)) s') (fun e s' => R (.error e) s') s' := by
    rintro r s' rfl rfl
    show wpAny _ _ (Bytes.newBytearray (KBy.picked b.toArray lo hi) >>= fun v => ret v) _ _ _
    refine wpAny_bind ?_
    unfold Bytes.newBytearray
    exact wpAny_newObj_type (wpAny_pure ⟨_, rfl, hR⟩) (hsz lo hi)
  cases hl <;> cases hu <;> (first
    | (kby_none; (refine wpAny_bind (wpAny_field (x := .none) ho hd rfl ?_)); kby_none)
    | (kby_none; (refine wpAny_bind (wpAny_field (x := .int _ _) ho hd rfl ?_)); kby_int)
    | (kby_int; (refine wpAny_bind (wpAny_field (x := .none) ho hd rfl ?_)); kby_none)
    | (kby_int; (refine wpAny_bind (wpAny_field (x := .int _ _) ho hd rfl ?_)); kby_int)) <;> refine wpAny_pure ?_
  all_goals
    refine wpAny_bind (hpay ?_)
    refine wpAny_bind (wpAny_mono go (fun r s' hr => ?_) fun _ _ e => e.elim)
    exact fin r s' hr.1 hr.2
end
section
variable {c : Cx} {σ : List AO} {m : Nm} {K : PV → List AO → Prop} {Kn : Nm → List AO → Prop} {Kr : PV → List AO → Prop} {X : List AO → Prop}
theorem WG_ba {n : Nat} {b : List UInt8} {i : Int} (e : σ[n]? = some (.ba b)) (hz : b.length ≤ 100000) (h0 : 0 ≤ i) (h1 : i < b.length) (h : K (.int (b.getD i.toNat 0).toNat) σ) : WG c (.loc n) (.int i) σ m K X := by
  intro T R s v u st r1 r2
  obtain ⟨a, rfl, _, ha⟩ := baAt st e r1
  (first | (replace r2 := r2.inv; obtain rfl := r2) | (replace r2 := r2.inv; obtain ⟨_, rfl⟩ := r2) | cases r2)
  have hT : s.TypeIs (.ref a) "bytearray" := ⟨_, ha, rfl⟩
  exact ⟨_, _, hT, slot_ba_getitem.lookup, fun Q E q ex => getItem_meets hT (by decide) slot_ba_getitem entry_ba_getitem (args_ba_getitem _ _) (meets_ba_get a b i _ h0 h1 hz) ⟨ha, q _ _ T R σ _ (Gr.refl _ _) (st.tok _) (.int _ _) h⟩⟩
theorem WC_lenBa {n : Nat} {b : List UInt8} (e : σ[n]? = some (.ba b)) (hz : b.length ≤ 100000) (h : K (.int b.length) σ) : WC c (.builtin "len") [.loc n] σ m K X := by
  intro T R s vs st rs Q E q ex
  replace rs := rs.inv; obtain ⟨_, _, rfl, r1, r2⟩ := rs
  (first | (replace r2 := r2.inv; obtain rfl := r2) | (replace r2 := r2.inv; obtain ⟨_, rfl⟩ := r2) | cases r2)
  obtain ⟨a, rfl, _, ha⟩ := baAt st e r1
  exact len_ba ha hz (q _ _ T R σ _ (Gr.refl _ _) (st.tok _) (.int _ _) h)
theorem WGs_ba {n : Nat} {b : List UInt8} {lo hi : PV} (e : σ[n]? = some (.ba b)) (hz : b.length ≤ 100000) (hl : isPart lo = true) (hh : isPart hi = true) (h : K (.loc σ.length) (σ ++ [.ba (cut b lo hi)])) : WGs c (.loc n) lo hi σ m K X := by
  intro T R s v a vl vu st r1 r2 r3 hm
  obtain ⟨S, rfl, _, hS⟩ := baAt st e r1
  have hT : s.TypeIs (.ref S) "bytearray" := ⟨_, hS, rfl⟩
  refine ⟨_, _, hT, slot_ba_getitem.lookup, fun Q E q ex => ?_⟩
  refine getItem_meets hT (by decide) slot_ba_getitem entry_ba_getitem (args_ba_getitem _ _) (meets_ba_cut S b a (IsPart.of r2 hl) (IsPart.of r3 hh) hz) ⟨hS, ⟨_, st.tupGet hm, rfl, rfl⟩, ?_⟩
  have he : KBy.picked b.toArray (partOf lo) (partOf hi) = (cut b lo hi).toArray := by
    rw [KBc.picked_eq]
    simp only [cut, clipO_eq, List.size_toArray]
  rw [he]
  obtain ⟨S2, g2, hn⟩ := st.addR (tk := s.toks) (o := baOf (cut b lo hi)) (fun b o e => Heap.get?_push_of_some _ e) (none_of_size s.heap) (Heap.get?_push_size _ rfl) (.ba _)
  exact q _ _ _ _ _ _ g2 S2 (.loc hn) h
theorem VRs.cut {T μ} {vs : List Value} {l : List PV} (r : VRs T μ vs l) (lo hi : PV) : VRs T μ (cut vs lo hi) (Nv.cut l lo hi) := by
  unfold Nv.cut
  rw [r.length]
  exact (r.drop _).take _
theorem WGs_list {n : Nat} {l : List PV} {lo hi : PV} (e : σ[n]? = some (.list l)) (hz : l.length ≤ 100000) (hl : isPart lo = true) (hh : isPart hi = true) (h : K (.loc σ.length) (σ ++ [.list (cut l lo hi)])) : WGs c (.loc n) lo hi σ m K X := by
  intro T R s v a vl vu st r1 r2 r3 hm
  obtain ⟨D, vs, k, rfl, _, hD, hr⟩ := listAt st e r1
  refine ⟨_, _, (isListOf hD).typeIs, slot_list_getitem.lookup, fun Q E q ex => ?_⟩
  refine wpAny_getItem_list_slice (isListOf hD) ⟨_, st.tupGet hm, rfl, rfl⟩ (IsPart.of r2 hl) (IsPart.of r3 hh) .none (by simp) ?_ (by rw [List.size_toArray, hr.length]; exact Nat.le_trans hz (by decide))
  have he : slicePick vs.toArray (partOf lo) (partOf hi) none = (cut vs lo hi).toArray := by
    rw [slicePick_plain]
    simp only [cut, clipO_eq, List.size_toArray]
  rw [he]
  have rc := hr.cut lo hi
  have g0 : Gr T (μs R) T (μs (R ++ [(s.heap.objs.size, listOf (cut vs lo hi).toArray 0)])) := ⟨fun p hp => hp, by unfold μs; rw [List.map_append]; exact List.prefix_append _ _⟩
  obtain ⟨S2, g2, hn⟩ := st.addR (tk := s.toks) (o := listOf (cut vs lo hi).toArray 0) (fun b o e => Heap.get?_push_of_some _ e) (none_of_size s.heap) (Heap.get?_push_size _ rfl) (.list (rc.mono g0))
  exact q _ _ _ _ _ _ g2 S2 (.loc hn) h
theorem WM_append {n : Nat} {l : List PV} {KM : Value → List PV → List AO → Prop} (e : σ[n]? = some (.list l)) (h : KM (.builtin "list.append") [.loc n] σ) : WM c (.loc n) "append" σ m KM X := by
  intro T R s v pl st r Q E q ex
  have r0 := r
  obtain ⟨a, vs, k, rfl, _, ha, hr⟩ := listAt st e r
  exact Calls.getMethod_list_append ha rfl rfl (q _ _ _ T R σ s (Gr.refl _ _) st (.cons r0 .nil) h)
theorem WC_append {n : Nat} {l : List PV} {pv : PV} (e : σ[n]? = some (.list l)) (hz : l.length ≤ 100000) (h : K .none (σ.set n (.list (l ++ [pv])))) : WC c (.builtin "list.append") [.loc n, pv] σ m K X := by
  intro T R s vs st rs Q E q ex
  replace rs := rs.inv; obtain ⟨_, _, rfl, r1, r2⟩ := rs
  replace r2 := r2.inv; obtain ⟨_, _, rfl, r2, r3⟩ := r2
  (first | (replace r3 := r3.inv; obtain rfl := r3) | (replace r3 := r3.inv; obtain ⟨_, rfl⟩ := r3) | cases r3)
  obtain ⟨a, vs, k, rfl, e1, ha, hr⟩ := listAt st e r1
  refine append_at ha (fun h' hs ho => ?_) (by rw [List.size_toArray, hr.length]; exact Nat.le_trans hz (by decide))
  rename_i v1
  have ho' : h'.get? a = some (listOf (vs ++ [v1]).toArray (k + 1)) := by rw [ho]; simp
  obtain ⟨S, hμ⟩ := st.setR (tk := s.toks) e1 hs ho' (.list (hr.append (.cons r2 .nil)))
  exact q _ _ T _ _ _ (sameN hμ) S .none h
theorem WS1_expr {e : Expr} {pos} (h : WE c e σ m (fun pv σ1 => pv = .none ∧ Kn m σ1) X) (hi : interactive c.env = false := by rfl) (hs : swapsWith e none pos.line c.env = pure false := by rfl) : WS1 c (.Expr e pos) σ m Kn Kr X := by
  intro T R s st Q E q1 q2 ex
  refine wpAny_Expr (hi := hi) (hs := hs) (h T R s st _ _ (fun v pv T1 R1 σ1 s1 g1 S1 r k => ?_) (fun e' s' σ' hx hX => ex e' m s' σ' hx hX))
  obtain ⟨rfl, k⟩ := k
  (first | (replace r := r.inv; obtain rfl := r) | (replace r := r.inv; obtain ⟨_, rfl⟩ := r) | cases r)
  exact q1 m T1 R1 σ1 s1 g1 S1 k
theorem WS1_asgI {o i : Expr} {p pos} {e : Expr}
    (h : WE c e σ m (fun pv σ1 => WE c o σ1 m (fun ov σ2 => WE c i σ2 m (fun iv σ3 => ∃ n l k, ov = .loc n ∧ iv = .int k ∧ σ3[n]? = some (.list l) ∧ 0 ≤ k ∧ k < l.length ∧ k < 2 ^ 60 ∧ Kn m (σ3.set n (.list (l.set k.toNat pv)))) X) X) X)
    (hs : swapsWith e (some (.Subscript o i p)) pos.line c.env = pure false := by rfl) : WS1 c (.Assign [.Subscript o i p] e pos) σ m Kn Kr X := by
  intro T R s st Q E q1 q2 ex
  refine wpAny_Assign_Subscript (hs := hs) (h T R s st _ _ (fun v pv T1 R1 σ1 s1 g1 S1 r1 k1 => ?_) (fun e' s' σ' hx hX => ex e' m s' σ' hx hX))
  refine k1 T1 R1 s1 S1 _ _ (fun ov po T2 R2 σ2 s2 g2 S2 r2 k2 => ?_) (fun e' s' σ' hx hX => ex e' m s' σ' (hx.mono g1) hX)
  refine k2 T2 R2 s2 S2 _ _ (fun iv pi T3 R3 σ3 s3 g3 S3 r3 k3 => ?_) (fun e' s' σ' hx hX => ex e' m s' σ' (hx.mono (g1.trans g2)) hX)
  obtain ⟨n, l, k, rfl, rfl, en, h0, h1, h2, kk⟩ := k3
  obtain ⟨a, vs, kk', rfl, e1, ha, hr⟩ := listAt S3 en (r2.mono g3)
  (first | (replace r3 := r3.inv; obtain rfl := r3) | (replace r3 := r3.inv; obtain ⟨_, rfl⟩ := r3) | cases r3)
  refine ki_setAt ha h0 (by omega) (by rw [List.size_toArray, hr.length]; exact h1) ?_
  have ho : (s3.heap.update a (Obj.mapSeq (·.setIfInBounds k.toNat v))).get? a = some (listOf (vs.set k.toNat v).toArray kk') := by
    rw [Heap.get?_update_self _ ha rfl]
    simp [Obj.mapSeq]
  obtain ⟨S, hμ⟩ := S3.setR (tk := s3.toks) e1 (Heap.SameBut.update ..) ho (.list (hr.set (r1.mono (g2.trans g3)) k.toNat))
  exact q1 m T3 _ _ _ (g1.trans (g2.trans (g3.trans (sameN hμ)))) S kk
end
end Nv
end
section
open PySem PySem.W PySem.Calls PyProof.Rows PyProof.V PySem.Spec PySem.Builtin
namespace Nv
theorem int_bytes : typeLookup (.type "int") "__bytes__" = pure none := by rw [typeLookup_type, builtinLookup_eq_fast]; kernel_rfl
theorem ba_bytes : typeLookup (.type "bytearray") "__bytes__" = pure none := by rw [typeLookup_type, builtinLookup_eq_fast]; kernel_rfl
theorem ba_index : typeLookup (.type "bytearray") "__index__" = pure none := by rw [typeLookup_type, builtinLookup_eq_fast]; kernel_rfl
theorem ba_buf : typeLookup (.type "bytearray") "__buffer__" = pure (some (.builtin "bytearray.__buffer__")) := by rw [typeLookup_type, builtinLookup_eq_fast]; kernel_rfl
theorem slot_bytes_join : Slot "bytes" "join" "bytes.join" :=
  .of (owner := "bytes") (n := "join") (by rw [typeLookup_type, builtinLookup_eq_fast]; kernel_rfl) (by decide +kernel) (by decide +kernel) (by decide +kernel)
    (by first | exact .inl (by decide +kernel) | exact .inr (by decide +kernel)) (by rw [isSubtype_type]; kernel_rfl)
theorem entry_bytes_join : entryFor table "bytes.join" = some Builtin.«bytes.join» := entryFor_of_tree (by kernel_rfl)
theorem args_bytes_join (a b : Value) : argsOk "bytes.join" ⟨[a, b], []⟩ := by unfold argsOk; kernel_rfl
section
variable {prog : Program} {w : World} {A : Around} {E : Value → Shared → Prop} {s : Shared}
theorem slotOwn_ba {S : Addr} {Q : Bool → Shared → Prop} (hT : s.TypeIs (.ref S) "bytearray") (h : Q true s) : wpAny (model prog w) A (Bytes.slotIsOwn (.ref S) "__buffer__") Q E s := by
  unfold Bytes.slotIsOwn
  refine wpAny_bind (wpAny_specialOf hT ba_buf ?_)
  dsimp only
  rw [show (!("bytearray.__buffer__".endsWith ("." ++ "__buffer__"))) = false from by decide +kernel]
  simp only [Bool.false_eq_true, if_false]
  rw [show ("bytearray.__buffer__".dropRight ("__buffer__".length + 1)) = "bytearray" from by decide +kernel]
  exact wpAny_isInstance hT sub_ba_self h
theorem buffer_ba {i : String} {full : Bool} {S : Addr} {b : List UInt8} {Q : Option (Array UInt8) → Shared → Prop} (hS : s.heap.get? S = some (baOf b)) (h : Q (some b.toArray) s) : wpAny (model prog w) A (Bytes.buffer? i (.ref S) full) Q E s := by
  have hT : s.TypeIs (.ref S) "bytearray" := ⟨_, hS, rfl⟩
  unfold Bytes.buffer?
  refine wpAny_bind (wpAny_specialOf hT ba_buf ?_)
  dsimp only
  refine wpAny_bind (slotOwn_ba hT ?_)
  simp only [Bool.not_true, Bool.false_eq_true, if_false]
  refine wpAny_bind (wpAny_specialOf hT ba_buf ?_)
  refine wpAny_bind (own_ba hT ?_)
  simp only [Bool.false_eq_true, if_false]
  exact wpAny_bind (wpAny_bind (wpAny_bind (wpAny_load hS (wpAny_pure (wpAny_pure (wpAny_pure h))))))
theorem bytes_call {v : Value} {Q : Value → Shared → Prop}
    (h : codeAny (model prog w) A.in1 (.call (.builtin "bytes.__new__") ⟨[.type "bytes", v], []⟩) (wants (fun obj s₁ => s₁.TypeIs obj "bytes" ∧ Q obj s₁) E) s) : wpAny (model prog w) A (call (.type "bytes") [v]) Q E s := by
  refine callType_codes (Q₁ := fun obj s₁ => s₁.TypeIs obj "bytes" ∧ Q obj s₁) F.bm_called (F.bm_typeCall _) F.entry_object_init h fun obj s₁ h₁ => ?_
  exact ⟨h₁.1, F.args_object_init_2 obj _, object_init_meets F.bm_called.init.lookup F.bm_called.made (by decide) prog w A.in1 _ s₁ ⟨h₁.1, rfl, h₁.2⟩⟩
theorem bytes_int {n : Int} {t : Tok} {Q : Value → Shared → Prop} (h0 : 0 ≤ n) (h1 : n ≤ 100000) (h : ∀ t' k, Q (.bytes (Array.replicate n.toNat 0) t') { s with toks := k }) : wpAny (model prog w) A (call (.type "bytes") [.int n t]) Q E s := by
  refine bytes_call (codeAny_of_tree ?_)
  show wpAny _ A.in1.in1 (do checkBuiltinCall "bytes.__new__" ⟨[.type "bytes", .int n t], []⟩; again (.builtin "bytes.__new__" ⟨[.type "bytes", .int n t], []⟩)) _ _ s
  refine wpAny_bind (wpAny_of_eq (F.bm_newCall _) (wpAny_pure ⟨plainId_quiet F.bm_plain _, codeAny_builtin F.bm_entry ?_⟩))
  rw [Around.under_plainId F.bm_plain _]
  unfold Builtin.«bytes.__new__»
  refine wpAny_bind (wpAny_of_eq (a := true) rfl ?_)
  refine bm_if_false rfl ?_
  refine wpAny_bind (wpAny_of_eq F.bm_sub ?_)
  refine bm_if_false rfl ?_
  refine wpAny_bind (wpAny_of_eq (F.bm_bind _) ?_)
  refine wpAny_bind (wpAny_of_eq (a := ()) rfl ?_)
  refine wpAny_bind (wpAny_of_eq (a := ()) rfl ?_)
  refine bm_if_false rfl ?_
  refine wpAny_bind (wpAny_specialOf (typeIs_int s n t) int_bytes ?_)
  refine wpAny_bind (wpAny_of_eq (a := false) rfl ?_)
  refine bm_if_false rfl ?_
  refine wpAny_bind (wpAny_specialOf (typeIs_int s n t) F.slot_int_index.lookup ?_)
  refine bm_if_false rfl ?_
  refine wpAny_bind (wpAny_attempt (wpAny_of_eq (a := n) rfl ?_))
  dsimp only
  refine bm_if_false (by simp only [Bytes.fitsIndex, Bool.not_eq_false', Bool.and_eq_true, decide_eq_true_eq]; omega) ?_
  rw [if_neg (by omega)]
  rw [if_neg (by omega)]
  have hs : n.toNat ≤ sizeLine := Nat.le_trans (show n.toNat ≤ 100000 by omega) (by decide)
  refine bm_if_false (by simp only [Bytes.tooLong, decide_eq_false_iff_not]; omega) ?_
  refine wpAny_bind (wpAny_rule ?_)
  refine wpAny_bind (wpAny_mkBytes ?_ (by rw [Array.size_replicate]; exact hs))
  show wpAny _ _ (if (Value.type "bytes" == Value.type "bytes") = true then _ else _) _ _ _
  refine bm_if_true (by decide) ?_
  first
    | exact wpAny_pure ⟨PySem.W.typeIs_bytes _ _ _, h _ _⟩
    | exact wpAny_bind (wpAny_pure (wpAny_pure ⟨PySem.W.typeIs_bytes _ _ _, h _ _⟩))
theorem bytes_ba {S : Addr} {b : List UInt8} {Q : Value → Shared → Prop} (hS : s.heap.get? S = some (baOf b)) (hz : b.length ≤ 100000) (h : ∀ t' k, Q (.bytes b.toArray t') { s with toks := k }) : wpAny (model prog w) A (call (.type "bytes") [.ref S]) Q E s := by
  have hT : s.TypeIs (.ref S) "bytearray" := ⟨_, hS, rfl⟩
  refine bytes_call (codeAny_of_tree ?_)
  show wpAny _ A.in1.in1 (do checkBuiltinCall "bytes.__new__" ⟨[.type "bytes", .ref S], []⟩; again (.builtin "bytes.__new__" ⟨[.type "bytes", .ref S], []⟩)) _ _ s
  refine wpAny_bind (wpAny_of_eq (F.bm_newCall _) (wpAny_pure ⟨plainId_quiet F.bm_plain _, codeAny_builtin F.bm_entry ?_⟩))
  rw [Around.under_plainId F.bm_plain _]
  unfold Builtin.«bytes.__new__»
  refine wpAny_bind (wpAny_of_eq (a := true) rfl ?_)
  refine bm_if_false rfl ?_
  refine wpAny_bind (wpAny_of_eq F.bm_sub ?_)
  refine bm_if_false rfl ?_
  refine wpAny_bind (wpAny_of_eq (F.bm_bind _) ?_)
  refine wpAny_bind (wpAny_of_eq (a := ()) rfl ?_)
  refine wpAny_bind (wpAny_of_eq (a := ()) rfl ?_)
  refine bm_if_false rfl ?_
  refine wpAny_bind (wpAny_specialOf hT ba_bytes ?_)
  refine wpAny_bind (wpAny_bind ?_)
  show wpAny _ _ (load S >>= _) _ _ _
  refine wpAny_bind (wpAny_load hS (wpAny_pure (wpAny_pure ?_)))
  refine bm_if_false rfl ?_
  refine wpAny_bind (wpAny_specialOf hT ba_index ?_)
  refine bm_if_true rfl ?_
  first
    | show wpAny _ _ (Bytes.buffer? "bytes.__new__" (.ref S) true >>= _) _ _ _
    | (refine wpAny_bind ?_; show wpAny _ _ (Bytes.buffer? "bytes.__new__" (.ref S) true >>= _) _ _ _)
  refine wpAny_bind (buffer_ba hS ?_)
  dsimp only
  refine wpAny_bind (wpAny_rule ?_)
  refine wpAny_bind (wpAny_mkBytes ?_ (by rw [List.size_toArray]; exact Nat.le_trans hz (by decide)))
  show wpAny _ _ (if (Value.type "bytes" == Value.type "bytes") = true then _ else _) _ _ _
  refine bm_if_true (by decide) ?_
  first
    | exact wpAny_pure ⟨PySem.W.typeIs_bytes _ _ _, h _ _⟩
    | exact wpAny_bind (wpAny_pure (wpAny_pure ⟨PySem.W.typeIs_bytes _ _ _, h _ _⟩))
    | exact wpAny_pure (wpAny_pure ⟨PySem.W.typeIs_bytes _ _ _, h _ _⟩)
theorem tbq_bytes {i : String} {b : Array UInt8} {t : Tok} {Q : Option (Array UInt8 × Option Value) → Shared → Prop} (h : Q (some (b, none)) s) : wpAny (model prog w) A (Bytes.takeBufferQuiet? i (.bytes b t) 0) Q E s := by
  unfold Bytes.takeBufferQuiet? Bytes.takeBuffer?
  refine wpAny_bind (wpAny_attempt ?_)
  refine wpAny_bind (wpAny_specialOf (typeIs_bytes s b t) by_buf ?_)
  dsimp only
  refine wpAny_bind (slotOwn_bytes ?_)
  simp only [Bool.not_true, Bool.false_eq_true, if_false]
  refine wpAny_bind (wpAny_specialOf (typeIs_bytes s b t) by_buf ?_)
  refine wpAny_bind (buffer_bytes (wpAny_pure ?_))
  exact wpAny_pure h
theorem wpAny_eqv {α : Type} {M : Model} {A : Around} {t u : Sem α} {Q : α → Shared → Prop} {E : Value → Shared → Prop} {s : Shared} (e : t = u) (h : wpAny M A u Q E s) : wpAny M A t Q E s := e ▸ h
theorem match_one {α : Type} (items : Array Value) (f : Value → α) (g : α) : items.size ≠ 1 → (match items with | #[x] => f x | _ => g) = g := by
  intro h
  obtain ⟨l⟩ := items
  rcases l with _ | ⟨x, _ | ⟨y, r⟩⟩
  · rfl
  · exact absurd rfl h
  · rfl
theorem meets_join (sep : Array UInt8) (t : Tok) (D : Addr) (bs : List (Array UInt8 × Tok)) (n : Nat) (hz : bs.length ≠ 1) (hl : Bytes.tooLong ((bs.map (·.1)).toArray.foldl (· + ·.size) (sep.size * (bs.length - 1))) = false) (hl2 : (Bytes.joined sep (bs.map (·.1))).size ≤ sizeLine) :
    Meets (Builtin.«bytes.join» ⟨[.bytes sep t, .ref D], []⟩) (fun _ R s => s.heap.get? D = some (W.listOf (bs.map fun x => Value.bytes x.1 x.2).toArray n) ∧ ∀ t' k, R (.ok (.ret (.bytes (Bytes.joined sep (bs.map (·.1))) t'))) { s with toks := k }) := by
  refine .of_wp fun prog w A R s hS => ?_
  obtain ⟨hD, hR⟩ := hS
  have hT : s.TypeIs (.ref D) "list" := ⟨_, hD, rfl⟩
  unfold Builtin.«bytes.join» Bytes.joinM
  refine wpAny_bind (wpAny_of_eq (a := (.bytes sep t, .ref D)) rfl ?_)
  dsimp only
  refine bm_if_true (by decide) ?_
  refine wpAny_bind ?_
  unfold Bytes.joinItems
  refine wpAny_bind (wpAny_typeOf hT ?_)
  refine bm_if_true (by decide) ?_
  refine wpAny_pure ?_
  refine wpAny_bind (wpAny_seqItems hD rfl ?_)
  dsimp only
  refine bm_if_true (by decide) ?_
  obtain ⟨items, hit⟩ : ∃ items, items = (bs.map fun x => Value.bytes x.1 x.2).toArray := ⟨_, rfl⟩
  rw [← hit]
  refine wpAny_eqv (match_one items _ _ (by rw [hit]; simpa using hz)) ?_
  subst hit
  rw [Std.Legacy.Range.forIn_eq_forIn_range']
  refine wpAny_bind (wpAny_forIn_list _ (fun rest (b : Array (Array UInt8) × List (Value × Option Value)) s' => ∃ i, i ≤ bs.length ∧ rest = List.range' i (bs.length - i) ∧ b = (((bs.take i).map (·.1)).toArray, (bs.take i).map fun x => (Value.bytes x.1 x.2, none)) ∧ s' = s) _ ?turn ?fin _ _ ⟨0, Nat.zero_le _, ?_, ?_, rfl⟩)
  case turn =>
    rintro i0 rest b s' ⟨i, hi, hr, rfl, rfl⟩
    have hlt : i < bs.length := by
      rcases Nat.lt_or_ge i bs.length with h | h
      · exact h
      · rw [Nat.sub_eq_zero_of_le h] at hr; (first | (replace hr := hr.inv; obtain rfl := hr) | (replace hr := hr.inv; obtain ⟨_, rfl⟩ := hr) | cases hr)
    rw [show bs.length - i = (bs.length - i - 1) + 1 by omega, List.range'_succ] at hr
    injection hr with h1 h2
    subst h1
    refine wpAny_bind (wpAny_seqItems hD rfl ?_)
    dsimp only
    refine bm_if_false (by rw [show (Bytes.Kind.bytes == Bytes.Kind.bytearray) = false from rfl, Bool.false_or, List.any_map, List.any_eq_false]; intro x _; exact Bool.false_ne_true) ?_
    have hx : (bs.map fun x => Value.bytes x.1 x.2).toArray.getD i0 Value.none = Value.bytes (bs[i0]'hlt).1 (bs[i0]'hlt).2 := by
      rw [Array.getD_eq_getD_getElem?]; simp [hlt]
    rw [hx]
    refine wpAny_bind (wpAny_holding (tbq_bytes ?_))
    dsimp only
    refine wpAny_bind (wpAny_seqItems hD rfl ?_)
    dsimp only
    refine bm_if_false (by simp) (wpAny_pure ?_)
    refine ⟨i0 + 1, hlt, by rw [h2]; first | rfl | (congr 1; omega), ?_, rfl⟩
    have ht : bs.take (i0 + 1) = bs.take i0 ++ [bs[i0]'hlt] := by rw [List.take_add_one, List.getElem?_eq_getElem hlt]; rfl
    refine Prod.ext ?_ ?_ <;> dsimp only <;> rw [ht, List.map_append] <;> simp [-List.map_take]
  case fin =>
    rintro b s' ⟨i, hi, hr, rfl, rfl⟩
    have hlt : i = bs.length := by
      rcases Nat.lt_or_ge i bs.length with h | h
      · rw [show bs.length - i = (bs.length - i - 1) + 1 by omega, List.range'_succ] at hr; (first | (replace hr := hr.inv; obtain rfl := hr) | (replace hr := hr.inv; obtain ⟨_, rfl⟩ := hr) | cases hr)
      · omega
    subst hlt
    rw [List.take_length]
    dsimp only
    refine wpAny_bind (wpAny_of_eq (a := sep) rfl ?_)
    refine bm_if_false (by simpa using hl) ?_
    refine wpAny_bind ?_
    show wpAny _ _ (mkBytes _) _ _ _
    refine wpAny_mkBytes ?_ (by simpa using hl2)
    refine wpAny_bind (wpAny_holding (wpAny_point ?_))
    have lg : ∀ (l : List (Array UInt8 × Tok)) (keep : List Value) (s : Shared) (Q : Unit → Shared → Prop), Q () s → wpAny (model prog w) A.in1 (Bytes.joinLetGo (l.map fun x => (Value.bytes x.1 x.2, none)) keep) Q (fun e s' => R (.error e) s') s := by
      intro l
      induction l with
      | nil => intro keep s Q h; exact wpAny_pure h
      | cons x l ih =>
        intro keep s Q h
        rw [List.map_cons]
        unfold Bytes.joinLetGo
        dsimp only
        exact wpAny_bind (wpAny_letGo (ih _ _ _ h))
    refine wpAny_bind (lg _ _ _ _ ?_)
    exact wpAny_pure ⟨_, rfl, hR _ _⟩
  · simp
  · simp
end
section
variable {c : Cx} {σ : List AO} {m : Nm} {K : PV → List AO → Prop} {Kn : Nm → List AO → Prop} {Kr : PV → List AO → Prop} {X : List AO → Prop}
noncomputable def toB (i : Int) : UInt8 := i.toNat.toUInt8
theorem WC_bytesL {n : Nat} {ns : List Int} (e : σ[n]? = some (.list (ns.map .int))) (hr : ∀ n ∈ ns, 0 ≤ n ∧ n < 256) (hz : ns.length ≤ 100000) (h : K (.bytes (ns.map toB)) σ) : WC c (.type "bytes") [.loc n] σ m K X := by
  intro T R s vs st rs Q E q ex
  replace rs := rs.inv; obtain ⟨_, _, rfl, r1, r2⟩ := rs
  (first | (replace r2 := r2.inv; obtain rfl := r2) | (replace r2 := r2.inv; obtain ⟨_, rfl⟩ := r2) | cases r2)
  obtain ⟨a, vs, k, rfl, _, ha, hr'⟩ := listAt st e r1
  refine call_bytes_ints (isListOf ha) hr'.ints hr (by rw [hr'.length, List.length_map]; exact Nat.le_trans hz (by decide)) st.ok.hh fun h' t k hk => ?_
  exact q _ _ T R σ _ (Gr.refl _ _) (st.grow hk) (.bytes _ _) h
theorem WC_bytesN {n : Int} (h0 : 0 ≤ n) (h1 : n ≤ 100000) (h : K (.bytes (List.replicate n.toNat 0)) σ) : WC c (.type "bytes") [.int n] σ m K X := by
  intro T R s vs st rs Q E q ex
  replace rs := rs.inv; obtain ⟨_, _, rfl, r1, r2⟩ := rs
  (first | (replace r2 := r2.inv; obtain rfl := r2) | (replace r2 := r2.inv; obtain ⟨_, rfl⟩ := r2) | cases r2); (first | (replace r1 := r1.inv; obtain rfl := r1) | (replace r1 := r1.inv; obtain ⟨_, rfl⟩ := r1) | cases r1)
  refine bytes_int h0 h1 fun t' k => ?_
  rw [← List.toArray_replicate]
  exact q _ _ T R σ _ (Gr.refl _ _) (st.tok _) (.bytes _ _) h
theorem WC_bytesBa {n : Nat} {b : List UInt8} (e : σ[n]? = some (.ba b)) (hz : b.length ≤ 100000) (h : K (.bytes b) σ) : WC c (.type "bytes") [.loc n] σ m K X := by
  intro T R s vs st rs Q E q ex
  replace rs := rs.inv; obtain ⟨_, _, rfl, r1, r2⟩ := rs
  (first | (replace r2 := r2.inv; obtain rfl := r2) | (replace r2 := r2.inv; obtain ⟨_, rfl⟩ := r2) | cases r2)
  obtain ⟨a, rfl, _, ha⟩ := baAt st e r1
  exact bytes_ba ha hz fun t' k => q _ _ T R σ _ (Gr.refl _ _) (st.tok _) (.bytes _ _) h
end
end Nv
end
section
open PySem PySem.W PySem.Calls PyProof.Rows PyProof.V PySem.Spec PySem.Builtin
namespace Nv
theorem type_bytes_join : typeOf (.builtin "bytes.join") = pure (.type "method_descriptor") := by show builtinType _ = _; rw [builtinType_eq_fast]; kernel_rfl
theorem meets_join1 (sep : Array UInt8) (t : Tok) (D : Addr) (b : Array UInt8) (u : Tok) (n : Nat) :
    Meets (Builtin.«bytes.join» ⟨[.bytes sep t, .ref D], []⟩) (fun _ R s => s.heap.get? D = some (W.listOf #[Value.bytes b u] n) ∧ ∀ t' k, R (.ok (.ret (.bytes b t'))) { s with toks := k }) := by
  refine .of_wp fun prog w A R s hS => ?_
  obtain ⟨hD, hR⟩ := hS
  have hT : s.TypeIs (.ref D) "list" := ⟨_, hD, rfl⟩
  unfold Builtin.«bytes.join» Bytes.joinM
  refine wpAny_bind (wpAny_of_eq (a := (.bytes sep t, .ref D)) rfl ?_)
  dsimp only
  refine bm_if_true (by decide) ?_
  refine wpAny_bind ?_
  unfold Bytes.joinItems
  refine wpAny_bind (wpAny_typeOf hT ?_)
  refine bm_if_true (by decide) ?_
  refine wpAny_pure ?_
  refine wpAny_bind (wpAny_seqItems hD rfl ?_)
  dsimp only
  refine bm_if_true (by decide) ?_
  show wpAny _ _ (typeOf (Value.bytes b u) >>= _) _ _ _
  refine wpAny_bind (wpAny_typeOf (typeIs_bytes s b u) ?_)
  refine bm_if_true (by decide) ?_
  exact wpAny_bind (wpAny_rule (wpAny_pure ⟨_, rfl, hR _ _⟩))
theorem joined_nil : ∀ l : List (List UInt8), Bytes.joined #[] (l.map List.toArray) = l.flatten.toArray := by
  intro l
  unfold Bytes.joined
  have key : ∀ (l : List (List UInt8)) (k : Nat) (acc : Array UInt8), ((l.map List.toArray).zipIdx k).foldl (fun out (p, i) => (if i > 0 then out ++ #[] else out) ++ p) acc = acc ++ l.flatten.toArray := by
    intro l
    induction l with
    | nil => intro k acc; simp
    | cons x l ih =>
      intro k acc
      rw [List.map_cons, List.zipIdx_cons, List.foldl_cons, ih]
      have : (if k > 0 then acc ++ #[] else acc) = acc := by split <;> simp
      simp only [this, List.flatten_cons]
      simp [Array.append_assoc]
  have := key l 0 #[]
  simpa using this
section
variable {c : Cx} {σ : List AO} {m : Nm} {K : PV → List AO → Prop} {X : List AO → Prop}
theorem VRs.bytesOf {T μ} {bs : List (List UInt8)} : ∀ {vs : List Value}, VRs T μ vs (bs.map .bytes) → ∃ ts : List (Array UInt8 × Tok), vs = ts.map (fun x => Value.bytes x.1 x.2) ∧ ts.map (·.1) = bs.map List.toArray := by
  induction bs with
  | nil => intro vs h; cases h; exact ⟨[], rfl, rfl⟩
  | cons b bs ih =>
    intro vs h
    cases h with
    | cons r1 r2 =>
      obtain ⟨ts, e1, e2⟩ := ih r2
      (first | (replace r1 := r1.inv; obtain rfl := r1) | (replace r1 := r1.inv; obtain ⟨_, rfl⟩ := r1) | cases r1)
      rename_i t
      exact ⟨(b.toArray, t) :: ts, congrArg (_ :: ·) e1, congrArg (_ :: ·) e2⟩
theorem foldl_sizes : ∀ (bs : List (List UInt8)) (k : Nat), (bs.map List.toArray).foldl (fun x1 x2 => x1 + x2.size) k = k + bs.flatten.length
  | [], k => rfl
  | b :: bs, k => by rw [List.map_cons, List.foldl_cons, foldl_sizes bs, List.flatten_cons, List.length_append, List.size_toArray]; omega
theorem WM_join {KM : Value → List PV → List AO → Prop} (h : KM (.builtin "bytes.join") [.bytes []] σ) : WM c (.bytes []) "join" σ m KM X := by
  intro T R s v pl st r Q E q ex
  have r0 := r
  (first | (replace r := r.inv; obtain rfl := r) | (replace r := r.inv; obtain ⟨_, rfl⟩ := r) | cases r)
  obtain ⟨⟨ga, h1, h2⟩, h3⟩ := FB.plainAttrs_bytes
  exact getMethod_value (typeIs_bytes _ _ _) (fun a e => nomatch e) h1 h2 h3 slot_bytes_join.lookup type_bytes_join (q _ _ _ T R σ s (Gr.refl _ _) st (.cons r0 .nil) h)
theorem WC_join {n : Nat} {bs : List (List UInt8)} (e : σ[n]? = some (.list (bs.map .bytes))) (hz : bs.flatten.length ≤ 100000) (h : K (.bytes bs.flatten) σ) : WC c (.builtin "bytes.join") [.bytes [], .loc n] σ m K X := by
  intro T R s vs st rs Q E q ex
  replace rs := rs.inv; obtain ⟨_, _, rfl, r1, r2⟩ := rs
  replace r2 := r2.inv; obtain ⟨_, _, rfl, r2, r3⟩ := r2
  (first | (replace r3 := r3.inv; obtain rfl := r3) | (replace r3 := r3.inv; obtain ⟨_, rfl⟩ := r3) | cases r3); (first | (replace r1 := r1.inv; obtain rfl := r1) | (replace r1 := r1.inv; obtain ⟨_, rfl⟩ := r1) | cases r1)
  obtain ⟨D, vs, k, rfl, _, hD, hr⟩ := listAt st e r2
  obtain ⟨ts, rfl, et⟩ := hr.bytesOf
  have hlen : ts.length = bs.length := by have := congrArg List.length et; simpa using this
  have fin : ∀ t' k', Q (.bytes bs.flatten.toArray t') { s with toks := k' } := fun t' k' => q _ _ T R σ _ (Gr.refl _ _) (st.tok _) (.bytes _ _) h
  by_cases h1 : ts.length = 1
  · obtain ⟨x, rfl⟩ : ∃ x, ts = [x] := by
      rcases ts with _ | ⟨x, _ | ⟨y, r⟩⟩
      · cases h1
      · exact ⟨x, rfl⟩
      · cases h1
    obtain ⟨b, rfl⟩ : ∃ b, bs = [b] := by
      rcases bs with _ | ⟨x, _ | ⟨y, r⟩⟩
      · cases hlen
      · exact ⟨x, rfl⟩
      · cases hlen
    simp only [List.map_cons, List.map_nil, List.cons.injEq, and_true] at et
    obtain ⟨x1, x2⟩ := x
    simp only at et
    subst et
    refine call_meets slot_bytes_join (typeIs_bytes _ _ _) entry_bytes_join (args_bytes_join _ _) (meets_join1 _ _ D _ x2 k) ⟨hD, fun t' k' => ?_⟩
    have := fin t' k'
    simpa using this
  · refine call_meets slot_bytes_join (typeIs_bytes _ _ _) entry_bytes_join (args_bytes_join _ _) (meets_join _ _ D ts k h1 ?_ ?_) ⟨hD, fun t' k' => ?_⟩
    · rw [List.foldl_toArray, et, foldl_sizes]
      simp only [Bytes.tooLong, decide_eq_false_iff_not, List.size_toArray, List.length_nil, Nat.zero_mul, Nat.zero_add, gt_iff_lt, Nat.not_lt]
      exact Nat.le_trans hz (by decide)
    · rw [et]
      show (Bytes.joined #[] _).size ≤ _
      rw [joined_nil, List.size_toArray]
      exact Nat.le_trans hz (by decide)
    · rw [et]
      show Q (.bytes (Bytes.joined #[] _) _) _
      rw [joined_nil]
      exact fin t' k'
end
end Nv
end
section
open PySem PySem.W PySem.Calls PyProof.Rows PyProof.V PySem.Spec
namespace Nv
theorem updF_at {d : Addr} {o : Obj} : ∀ {l : Led} {i : Nat}, (l.map (·.1)).Nodup → l[i]? = some (d, o) → UpdF d o l (fun o' => l.set i (d, o'))
  | [], _, _, h => by simp at h
  | p :: r, 0, nd, h => by
    simp only [List.getElem?_cons_zero, Option.some.injEq] at h
    subst h
    rw [List.map_cons, List.nodup_cons] at nd
    exact .head fun q hq e => nd.1 (e ▸ List.mem_map_of_mem (f := (·.1)) hq)
  | p :: r, i + 1, nd, h => by
    simp only [List.getElem?_cons_succ] at h
    rw [List.map_cons, List.nodup_cons] at nd
    exact .tail (fun e => nd.1 (by rw [e]; exact List.mem_map_of_mem (f := (·.1)) (List.mem_of_getElem? h))) (updF_at nd.2 h)
theorem updF_R {T R : Led} {d : Addr} {o : Obj} {i : Nat} (nd : ((T ++ R).map (·.1)).Nodup) (h : R[i]? = some (d, o)) : UpdF d o (T ++ R) (fun o' => T ++ R.set i (d, o')) := by
  have e : (T ++ R)[T.length + i]? = some (d, o) := by rw [List.getElem?_append_right (Nat.le_add_right _ _), Nat.add_sub_cancel_left]; exact h
  have := updF_at nd e
  have e2 : (fun o' => (T ++ R).set (T.length + i) (d, o')) = fun o' => T ++ R.set i (d, o') := by
    funext o'
    rw [List.set_append_right _ _ (Nat.le_add_right _ _), Nat.add_sub_cancel_left]
  rwa [e2] at this
noncomputable def CapsOk (c : Cx) : List (Str × Addr) → List (Str × Nat) → Prop
  | [], [] => True
  | (x, a) :: cs, (y, n) :: ks => x = y ∧ c.env.cells.lookup x = some a ∧ c.ce.lookup x = some n ∧ CapsOk c cs ks
  | _, _ => False
theorem CapsOk.cr {c : Cx} {T R σ m s} (st : St c T R σ m s) : ∀ {cs : List (Str × Addr)} {ks : List (Str × Nat)}, CapsOk c cs ks → CR (μs R) cs ks
  | [], [], _ => .nil
  | (x, a) :: cs, (y, n) :: ks, h => by
    obtain ⟨rfl, h1, h2, h3⟩ := h
    obtain ⟨a', e1, e2⟩ := st.cel x n h2
    rw [h1] at e1; cases e1
    exact .cons e2 (CapsOk.cr st h3)
  | [], _ :: _, h => h.elim
  | _ :: _, [], h => h.elim
section
variable {c : Cx} {σ : List AO} {m : Nm} {K : PV → List AO → Prop} {X : List AO → Prop}
noncomputable abbrev noPars : Arguments := ⟨[], [], none, [], [], none, []⟩
theorem WE_lam {body : Expr} {scope : Scope} {pos : Pos} {tn : Nat} {P cc : Addr} {es : List (Nat × Nat × Str)} {cn : Str} {cs : Scope} {a : Addr} {cl clos : List (Str × Addr)} {ks : List (Str × Nat)}
    (hq : c.env = envX cn cs c.L a (.ref cc) cl) (hP : (tn, P) ∈ tabFix) (hK : codeHdIn c.K cc P = true) (e : σ[tn]? = some (.tab es)) (hcl : closureFor scope c.env = pure clos) (hc : CapsOk c clos ks)
    (h : match tabLook es pos with
      | some q => q = c.env.qual ++ "<lambda>" ∧ K (.loc σ.length) (σ ++ [.clo body scope (c.env.qual ++ "<lambda>") ks])
      | none => K (.loc σ.length) (σ.set tn (.tab (es ++ [(pos.line, pos.col, c.env.qual ++ "<lambda>")])) ++ [.clo body scope (c.env.qual ++ "<lambda>") ks])) : WE c (.Lambda noPars body scope pos) σ m K X := by
  intro T R s st Q E q ex
  refine kla_eval rfl ?_
  obtain ⟨mr, F, nr⟩ := st.fr
  have hμ := st.nso.1 _ hP
  obtain ⟨o, e1, e2, e3⟩ := st.at e hμ
  replace e3 := e3.inv; obtain ⟨_, rfl, ht⟩ := e3
  rename_i ps
  obtain ⟨t1, t2, t3⟩ := ht.look pos
  have hcr := hc.cr st
  have hqual : c.env.qual = cn ++ ".<locals>." := by rw [hq]
  cases hl : tabLook es pos with
  | some q0 =>
    rw [hl] at h
    obtain ⟨rfl, h⟩ := h
    obtain ⟨c', oc, f1, f2, f3, f4⟩ := t3 _ hl
    rw [hq]
    refine kla_hit F st.news st.ok.top (codeHd_of_K st.ok.kin hK) rfl (List.mem_append_right _ (List.mem_of_getElem? e1)) t1 f1 (by rw [← hq]; exact hcl) fun f ctv h' tk F' N' hlt => ?_
    have S1 := st.ofFN nr (tk := tk) F' fun p hp => N' p (.tail _ hp)
    have hf := N' _ (.head _)
    have hn : f ∉ (T ++ R).map (·.1) := fun hm => by
      obtain ⟨p, hp, e⟩ := List.mem_map.mp hm
      exact Nat.ne_of_lt (hlt p hp) e
    have g0 : ∀ o, Gr T (μs R) T (μs (R ++ [(f, o)])) := fun o => ⟨fun p hp => hp, by unfold μs; rw [List.map_append]; exact List.prefix_append _ _⟩
    obtain ⟨S2, g2, hn2⟩ := S1.addR' (a := f) (ao := .clo body scope (c.env.qual ++ "<lambda>") ks) ⟨hn, hf.2⟩ hf.1 (by
      refine .clo (cs := clos) (c := c') (oc := oc) rfl rfl rfl (by rw [hq]) rfl (hcr.mono (g0 _)) rfl rfl ⟨rfl, rfl, rfl⟩ rfl f2 f3 (fun h e => ?_)
      exact f4 h e)
    exact q _ _ _ _ _ _ g2 S2 (.loc hn2) h
  | none =>
    rw [hl] at h
    rw [hq]
    refine kla_nest F st.news st.ok.top (codeHd_of_K st.ok.kin hK) rfl (updF_R st.nd e1) t1 (t2 hl) (by rw [← hq]; exact hcl) fun f c' oc vs t ctv h' tk F' N' hd hv hlt hlt2 => ?_
    have hcn := N' (c', oc) (.tail _ (.head _))
    have hfn := N' _ (.head _)
    have hnc : c' ∉ (T ++ R).map (·.1) := fun hm => by
      obtain ⟨p, hp, e⟩ := List.mem_map.mp hm
      exact Nat.ne_of_lt (hlt p hp) e
    have hnf : f ∉ (T ++ R).map (·.1) := fun hm => by
      obtain ⟨p, hp, e⟩ := List.mem_map.mp hm
      exact Nat.ne_of_lt (Nat.lt_trans (hlt p hp) hlt2) e
    have hvol := not_volatile hd hv
    have hrec : ∀ h : Heap, h.get? c' = some oc → h.CodeRec (.ref c') (c.env.qual ++ "<lambda>") := fun h e => ⟨c', oc, vs, t, rfl, e, hd, by rw [hqual]; exact hv⟩
    have S0 : St c T R σ m s := st
    have hμ2 := μs_set (o' := tabObj (ps ++ #[rawInt pos.line, rawInt pos.col, .ref c'])) e1
    have gT : Gr T (μs R) ((c', oc) :: T) (μs R) := ⟨fun p hp => List.mem_cons_of_mem _ hp, List.prefix_refl _⟩
    have hor : OR ((c', oc) :: T) (μs R) (tabObj (ps ++ #[rawInt pos.line, rawInt pos.col, .ref c'])) (.tab (es ++ [(pos.line, pos.col, c.env.qual ++ "<lambda>")])) := by
      refine .tab ?_
      rw [Array.toList_append]
      exact (ht.imp fun p hp _ => List.mem_cons_of_mem _ hp).append (.cons (.head _) hvol hrec .nil)
    have S1 : St c ((c', oc) :: T) (R.set tn (P, tabObj (ps ++ #[rawInt pos.line, rawInt pos.col, .ref c']))) (σ.set tn (.tab (es ++ [(pos.line, pos.col, c.env.qual ++ "<lambda>")]))) m { s with heap := h', toks := tk } := by
      refine ⟨st.ok, ⟨mr, F', by rw [hμ2]; exact nr.mono gT⟩, fun p hp => ?_, ?_, ?_, fun i p ao' x1 x2 => ?_, ?_, ?_, ?_⟩
      · rcases List.mem_append.mp hp with hp | hp
        · rcases List.mem_cons.mp hp with rfl | hp
          · exact hcn
          · exact N' p (.tail _ (.tail _ (List.mem_append_left _ hp)))
        · exact N' p (.tail _ (.tail _ (List.mem_append_right _ hp)))
      · rw [List.map_append]
        show (((c', oc) :: T).map (·.1) ++ μs (R.set tn _)).Nodup
        rw [hμ2, List.map_cons, List.cons_append, List.nodup_cons]
        have := st.nd
        rw [List.map_append] at this hnc
        exact ⟨hnc, this⟩
      · rw [List.length_set, List.length_set, st.len]
      · rw [hμ2]
        rw [List.getElem?_set] at x1 x2
        split at x1
        · rename_i hin
          rw [if_pos hin] at x2
          split at x1
          · cases x1
            split at x2
            · cases x2; exact hor
            · cases x2
          · cases x1
        · rename_i hin
          rw [if_neg hin] at x2
          exact (st.objs i p ao' x1 x2).mono gT
      · show ({ s with heap := h', toks := tk } : Shared) = _
        rw [st.sh]
      · rw [hμ2]; exact st.cel
      · rw [hμ2]; exact st.nso.mono gT
    have hnf2 : f ∉ ((((c', oc) :: T) ++ R.set tn (P, tabObj (ps ++ #[rawInt pos.line, rawInt pos.col, .ref c']))).map (·.1)) := by
      rw [List.map_append]
      show f ∉ (((c', oc) :: T).map (·.1) ++ μs (R.set tn _))
      rw [hμ2, List.map_cons, List.cons_append, List.mem_cons]
      rintro (rfl | hm)
      · exact Nat.lt_irrefl _ hlt2
      · rw [List.map_append] at hnf; exact hnf hm
    have g0 : ∀ o, Gr T (μs R) ((c', oc) :: T) (μs (R.set tn (P, tabObj (ps ++ #[rawInt pos.line, rawInt pos.col, .ref c'])) ++ [(f, o)])) := fun o => ⟨fun p hp => List.mem_cons_of_mem _ hp, by unfold μs; rw [List.map_append]; show μs R <+: μs (R.set tn _) ++ _; rw [hμ2]; exact List.prefix_append _ _⟩
    obtain ⟨S2, g2, hn2⟩ := S1.addR' (a := f) (ao := .clo body scope (c.env.qual ++ "<lambda>") ks) ⟨hnf2, hfn.2⟩ hfn.1 (by
      refine .clo (cs := clos) (c := c') (oc := oc) rfl rfl rfl (by rw [hq]) rfl (hcr.mono (g0 _)) rfl rfl ⟨rfl, rfl, rfl⟩ rfl (.head _) hvol hrec)
    rw [List.length_set] at hn2
    exact q _ _ _ _ _ _ (g0 _) S2 (.loc hn2) h
end
end Nv
end
section
open PySem PySem.W PySem.Calls PyProof.Rows PyProof.V PySem.Spec
namespace Nv
section
variable {prog : Program} {w : World} {A : Around} {R : Result → Shared → Prop} {s : Shared}
theorem codeP_expr {e : Expr} {env : Env} (h : wpP (model prog w) (A.deeper env) (eval e env) (fun v s' => R (.ok (.ret v)) s')
      (fun e' s' => wpP (model prog w) (A.deeper env) (leaving env e') (fun _ s'' => R (.error e') s'') (fun e'' s'' => R (.error e'') s'') s') s) : codeP (model prog w) A (.expr e env) R s := by
  refine codeP_of_tree rfl ?_
  show wpP _ (A.deeper env) (do point; ret (← (eval e env).onRaise (leaving env))) _ _ s
  exact wpP_bind (wpP_of (wpAny_point (wpP_bind (wpP_onRaise (wpP_mono h (fun v s' h' => wpP_pure h') fun _ _ h' => h')))))
theorem codeP_call_expr {a : Addr} {args : Args} {o : Obj} {fd : FuncData} {body : Expr} (hroom : A.depth < recursionLimit) (ho : s.heap.get? a = some o)
    (hd' : o.data = .func fd) (hco : fd.scope.isCoroutine = false) (hgen : fd.scope.isGenerator = false) (hbody : fd.body = .expr body) (hcd : s.heap.CodeRec fd.code fd.qualname)
    (h : wpAny (model prog w) A.in1 (bindArgs fd args) (fun binds s₁ => wpAny (model prog w) A.in1 (newFunctionEnv fd.scope fd.globals fd.closure binds (fd.qualname ++ ".<locals>.") (some a) fd.code none fd.builtins)
        (fun env s₂ => s₂.heap.NoLimit ∧ codeP (model prog w) A (.expr body env) R s₂) (fun e s' => R (.error e) s') s₁) (fun e s' => R (.error e) s') s) : codeP (model prog w) A (.call (.ref a) args) R s := by
  refine codeP_of_tree rfl (wpP_of ?_)
  show wpAny _ A.in1 (callAny (.ref a) args) _ _ s
  simp only [callAny]
  refine wpAny_bind (wpAny_load ho ?_)
  obtain ⟨c, oc, vs, tq, hc, hoc, hdc, hq⟩ := hcd
  simp only [hd', callFunction, hco, hgen, hbody, hc]
  rw [hc] at h
  refine wpAny_bind (m := field (.ref c) 1) (wpAny_field hoc hdc hq (wpAny_bind (wpAny_pure ?_)))
  exact wpAny_bind (wpAny_mono h (fun binds s₁ h₁ => wpAny_bind (wpAny_mono h₁ (fun env s₂ h₂ => wpAny_bind (wpAny_enterFrame h₂.1 hroom (wpAny_pure (And.intro rfl h₂.2)))) fun _ _ h' => h')) fun _ _ h' => h')
end
theorem bindArgs_none {fd : FuncData} (h : fd.params = noPars ∧ fd.defaults = .none ∧ fd.kwdefaults = .none) : bindArgs fd ⟨[], []⟩ = pure [] := by
  cases fd
  simp only at h
  obtain ⟨h1, h2, h3⟩ := h
  subst h1 h2 h3
  rfl
theorem CR.look {μ : List Addr} : ∀ {cs : List (Str × Addr)} {ks : List (Str × Nat)}, CR μ cs ks → ∀ x n, ks.lookup x = some n → ∃ a, cs.lookup x = some a ∧ μ[n]? = some a
  | _, _, .nil, x, n, h => by cases h
  | _, _, .cons (x := y) (a := a) (n := k) h r, x, n, e => by
    rw [List.lookup_cons] at e ⊢
    by_cases hxy : x = y
    · subst hxy
      simp only [beq_self_eq_true, Option.some.injEq] at e ⊢
      subst e
      exact ⟨a, rfl, h⟩
    · rw [beq_eq_false_iff_ne.mpr hxy] at e ⊢
      exact CR.look r x n e
inductive ExcR (c : Cx) (m : List (Str × PV)) (T₀ : Led) (μ₀ : List Addr) (σ : List AO) (v : Value) (s' : Shared) : Prop
  | mk (e : Addr) (T R : Led) (mr : Str → Option Value) (h : Heap) (he : v = .ref e) (g : Gr T₀ μ₀ T (μs R)) (n : NR T (μs R) mr m) (F : Fr c.g c.L h mr) (S : StA c T R σ) (hs : s' = { c.s₀ with heap := s'.heap, toks := s'.toks })
    (hu : h.UpToSlots s'.heap) (hr : RaisedW c.base h (c.fenv :: c.outer) e (.ref c.xc) (T ++ R) s'.heap) : ExcR c m T₀ μ₀ σ v s'
theorem ExcR.s {c m T₀ μ₀ σ v s'} (h : ExcR c m T₀ μ₀ σ v s') : ExcS c m T₀ μ₀ σ v s' := by
  obtain ⟨e, T, R, mr, hh, a1, a2, a3, a4, a5, a6, a7, a8⟩ := h
  exact ⟨e, T, R, mr, hh, a1, a2, a3, a4, a5, a6, .inr ⟨a7, a8⟩⟩
theorem ExcR.mono {c m T₀ μ₀ T₁ μ₁ σ v s'} (g : Gr T₀ μ₀ T₁ μ₁) (h : ExcR c m T₁ μ₁ σ v s') : ExcR c m T₀ μ₀ σ v s' := by
  obtain ⟨e, T, R, mr, hh, a1, a2, a3, a4, a5, a6, a7, a8⟩ := h
  exact ⟨e, T, R, mr, hh, a1, g.trans a2, a3, a4, a5, a6, a7, a8⟩
noncomputable abbrev ExRK (c : Cx) (T R : Led) (m : Nm) (X : List AO → Prop) (E : Value → Shared → Prop) : Prop :=
  ∀ e s' σ' g', Tn c g' → ExcR (c.re g') m T (μs R) σ' e s' → X σ' → E e s'
section
variable {G : Gl} {c : Cx} {σ : List AO} {m : Nm} {K : PV → List AO → Prop} {X : List AO → Prop}
theorem clo_P {n : Nat} {body : Expr} {scope : Scope} {qual : Str} {ks : List (Str × Nat)} {N : Nat} (std : c.Std G) (room : Room c (N + 1)) (hgd : c.A.guards = some [])
    (e : σ[n]? = some (.clo body scope qual ks)) (hcell : ∀ x ∈ scope.names, x.2 ≠ .cell) (hco : scope.isCoroutine = false) (hgen : scope.isGenerator = false) (hk : scope.kind = .function)
    (h : ∀ (P : Px) (f : Addr) (cdv : Value) (cl : List (Str × Addr)), (G.at P ⟨qual, scope, f, cdv⟩ cl ks).Ok → Room (G.at P ⟨qual, scope, f, cdv⟩ cl ks) N → (G.at P ⟨qual, scope, f, cdv⟩ cl ks).A.guards = some [] → WEP (G.at P ⟨qual, scope, f, cdv⟩ cl ks) body σ [] K X)
    {T R : Led} {s : Shared} {v : Value} (st : St c T R σ m s) (r : VR T (μs R) v (.loc n)) {Q E : Value → Shared → Prop} (q : OkK c T R m K Q) (ex : ExRK c T R m X E) : wpP (model c.prog c.w) c.A (call v []) Q E s := by
  replace r := r.inv; obtain ⟨_, rfl, hr⟩ := r
  rename_i f
  obtain ⟨o, e1, e2, e3⟩ := st.at e hr
  cases e3 with
  | clo d1 d2 d3 d4 d5 d6 d7 d8 d9 d10 d11 d12 d13 =>
  rename_i fd cl c' oc
  obtain ⟨mr, F, nr⟩ := st.fr
  have ok := st.ok
  obtain ⟨FG, BG, stg, _⟩ := groundX (R := fun r s' => match r with | .ok (.ret v) => Q v s' | .ok _ => False | .error e => E e s') ok.below F st.news ok.hA ok.hf ok.hk
  have hcrec := d13 s.heap (st.tupGet d11)
  have hc' : fd.code = .ref c' := d10
  refine wpP_call (codeP_call_expr (by have := room.d; show c.A.depth < 1000; omega) e2 d1 (by rw [d3]; exact hco) (by rw [d3]; exact hgen) d2 (by rw [hc', d4]; exact hcrec) ?_)
  have hbind : bindArgs fd ⟨[], []⟩ = pure [] := bindArgs_none d9
  rw [hbind]
  refine wpAny_pure ?_
  rw [d3, d4, d5, d7, d8, hc']
  refine wpAny_newFunctionEnv hcell (fun y hy => by cases hy) (fun h₁ hns hsb => ⟨((ok.top.nolimit).keeps F.keep).fresh _ hsb, ?_⟩) hk
  have hk₁ : ∀ b o, s.heap.get? b = some o → h₁.get? b = some o := fun b o e => hsb.extBut b o (Nat.ne_of_lt (Heap.lt_size e)) (Heap.get?_push_of_some _ e)
  show codeP _ _ (.expr body (envX qual scope s.heap.objs.size f (.ref c') cl)) _ _
  have heq := std.at_eq (hideAll s.heap ((T ++ R).map (·.1))) s.heap.objs.size ⟨qual, scope, f, .ref c'⟩ cl ks
  have hok : (G.at (c.px (hideAll s.heap ((T ++ R).map (·.1))) s.heap.objs.size) ⟨qual, scope, f, .ref c'⟩ cl ks).Ok := by
    rw [heq]
    exact ⟨BG, ok.kin.keeps stg, ok.top.keeps stg, Around.frames_deeper BG.stack, rfl, hk, ok.hh, rfl, rfl, hk, ok.kinB, ok.topB⟩
  have hroom : Room (G.at (c.px (hideAll s.heap ((T ++ R).map (·.1))) s.heap.objs.size) ⟨qual, scope, f, .ref c'⟩ cl ks) N := by
    rw [heq]
    exact ⟨by have := room.d; show c.A.depth + 1 + N < 1000; omega, by have := room.u; show c.A.units + 3 + 10 * N < 9800; omega⟩
  have hS : St (G.at (c.px (hideAll s.heap ((T ++ R).map (·.1))) s.heap.objs.size) ⟨qual, scope, f, .ref c'⟩ cl ks) T R σ [] { s with heap := h₁, toks := s.toks + 0 } := by
    refine ⟨hok, ⟨fun y => ([] : List (Str × Value)).reverse.lookup y, ?_, fun x pv e => by cases e⟩, ?_, st.nd, st.len, st.objs, ?_, ?_, ?_⟩
    · rw [heq]; exact ⟨hns, fun b o e => hk₁ b o (of_hideAll _ e), Nat.le_of_eq (hideAll_size _ _)⟩
    · rw [heq]
      exact fun p hp => ⟨hk₁ _ _ (st.news p hp).1, Nat.ne_of_lt (Heap.lt_size (st.news p hp).1), hideAll_none _ (List.mem_map_of_mem hp)⟩
    · rw [heq]
      show ({ s with heap := h₁, toks := s.toks + 0 } : Shared) = _
      rw [st.sh]; rfl
    · rw [heq]; exact fun x k e => d6.look x k e
    · rw [heq]; exact ⟨st.nso.1, rfl⟩
  have hw := h (c.px (hideAll s.heap ((T ++ R).map (·.1))) s.heap.objs.size) f (.ref c') cl hok hroom hgd T R _ hS
  have goal := hw (fun v s' => Q v s')
    (fun e s' => wpP (model c.prog c.w) (c.A.deeper (envX qual scope s.heap.objs.size f (.ref c') cl)) (leaving (envX qual scope s.heap.objs.size f (.ref c') cl) e) (fun _ s'' => E e s'') (fun e' s'' => E e' s'') s')
    (fun v pv T' R' σ' s' g2 tn gr S' r k => by
      rw [heq] at S' tn
      obtain ⟨mr', F2, _⟩ := S'.fr
      obtain ⟨g1, t1, F3, N3, B3⟩ := turn_back ok.below F st.news ok.hf tn F2 S'.news
      exact q v pv T' R' σ' s' g1 t1 gr ⟨ok.re B3, ⟨mr, F3, nr.mono gr⟩, N3, S'.nd, S'.len, S'.objs, S'.sh, fun x k e => let ⟨a, h1, h2⟩ := st.cel x k e; ⟨a, h1, gr.get h2⟩, st.nso.mono gr⟩ r k)
    (fun e s' σ' g2 tn hx hX => by
      rw [heq] at hx tn
      refine wpP_of <| leaveW (c := c.inn g2 s.heap.objs.size qual scope f (.ref c') cl ks) hx rfl rfl fun e1 T1 R1 h' he1 g1 S1 R2 U => ?_
      refine ex e _ σ' _ (Tn.refl c) ⟨e1, T1, R1, mr, _, he1, g1, nr.mono g1, FG, ⟨ok, S1.nd, S1.len, S1.objs, fun x k e => let ⟨a, h1, h2⟩ := st.cel x k e; ⟨a, h1, g1.get h2⟩, ?_⟩, ?_, (upToSlots_turn tn).trans U, R2.turn tn⟩ hX
      · exact st.nso.mono g1
      · obtain ⟨e2, T2, R2', mr2, hh2, _, _, _, _, _, hs2, _⟩ := hx
        show ({ s' with heap := h' } : Shared) = _
        rw [hs2]; rfl)
  rw [heq] at goal
  exact codeP_expr (R := fun r s' => match r with | .ok (.ret v) => Q v s' | .ok _ => False | .error e => E e s') goal
end
end Nv
end
section
open PySem PySem.W PySem.Calls PyProof.Rows PyProof.V PySem.Spec
namespace Nv
noncomputable abbrev argsTup (rest : List Value) : Obj := { cls := .type "tuple", data := .seq rest.toArray }
noncomputable abbrev excObj (C t : Addr) : Obj := { cls := .ref C, data := .fields #[.ref t, .none, .none, .none, .bool false, .none] }
structure XCl where
  nm : Str
  q : Str
  N : Addr
  bs : List Value
  bm : List Value
  hdct : Bool
  sn : List Str
  sub : List Value
  ab : Bool
  col : Option Bool
  dd : Option Addr
  k0 : Option Value
  k1 : Option Value
  k2 : Option Value
  k3 : Option Value
  k5 : Option Value
noncomputable abbrev XCl.obj (y : XCl) (C : Addr) (newId : String) : Obj := excClassObj y.nm y.q C y.N y.bs y.bm y.hdct y.sn y.sub y.ab y.col y.dd y.k0 y.k1 y.k2 y.k3 y.k5 newId
section
variable {y : XCl} {C : Addr} {Bn newId inN : String} {bmN : List Value}
variable {h : Heap} {g : Array GenState} {d : Drawn} {t : Nat} {os : OsState}
theorem check_newE {M : Model} {A : Around} {E : Value → Shared → Prop} (Fn : ExcBaseFacts Bn newId inN bmN) (hB : y.bm.contains (.type Bn) = true) {rest : List Value} {Q : Unit → Shared → Prop} (hC : h.get? C = some (y.obj C newId))
    (hq : Q () ⟨h, g, d, t, os⟩) : wpAny M A (checkBuiltinCall newId ⟨.ref C :: rest, []⟩) Q E ⟨h, g, d, t, os⟩ := by
  have hcont : (Value.ref C :: y.bm).contains (.type Bn) = true := by rw [List.contains_cons, hB, Bool.or_true]
  have hstar := Fn.noStar
  unfold checkBuiltinCall
  dsimp only
  rw [Fn.newKind, Fn.newSplit, Fn.newRow]
  dsimp only
  repeat (first | refine wpAny_loadPart_at hC ?_ | (refine wpAny_isSubtype_exc hC ?_; rw [hcont]) | refine wpAny_staticBase_exc hC ?_ | refine wpAny_madeBy_exc hC ?_ | rw [bne_self_eq_false] | rw [if_neg Bool.false_ne_true] | wp_step)
  exact hq
variable {prog : Program} {w : World} {A : Around} {R : Result → Shared → Prop}
theorem exc_newE (Fn : ExcBaseFacts Bn newId inN bmN) (hB : y.bm.contains (.type Bn) = true) (hA : y.bm.contains (.type "AttributeError") = false) (hN : y.bm.contains (.type "NameError") = false) {rest : List Value} (hC : h.get? C = some (y.obj C newId))
    (hq : R (.ok (.ret (.ref (h.objs.size + 1)))) ⟨(h.push (argsTup rest)).push (excObj C h.objs.size), g, d, t, os⟩) (hrest : rest.length ≤ sizeLine) :
    codeAny (model prog w) A (.builtin newId ⟨.ref C :: rest, []⟩) R ⟨h, g, d, t, os⟩ := by
  have hends := Fn.ends
  have hcB : (Value.ref C :: y.bm).contains (.type Bn) = true := by rw [List.contains_cons, hB, Bool.or_true]
  have hcA : (Value.ref C :: y.bm).contains (.type "AttributeError") = false := by rw [List.contains_cons, hA]; rfl
  have hcN : (Value.ref C :: y.bm).contains (.type "NameError") = false := by rw [List.contains_cons, hN]; rfl
  refine codeAny_builtinAt Fn.entry ?_
  unfold Builtin.«BaseException.__new__»
  refine PySem.wpAt_bind ?_
  show PySem.wpAt _ _ _ (stack >>= _) _ _ _
  refine PySem.wpAt_bind (PySem.wpAt_stack fun p below => PySem.wpAt_of_wpAny ?_)
  wp_walk
  refine PySem.wpAt_of_wpAny ?_
  rw [Fn.owner]
  repeat (first | with_reducible refine wpAny_madeHere_exc Fn.canon hC ?_ | with_reducible refine wpAny_loadPart_at hC ?_ | (with_reducible refine wpAny_isSubtype_exc hC ?_; first | rw [hcB] | rw [hcA] | rw [hcN]) | wp_step)
  show R _ _
  rw [Heap.size_push]
  exact hq
theorem exc_make {rest : List Value} {fI : Addr} (Fn : ExcBaseFacts Bn newId inN bmN) (hB : y.bm.contains (.type Bn) = true) (hA : y.bm.contains (.type "AttributeError") = false) (hN : y.bm.contains (.type "NameError") = false) (hC : h.get? C = some (y.obj C newId))
    (hi : Looks (model prog w) h (typeLookup (.ref C) "__init__") (some (.ref fI))) (hb : ∀ self, Looks (model prog w) h (bindSpecial (.ref fI) self) (.ref fI, [self])) (hrest : rest.length ≤ sizeLine)
    (hq : codeAny (model prog w) (A.under (.builtin "type.__call__" ⟨.ref C :: rest, []⟩)) (.call (.ref fI) ⟨.ref (h.objs.size + 1) :: rest, []⟩) (InitBack (h.objs.size + 1) R) ⟨(h.push (argsTup rest)).push (excObj C h.objs.size), g, d, t, os⟩) :
    codeAny (model prog w) A (.call (.ref C) ⟨rest, []⟩) R ⟨h, g, d, t, os⟩ := by
  have f1 := tc_lookup
  have f2 := tc_bind (.ref C)
  have hT : (⟨h, g, d, t, os⟩ : Shared).TypeIs (.ref C) "type" := ⟨_, hC, rfl⟩
  refine codeAny_of_tree ?_
  show wpAny _ _ (callAny (.ref C) _) _ _ _
  repeat (any_goals (first | assumption | with_reducible refine wpAny_loadPart_at hC ?_ | wp_step))
  refine ⟨rfl, ?_⟩
  refine codeAny_call_builtin_at (Code.quiet_builtin _ (by decide +kernel)) entry_typeCall (wpAny_check_type_call_sub hC ?_)
  repeat (first | with_reducible refine wpAny_loadPart_at hC ?_ | with_reducible refine wpAny_madeBy_exc hC ?_ | wp_step)
  refine codeAny_call_builtin_code (Code.quiet_builtin _ Fn.quiet) (check_newE Fn hB hC ?_)
  refine exc_newE Fn hB hA hN hC ?_ hrest
  show wpAny _ _ _ _ _ _
  have k : ∀ b o, h.get? b = some o → ((h.push (argsTup rest)).push (excObj C h.objs.size)).get? b = some o := fun b o e => Heap.get?_push_of_some _ (Heap.get?_push_of_some _ e)
  have hC₁ := k _ _ hC
  have hget : ((h.push (argsTup rest)).push (excObj C h.objs.size)).get? (h.objs.size + 1) = some (excObj C h.objs.size) := by heap_get
  have hcC : (Value.ref C :: y.bm).contains (.ref C) = true := by simp
  unfold isInstance
  repeat (first | with_reducible refine wpAny_loadPart_at hget ?_ | (with_reducible refine wpAny_isSubtype_exc hC₁ ?_; rw [hcC]) | wp_step)
  show wpAny (model prog w) (A.under (.builtin "type.__call__" ⟨.ref C :: rest, []⟩)) (isSubtype (.ref C) (.ref C)) _ _ ⟨(h.push (argsTup rest)).push (excObj C h.objs.size), g, d, t, os⟩
  refine wpAny_isSubtype_exc hC₁ ?_
  rw [hcC]
  dsimp only
  rw [if_neg (by decide)]
  refine wpAny_bind (wpAny_holding ?_)
  unfold callSpecial?
  have t1 : Looks (model prog w) ((h.push (argsTup rest)).push (excObj C h.objs.size)) (typeOf (.ref (h.objs.size + 1))) (.ref C) := (Looks.ld hget).andThen .now
  have sp : Looks (model prog w) ((h.push (argsTup rest)).push (excObj C h.objs.size)) (specialOf (.ref (h.objs.size + 1)) "__init__") (some (.ref fI)) := t1.andThen (hi.keeps k)
  refine wpAny_bind (sp.here ?_)
  dsimp only
  refine wpAny_holding (wpAny_bind (((hb (.ref (h.objs.size + 1))).keeps k).here ?_))
  dsimp only
  refine wpAny_bind (wpAny_call (codeAny_mono hq fun r s' z => ?_))
  rcases r with e | (v | _ | _ | _) <;> first | exact z | exact z.elim | skip
  obtain ⟨rfl, z⟩ := z
  exact wpAny_pure (wpAny_pure z)
end
open PySem.Builtin PySem.Builtin.ObjectAttr in
section
variable {prog : Program} {w : World} {A : Around} {E : Value → Shared → Prop} {K : Frag} {C x t : Addr} {s : Shared} {Q : Unit → Shared → Prop}
noncomputable def excTail (l : List Value) : Bool := l == [.type "Exception", .type "BaseException", .type "object"]
noncomputable def ownsThen (p : List Value → Bool) : List Value → Bool
  | .ref _ :: r => ownsThen p r
  | l => p l
theorem refuse_exc (self : Value) {l : List Value} (e : ownsThen excTail l = true) : refuseLoop self "__setattr__" l = pure () ∧ l.contains (.type "object") = true := by
  induction l with
  | nil => cases e
  | cons v r ih =>
    have no : (v :: r == [Value.type "Exception", .type "BaseException", .type "object"]) = true → refuseLoop self "__setattr__" (v :: r) = pure () ∧ (v :: r).contains (.type "object") = true := fun e => by
      rw [beq_iff_eq.mp e]
      exact ⟨PySem.F.store_Exception.passes self, by decide⟩
    cases v with
    | ref c => exact ⟨by rw [refuseLoop_ref]; exact (ih e).1, by rw [List.contains_cons, (ih e).2, Bool.or_true]⟩
    | _ => exact no e
noncomputable def excSets (K : Frag) (C : Addr) (name : Str) : Bool := findIn K (.ref C) "__setattr__" == some (some (.builtin "object.__setattr__")) && takerIn K C name == some none && hasDictIn K C && (clsIn K C).any fun cd => ownsThen excTail cd.mro
end
section
variable {prog : Program} {w : World} {A : Around} {E : Value → Shared → Prop} {K : Frag} {C x t : Addr} {s : Shared} {Q : Unit → Shared → Prop}
open PySem.Builtin PySem.Builtin.ObjectAttr
theorem exc_set {name : Str} {v : Value} (X : K.In s.heap) (hx : s.heap.get? x = some (excObj C t)) (hk : excSets K C name = true)
    (q : ∀ h' tk' dx, h'.get? x = some { excObj C t with dict := some dx } → (∀ b o, b ≠ x → s.heap.get? b = some o → h'.get? b = some o) → Q () { s with heap := h', toks := tk' }) :
    wpAny (model prog w) A (setAttr (.ref x) name v) Q E s := by
  simp only [excSets, Bool.and_eq_true, beq_iff_eq] at hk
  obtain ⟨⟨⟨k1, k2⟩, k3⟩, k4⟩ := hk
  obtain ⟨cd, hc, ho⟩ := any_some k4
  obtain ⟨hpass, hmem⟩ := refuse_exc (.ref x) ho
  obtain ⟨hp, g, d, tk, os⟩ := s
  obtain ⟨cd', hc', hdct⟩ := any_some k3
  rw [hc] at hc'; cases hc'
  have I : InstAt hp x (excObj C t) C none := ⟨hx, rfl, rfl, trivial⟩
  refine set_plain X I k1 ?_
  have SF := PySem.F.store_object
  have ne : cd.mro.isEmpty = false := by cases q : cd.mro with | nil => rw [q] at hmem; cases hmem | cons _ _ => rfl
  have sub : Looks (model prog w) hp (isInstance (.ref x) (.type "object")) true := I.type.andThen (looks_mroIn X (by unfold mroIn; rw [hc, Option.bind_some, if_neg (by rw [ne]; decide), hmem]))
  refine codeAny_call_builtin SF.slot.plain SF.entry (@check_slot (model prog w) _ _ _ "object.__setattr__" "object" "__setattr__" (.ref x) [.str name tk, v] [] _ SF.kind SF.split sub (SF.args (.ref x) (.str name tk) v) ?_)
  obtain ⟨attr, ha, hr⟩ := Option.bind_eq_some_iff.mp k2
  have hm : Looks (model prog w) hp (mroOf (.ref C)) cd.mro := (looks_clsIn X hc).andThen .now
  have L3 : Looks (model prog w) hp (storeTaker? attr) none := by
    cases attr with
    | none => exact .now
    | some a =>
      obtain ⟨b, hb, hbn⟩ := Option.map_eq_some_iff.mp hr
      refine (looks_takesIn X hb).andThen ?_
      cases b
      · exact .now
      · cases hbn
  rw [osa_eq, refuse_eq]
  refine wpAny_bind (wpAny_bind (I.type.at (wpAny_bind (hm.at ?_))))
  rw [hpass]
  refine wpAny_pure (wpAny_bind (I.type.at (wpAny_bind ((looks_findIn X ha).at (wpAny_bind (L3.at ?_))))))
  have hcl : Looks (model prog w) hp (classData C) cd := looks_clsIn X hc
  refine wpAny_bind (wpAny_pure (wpAny_bind (wpAny_bind (wpAny_loadPart hx (wpAny_bind (hcl.here ?_))))))
  rw [hdct]
  have hxs : x ≠ hp.objs.size := Nat.ne_of_lt (Heap.lt_size hx)
  have hx₁ : (hp.push emptyDict).get? x = some (excObj C t) := Heap.get?_push_of_some _ hx
  refine wpAny_bind (wpAny_alloc' (wpAny_bind (wpAny_update' hx₁ (wpAny_pure ?_))))
  have hx₂ : ((hp.push emptyDict).update x fun o => { o with dict := some hp.objs.size }).get? x = some { excObj C t with dict := some hp.objs.size } := Heap.get?_update_self _ hx₁ rfl
  have hgd : ((hp.push emptyDict).update x fun o => { o with dict := some hp.objs.size }).get? hp.objs.size = some emptyDict := (Heap.get?_update_ne _ _ _ _ hxs.symm).trans (Heap.get?_push_at rfl rfl)
  have hnd : ((hp.push emptyDict).update x fun o => { o with dict := some hp.objs.size }).Ns hp.objs.size (fun _ => none) := ⟨_, #[], _, hgd, rfl, fun e he => absurd he (by simp), fun _ => rfl⟩
  show wpAny _ _ (storeInDict hp.objs.size (.str name tk) name v) _ _ _
  unfold storeInDict newKeyGuard
  refine wpAny_bind (wpAny_pure (wpAny_bind (wpAny_nsSet1 (Heap.Ns1.of_empty hnd) fun h' hn' hs => ?_)))
  obtain ⟨oD, esD, epD, hoD, hdD, hcD⟩ := hn'.count (Within.cons name v Within.nil)
  refine wpAny_bind (wpAny_lookBehind hoD (by rw [hdD]; exact pastItsLine_dict (Nat.le_trans hcD (by rw [List.length_cons, List.length_nil, sizeLine_eq]; omega))) ?_)
  refine wpAny_pure ?_
  exact q h' _ hp.objs.size ((hs.2 x hxs).trans hx₂) fun b o hb e => (hs.2 b (Nat.ne_of_lt (Heap.lt_size e))).trans ((Heap.get?_update_ne _ _ _ _ hb).trans (Heap.get?_push_of_some _ e))
end
section
variable {G : Gl} {c : Cx} {σ : List AO} {m : Nm} {Kn : Nm → List AO → Prop} {Kr : PV → List AO → Prop} {X : List AO → Prop}
structure ExcOk (K : Frag) (C fI : Addr) : Prop where
  obj : ∃ y : XCl, K.lookup C = some (y.obj C "Exception.__new__") ∧ y.bm.contains (.type "BaseException") = true ∧ y.bm.contains (.type "Exception") = true ∧ y.bm.contains (.type "AttributeError") = false ∧ y.bm.contains (.type "NameError") = false
  init : findIn K (.ref C) "__init__" = some (some (.ref fI))
  fn : typeIn K (.ref fI) = some (.type "function")
  keep : keepOk K (.ref C) = true
theorem exc_cls {K : Frag} {C fI : Addr} {h : Heap} (x : ExcOk K C fI) (X : K.In h) : ∃ y : XCl,
    h.get? C = some (y.obj C "Exception.__new__") ∧ y.bm.contains (.type "BaseException") = true ∧ y.bm.contains (.type "Exception") = true ∧ y.bm.contains (.type "AttributeError") = false ∧ y.bm.contains (.type "NameError") = false :=
  x.obj.imp fun _ h => ⟨X _ _ h.1, h.2⟩
theorem exc_call {fI : Addr} {name qual msg : Str} {params : Arguments} {scope : Scope} {dV kV doc pm cdv ct oc : Value} {an od : Option Addr} {osl : Array (Option Value)} {p1 p2 p3 p4 : Pos}
    (std : c.Std G) (room : Room c 2) (xo : ∀ P, ExcOk (G.Kw P) G.xc fI) (hsets : ∀ P, excSets (G.Kw P) G.xc msg = true)
    (ho : ∀ P, (G.Kw P).lookup fI = some ⟨oc, od, .func (fnOf name qual params [.Assign [.Attribute (.Name "self" p1) msg p2] (.Name "message" p3) p4] scope dV kV doc pm an cdv ct), osl⟩) (hcd : ∀ P, codeIn (G.Kw P) cdv qual = true)
    (hb : BindN (fnOf name qual params [.Assign [.Attribute (.Name "self" p1) msg p2] (.Name "message" p3) p4] scope dV kV doc pm an cdv ct) ["self", "message"] ["self", "message"] [])
    (hloc : ((["self", "message"] : List Str).all fun y => scope.names.lookup y == some .local) = true)
    (hcell : ∀ x ∈ scope.names, x.2 ≠ .cell) (hco : scope.isCoroutine = false) (hgen : scope.isGenerator = false) (hk : scope.kind = .function)
    (hsw : ∀ env, swapsWith (.Name "message" p3) (some (.Attribute (.Name "self" p1) msg p2)) p4.line env = pure false)
    {T R : Led} {s : Shared} (st : St c T R σ m s) {v : Value} {Q E : Value → Shared → Prop}
    (q : ∀ e t dx s', s'.heap.get? e = some { excObj G.xc t with dict := some dx } → c.K.In s'.heap → ExcS c m T (μs R) σ (.ref e) s' → Q (.ref e) s') :
    wpAny (model c.prog c.w) c.A (call (.ref G.xc) [v]) Q E s := by
  obtain ⟨mr, F, nr⟩ := st.fr
  have ok := st.ok
  obtain ⟨y, hC, hb1, hb2, hb3, hb4⟩ := exc_cls (xo c.w.params) (by rw [← std.K]; exact st.kin)
  have ssh := st.sh
  obtain ⟨hp, g, d, t, os⟩ := s
  refine wpAny_call (exc_make (fI := fI) PySem.F.excBase_Exception hb2 hb3 hb4 hC (looks_findIn st.kin (by rw [std.K]; exact (xo _).init)) (fun self => bind_fn st.kin self (by rw [std.K]; exact (xo _).fn)) (show 1 ≤ sizeLine by decide) ?_)
  have kk : ∀ b o, hp.get? b = some o → ((hp.push (argsTup [v])).push (excObj G.xc hp.objs.size)).get? b = some o := fun b o e => Heap.get?_push_of_some _ (Heap.get?_push_of_some _ e)
  have st1 : St c T R σ m ⟨(hp.push (argsTup [v])).push (excObj G.xc hp.objs.size), g, d, t, os⟩ := st.grow kk
  obtain ⟨mr1, F1, nr1⟩ := st1.fr
  have hget : ((hp.push (argsTup [v])).push (excObj G.xc hp.objs.size)).get? (hp.objs.size + 1) = some (excObj G.xc hp.objs.size) := by heap_get
  have hne : hp.get? (hp.objs.size + 1) = none := Heap.get?_none_of_le (Nat.le_succ _)
  obtain ⟨nid, neL, neg⟩ := st.freshL hne
  generalize he : hp.objs.size + 1 = e at *
  have N1 : News c.g c.L ((hp.push (argsTup [v])).push (excObj G.xc hp.objs.size)) ((e, excObj G.xc hp.objs.size) :: (T ++ R)) := by
    intro p hp'
    rcases List.mem_cons.mp hp' with rfl | hp'
    · exact ⟨hget, neL, neg⟩
    · exact st1.news p hp'
  refine callX_plain (cl := []) (fo := ⟨oc, od, .func (fnOf name qual params _ scope dV kV doc pm an cdv ct), osl⟩) (binds := [("self", .ref e), ("message", v)]) ok.below F1 N1 ok.top.nolimit ok.hA ok.hf ok.hk ((st1.kin) _ _ (by rw [std.K]; exact ho _)) rfl (codeRec_of st1.kin (by rw [std.K]; exact hcd _)) (by have := room.d; show c.A.depth + 1 < 1000; omega)
    (BindsTo.of_eq (by have := hb.all [.ref e, v] rfl; simpa using this)) (fun y hy => ?_) (fun g' L' h₁ FG F' N' B' stg hlt => ?_) hcell hco hgen hk
  · have : y.1 ∈ (["self", "message"] : List Str) := by
      rcases List.mem_cons.mp hy with rfl | hy
      · exact .head _
      · rw [List.mem_singleton.mp hy]; exact .tail _ (.head _)
    have := List.all_eq_true.mp hloc y.1 this
    exact beq_iff_eq.mp this
  have hL' : e ≠ L' := Nat.ne_of_lt (hlt (e, excObj G.xc hp.objs.size) (.head _))
  have hge := (N' (e, excObj G.xc hp.objs.size) (.head _)).2.2
  refine wpAny_execs_cons (plainObj_wpAny_Assign_Attribute (hs := hsw _) (wpAny_Name (wpAny_loadName_local hk ?_ F'.ns rfl (wpAny_Name (wpAny_loadName_local hk ?_ F'.ns rfl (exc_set (K := c.K) ((ok.kin.keeps stg).keeps F'.keep) (N' _ (.head _)).1 (by rw [std.K]; exact hsets _) fun h' tk' dx x1 x2 => ?_)) (by decide))) (by decide)))
  · exact beq_iff_eq.mp (List.all_eq_true.mp hloc "message" (.tail _ (.head _)))
  · exact beq_iff_eq.mp (List.all_eq_true.mp hloc "self" (.head _))
  refine wpAny_execs_nil ?_
  obtain ⟨oF, esF, epF, hoF, rF⟩ := F'.ns
  have F2 : Fr g' L' h' (fun y => List.lookup y ([("self", .ref e), ("message", v)] : List (Str × Value)).reverse) := ⟨⟨oF, esF, epF, x2 _ _ hL'.symm hoF, rF⟩, fun b o q => x2 _ _ (fun z => by rw [z, hge] at q; cases q) (F'.keep b o q), F'.above⟩
  have N2 : News g' L' h' ((e, { excObj G.xc hp.objs.size with dict := some dx }) :: (T ++ R)) := by
    intro p hm
    rcases List.mem_cons.mp hm with rfl | hm
    · exact ⟨x1, hL', hge⟩
    · have := N' p (.tail _ hm)
      exact ⟨x2 _ _ (fun z => nid (z ▸ List.mem_map_of_mem (f := (·.1)) hm)) this.1, this.2⟩
  refine leaveK_ F2 N2 fun F3 N3 => ⟨rfl, ?_⟩
  refine q e _ dx _ x1 (ok.kin.keeps F3.keep) ?_
  have F4 : Fr c.g c.L (h'.hide e) mr1 := by
    obtain ⟨oL, es, ep, hL, rL⟩ := F3.ns
    exact ⟨⟨oL, es, ep, (Heap.hide_ne h' neL.symm).trans hL, rL⟩, fun b o q => (Heap.hide_ne h' (fun z => by rw [z, neg] at q; cases q)).trans (F3.keep b o q), F3.above⟩
  refine ⟨e, T, R, mr1, h'.hide e, rfl, Gr.refl _ _, nr1, F4, st.a, ?_, .inl ⟨fun p hm => ?_, fun b o q => Heap.of_hide q, Heap.hide_self _ _, _, _, x1, by rw [std.xc], rfl⟩⟩
  · simp only [Shared.mk.injEq] at ssh
    obtain ⟨_, e1, e2, _, e3⟩ := ssh
    subst e1 e2 e3
    rfl
  · have := N3 p (.tail _ hm)
    have hz : p.1 ≠ e := fun z => nid (by rw [← z]; exact List.mem_map_of_mem (f := (·.1)) hm)
    exact ⟨(Heap.hide_ne h' hz).trans this.1, this.2⟩
theorem raiseStmt_own {M : Model} {A : Around} {E : Value → Shared → Prop} {env : Env} {C : Addr} {x : Sem Value} {Q : Flow → Shared → Prop} {s : Shared} (hh : A.handled = none)
    (h : wpAny M A x (fun v s₁ => ∃ e t dx K fI, v = .ref e ∧ ExcOk K C fI ∧ K.In s₁.heap ∧ s₁.heap.get? e = some { excObj C t with dict := some dx } ∧ E (.ref e) s₁) E s) :
    wpAny M A (raiseStmt env (some x) none) Q E s := by
  unfold raiseStmt
  refine wpAny_bind (wpAny_mono h (fun v s₁ h₁ => ?_) fun _ _ x => x)
  obtain ⟨e, t, dx, K, fI, rfl, xo, X, he, hE⟩ := h₁
  obtain ⟨y, hC, hb1, _⟩ := exc_cls xo X
  have hcB : (Value.ref C :: y.bm).contains (.type "BaseException") = true := by rw [List.contains_cons, hb1, Bool.or_true]
  obtain ⟨hp, g, d, tk, os⟩ := s₁
  repeat (first | with_reducible refine wpAny_loadPart_at he ?_ | with_reducible refine wpAny_loadPart_at hC ?_ | (with_reducible refine wpAny_isSubtype_exc hC ?_; rw [hcB]) | wp_step)
  exact wpAny_raiseNew_none hh hE
theorem WS1_raise {fI : Addr} {name qual msg x : Str} {params : Arguments} {scope : Scope} {dV kV doc pm cdv ct oc : Value} {an od : Option Addr} {osl : Array (Option Value)} {p1 p2 p3 p4 np cpos pos : Pos} {arg : Expr}
    (std : c.Std G) (room : Room c 2) (xo : ∀ P, ExcOk (G.Kw P) G.xc fI) (hsets : ∀ P, excSets (G.Kw P) G.xc msg = true)
    (ho : ∀ P, (G.Kw P).lookup fI = some ⟨oc, od, .func (fnOf name qual params [.Assign [.Attribute (.Name "self" p1) msg p2] (.Name "message" p3) p4] scope dV kV doc pm an cdv ct), osl⟩) (hcd : ∀ P, codeIn (G.Kw P) cdv qual = true)
    (hb : BindN (fnOf name qual params [.Assign [.Attribute (.Name "self" p1) msg p2] (.Name "message" p3) p4] scope dV kV doc pm an cdv ct) ["self", "message"] ["self", "message"] [])
    (hloc : ((["self", "message"] : List Str).all fun y => scope.names.lookup y == some .local) = true)
    (hcell : ∀ x ∈ scope.names, x.2 ≠ .cell) (hco : scope.isCoroutine = false) (hgen : scope.isGenerator = false) (hk : scope.kind = .function)
    (hsw : ∀ env, swapsWith (.Name "message" p3) (some (.Attribute (.Name "self" p1) msg p2)) p4.line env = pure false)
    (hx : c.env.kindOf x = some .globalImplicit) (e : nsIn c.K mainGlobals x = some (some (.ref G.xc)))
    (h : WL c cpos [arg] σ m (fun as σ' => as.length = 1 ∧ X σ') X) (hd : (x == ("__debug__" : Str)) = false := by decide)
    (hc : ∀ env, eval (.Call (.Name x np) [arg] [] cpos) env = (do callWith cpos (← eval (.Name x np) env) [] (backTo cpos (starEach [arg] env)) (backToKw cpos (keywordEach [] env))) := by intro _; rfl)
    (he : ∀ env, starEach [arg] env = (false, eval arg env) :: starEach [] env := by intro _; rfl) : WS1 c (.Raise (some (.Call (.Name x np) [arg] [] cpos)) none pos) σ m Kn Kr X := by
  intro T R s st Q E q1 q2 ex
  rw [arm_exec_Raise]
  refine wpAny_bind (wpAny_standAt ?_)
  show wpAny _ _ (raiseStmt c.env (some (do let v ← eval (.Call (.Name x np) [arg] [] cpos) c.env; standAt pos; pure v)) none) _ _ _
  refine raiseStmt_own (C := G.xc) st.ok.hh ?_
  refine wpAny_bind (Call_ (he := hc _) (global_ (v := .ref G.xc) st hx e ?_ hd))
  have h' := h T R s st
  unfold RunL at h'
  rw [he] at h' ⊢
  refine callWith_of (P := c.K.In) rfl (keeps_ok (by rw [std.K]; exact (xo _).keep)) (evalArgs_plain (h' _ _ (fun vs l T1 R1 σ1 s1 g1 S1 rs k => ⟨S1.kin, ?_⟩) (fun e' s' σ' hx hX => ex e' m s' σ' hx hX)))
  obtain ⟨hl, hX⟩ := k
  have hvl : vs.length = 1 := rs.length.trans hl
  obtain ⟨v, rfl⟩ := List.length_eq_one_iff.mp hvl
  refine exc_call std room xo hsets ho hcd hb hloc hcell hco hgen hk hsw S1 (fun e t dx s' x1 x2 x3 => ?_)
  exact wpAny_bind (wpAny_standAt (wpAny_pure ⟨e, t, dx, G.Kw c.w.params, fI, rfl, xo _, by rw [← std.K]; exact x2, x1, ex _ m _ σ1 (x3.mono g1) hX⟩))
end
end Nv
end
section
open PySem PySem.W PySem.Calls PyProof.Rows PyProof.V PySem.Spec
namespace Nv
section
variable {c : Cx}
theorem ground_at {G B h₅ : Heap} {m : Str → Option Value} (ok : c.Ok) (F : Fr c.g c.L G m) (hBG : ∀ b o, G.get? b = some o → b ∉ (c.fenv :: c.outer).filterMap (·.frame) → B.get? b = some o) (hBh : B.StaysIn h₅) (hsm : G.UpToSlots h₅) :
    ∃ g', Tn c g' ∧ Fr g' c.L h₅ m ∧ Below c.A₀ c.base c.outer g' := by
  have K := ok.below
  obtain ⟨T, S⟩ := kts_turn_at (h := h₅) (fs := c.outer.filterMap (·.frame)) (g := c.g)
    (fun b hb => by
      obtain ⟨_, o, ho, _⟩ := K.frames.mem hb
      exact ⟨o, ho⟩)
    (fun b o e nm => hBh b o (hBG b o (F.keep b o e) (fun hm => by
      rcases mem_frames ok hm with z | z
      · rw [z, kts_self F] at e
        cases e
      · exact nm z)))
    (fun b o e hm => by
      obtain ⟨_, o', ho', hd⟩ := K.frames.mem hm
      rw [e] at ho'
      cases ho'
      exact hsm b o (F.keep b o e) hd)
  refine ⟨_, T, ⟨hsm.ns F.ns, S, by rw [T.size]; exact F.above⟩, ⟨K.stack, fun b o e => T.other b o (K.stays b o e) (fun hm => by
    rw [(K.frames.mem hm).1] at e
    cases e), K.frames.of_keeps fun b o e _ => ?_⟩⟩
  obtain ⟨sl, hs⟩ := T.up e
  exact ⟨_, hs, rfl⟩
variable {σ : List AO} {m : Nm} {Kn : Nm → List AO → Prop} {Kr : PV → List AO → Prop} {X : List AO → Prop}
theorem caught_W {G : Gl} {fI : Addr} {T R : Led} {s' : Shared} {v : Value} {x : Str} {np pos rpos cp : Pos} {ck : _} {rest : List ExceptHandler} {Q : Flow → Shared → Prop} {E : Value → Shared → Prop}
    (ok : c.Ok) (std : c.Std G) (xo : ∀ P, ExcOk (G.Kw P) G.xc fI) (hx : ExcR c m T (μs R) σ v s') (kx : c.env.kindOf x = some .globalImplicit) (e : nsIn c.K mainGlobals x = some (some (.ref G.xc))) (henv : c.env = c.fenv)
    (q : ∀ T' R' s'' g', Tn c g' → Gr T (μs R) T' (μs R') → St (c.re g') T' R' σ m s'' → Q (.ret (.bool true)) s'') (hd : (x == ("__debug__" : Str)) = false := by decide) :
    wpAny (model c.prog c.w) c.A (noteFrame v c.env) (fun _ s₂ => wpAny (model c.prog c.w) c.A (setFlight v none) (fun _ s₃ =>
      wpAny (model c.prog c.w) c.A (handleBy v c.env (.ExceptHandler (some (.Name x np)) none [.Return (some (.Constant (.bool true) ck cp)) rpos] pos :: rest)) Q E s₃) E s₂) E s' := by
  obtain ⟨e', T', R', mr, h, rfl, gr, nr, F, S, hs, hsm, B, a0, hB, hBG, hl, hfl⟩ := hx
  have hL : B.get? c.L = none := by
    obtain ⟨_, ⟨L', _, hf, hn', _⟩, _⟩ := hfl.2.2.1
    obtain rfl : c.L = L' := Option.some.inj (ok.hf.symm.trans hf)
    exact hn'
  rw [henv]
  rw [henv] at kx
  have ek := ok.ek
  rw [henv] at ek
  have gl := ok.glob
  rw [henv] at gl
  refine wpAny_looks_onW ok.hA ok.hf hfl fun h₄ hheld₄ hsm₄ => ?_
  refine wpAny_landsW hheld₄ fun h₅ hheld hsm₅' => ?_
  have hsm₅ := hsm₄.trans hsm₅'
  obtain ⟨g₅, T₅, F₅, K₅⟩ := ground_at ok F hBG hheld.1 (hsm.trans hsm₅)
  have ok₅ : (c.re g₅).Ok := ok.re K₅
  obtain ⟨ob, hob, hobc⟩ := hheld.there
  obtain ⟨y, hC, hb1, _⟩ := exc_cls (h := g₅) (xo c.w.params) (by rw [← std.K]; exact ok₅.kin)
  have hC₅ := F₅.keep _ _ hC
  refine wpAny_handleBy_cons (codeAny_handlers_test (Name_function_global ek kx (loadGlobal_global (by rw [gl]; exact ok₅.top.g.keeps F₅.keep) (mg_of ok₅.kin ok₅.top.g e) ?_) hd)) (by intro q; cases q)
  rw [← std.xc] at hC₅ ⊢
  refine wpAny_excMatches_sub_self hC₅ hob hobc hb1 (codeAny_handlers_suite ?_)
  refine lands_againW hheld fun h₆ hfl₆ hsm₆ => ?_
  obtain ⟨g₆, T₆, F₆, K₆⟩ := ground_at ok F hBG hfl₆.1 ((hsm.trans hsm₅).trans hsm₆)
  have Nl : News g₆ c.L h₆ (T' ++ R') := fun q hq => ⟨hfl₆.1 _ _ (hl q hq).1, (fun z => by have := (hl q hq).1; rw [z, hL] at this; cases this), T₆.none_ _ (kts_none F.keep (hl q hq).2.2)⟩
  have S₆ : St (c.re g₆) T' R' σ m { s' with heap := h₆ } := ⟨ok.re K₆, ⟨mr, F₆, nr⟩, Nl, S.nd, S.len, S.objs, by rw [hs]; rfl, S.cel, S.nso⟩
  refine wpAny_execs_cons (wpAny_Return_some (Constant_bool ?_))
  exact q T' R' _ g₆ T₆ gr S₆
theorem looks_clo {M : Model} {h : Heap} {f : Addr} {o : Obj} {fd : FuncData} (ho : h.get? f = some o) (hd : o.data = .func fd) : Looks M h (keeperOf (.ref f)) .frame := by
  refine (Looks.ld (part := none) ho).andThen ?_
  rw [hd]
  exact .now
theorem call_name_P {G : Gl} {n N : Nat} {body : Expr} {scope : Scope} {qual x0 : Str} {ks : List (Str × Nat)} {np0 cpos : Pos} {K : PV → List AO → Prop} (std : c.Std G) (room : Room c (N + 1)) (hgd : c.A.guards = some [])
    (hn : c.ns = none) (hk0 : c.env.kindOf x0 = some .local) (hm : m.lookup x0 = some (.loc n))
    (e : σ[n]? = some (.clo body scope qual ks)) (hcell : ∀ x ∈ scope.names, x.2 ≠ .cell) (hco : scope.isCoroutine = false) (hgen : scope.isGenerator = false) (hk : scope.kind = .function)
    (h : ∀ (P : Px) (f : Addr) (cdv : Value) (cl : List (Str × Addr)), (G.at P ⟨qual, scope, f, cdv⟩ cl ks).Ok → Room (G.at P ⟨qual, scope, f, cdv⟩ cl ks) N → (G.at P ⟨qual, scope, f, cdv⟩ cl ks).A.guards = some [] → WEP (G.at P ⟨qual, scope, f, cdv⟩ cl ks) body σ [] K X)
    {T R : Led} {s : Shared} (st : St c T R σ m s) {Q E : Value → Shared → Prop} (q : OkK c T R m K Q) (ex : ExRK c T R m X E)
    (hd : (x0 == ("__debug__" : Str)) = false)
    (hc : ∀ env, eval (.Call (.Name x0 np0) [] [] cpos) env = (do callWith cpos (← eval (.Name x0 np0) env) [] (backTo cpos (starEach [] env)) (backToKw cpos (keywordEach [] env)))) :
    wpP (model c.prog c.w) c.A (eval (.Call (.Name x0 np0) [] [] cpos) c.env) Q E s := by
  rw [hc]
  refine wpP_bind (wpP_of ?_)
  refine (WE_loc (K := fun pv σ' => pv = .loc n ∧ σ' = σ) (X := fun _ => False) hn hk0 hm ⟨rfl, rfl⟩ hd) T R s st _ _ (fun v pv T' R' σ' s' g S r k => ?_) (fun _ _ _ _ h => h.elim)
  obtain ⟨rfl, rfl⟩ := k
  have hr := r
  cases r with
  | loc hr' =>
  rename_i f
  obtain ⟨o, e1, e2, e3⟩ := S.at e hr'
  cases e3 with
  | clo d1 d2 d3 d4 d5 d6 d7 d8 d9 d10 d11 d12 d13 =>
  rename_i fd cl c' oc
  refine wpP_callWith (P := fun h => ∃ o fd, h.get? f = some o ∧ o.data = .func fd) rfl (fun h ⟨o, fd, h1, h2⟩ => ⟨.frame, .inl rfl, looks_clo h1 h2⟩) (wpP_of (evalArgs_nil3 ⟨⟨_, _, e2, d1⟩, ?_⟩))
  exact clo_P std room hgd e hcell hco hgen hk h S hr (fun v pv T2 R2 σ2 s2 g' t g2 S2 r2 k2 => q v pv T2 R2 σ2 s2 g' t (g.trans g2) S2 r2 k2) (fun e' s2 σ2 g' t hx hX => ex e' s2 σ2 g' t (hx.mono g) hX)
theorem WS1P_try {G : Gl} {fI : Addr} {n N : Nat} {body : Expr} {scope : Scope} {qual x0 x : Str} {ks : List (Str × Nat)} {np0 cpos epos np hpos rpos cp pos : Pos} {ck : _} {rest : List ExceptHandler} {orelse : List Stmt} (std : c.Std G) (room : Room c (N + 1)) (hgd : c.A.guards = some [])
    (hn : c.ns = none) (henv : c.env = c.fenv) (hk0 : c.env.kindOf x0 = some .local) (hm : m.lookup x0 = some (.loc n))
    (e : σ[n]? = some (.clo body scope qual ks)) (hcell : ∀ x ∈ scope.names, x.2 ≠ .cell) (hco : scope.isCoroutine = false) (hgen : scope.isGenerator = false) (hk : scope.kind = .function)
    (xo : ∀ P, ExcOk (G.Kw P) G.xc fI) (kx : c.env.kindOf x = some .globalImplicit) (ex : nsIn c.K mainGlobals x = some (some (.ref G.xc)))
    (h : ∀ (P : Px) (f : Addr) (cdv : Value) (cl : List (Str × Addr)), (G.at P ⟨qual, scope, f, cdv⟩ cl ks).Ok → Room (G.at P ⟨qual, scope, f, cdv⟩ cl ks) N → (G.at P ⟨qual, scope, f, cdv⟩ cl ks).A.guards = some [] → WEP (G.at P ⟨qual, scope, f, cdv⟩ cl ks) body σ [] (fun _ _ => False) (fun σ' => Kr (.bool true) σ'))
    (hd0 : (x0 == ("__debug__" : Str)) = false := by decide) (hd : (x == ("__debug__" : Str)) = false := by decide)
    (hc : ∀ env, eval (.Call (.Name x0 np0) [] [] cpos) env = (do callWith cpos (← eval (.Name x0 np0) env) [] (backTo cpos (starEach [] env)) (backToKw cpos (keywordEach [] env))) := by intro _; rfl)
    (hi : interactive c.env = false := by rfl) (hsw : swapsWith (.Call (.Name x0 np0) [] [] cpos) none epos.line c.env = pure false := by rfl) :
    WS1P c (.Try [.Expr (.Call (.Name x0 np0) [] [] cpos) epos] (.ExceptHandler (some (.Name x np)) none [.Return (some (.Constant (.bool true) ck cp)) rpos] hpos :: rest) orelse [] pos) σ m Kn Kr X := by
  intro T R s st Q E q1 q2 _
  refine wpP_Try (wpP_execs_cons (wpP_Expr (call_name_P (K := fun _ _ => False) (X := fun σ' => Kr (.bool true) σ') std room hgd hn hk0 hm e hcell hco hgen hk h st (fun v pv T' R' σ' s' g t g1 S' r k => k) (fun e' s' σ' g t hx hX => ?_) hd0 hc) hi hsw))
  refine wpP_of (wpAny_mono (caught_W (c := c.re g) (G := G) (Q := Q) (E := E) (by obtain ⟨_, _, _, _, _, _, _, _, _, S, _⟩ := hx; exact S.ok) ⟨std.prog, std.K, std.p, std.loose, std.xc⟩ xo hx kx ex henv (fun T' R' s'' g' t' g2 S' => q2 _ _ m T' R' σ' s'' g' (t.trans t') g2 S' (.bool true) hX) hd) (fun _ s₂ h₂ => wpP_of (wpAny_mono h₂ (fun _ s₃ h₃ => wpP_of h₃) fun _ _ x => x)) fun _ _ x => x)
end
end Nv
end
section
open PySem PySem.W PySem.Calls PyProof.Rows PyProof.V PySem.Spec PySem.SeqAt
namespace Nv
structure Wk (m₂ m : Nm) : Prop where
  h : ∀ x pv, m₂.lookup x = some pv → m.lookup x = some pv
theorem Wk.nil (m : Nm) : Wk [] m := ⟨fun x pv e => by cases e⟩
theorem Wk.cons {a : Str} {va : PV} {m₂ m : Nm} (h : m.lookup a = some va) (w : Wk m₂ m) : Wk ((a, va) :: m₂) m := ⟨fun x pv e => by
  rw [List.lookup] at e
  cases q : x == a with
  | true => rw [q] at e; cases e; rw [beq_iff_eq.mp q]; exact h
  | false => rw [q] at e; exact w.h x pv e⟩
theorem St.wk {c : Cx} {σ : List AO} {m m₂ : Nm} {T R : Led} {s : Shared} (w : Wk m₂ m) (st : St c T R σ m s) : St c T R σ m₂ s :=
  ⟨st.ok, let ⟨mr, F, nr⟩ := st.fr; ⟨mr, F, fun x pv e => nr x pv (w.h x pv e)⟩, st.news, st.nd, st.len, st.objs, st.sh, st.cel, st.nso⟩
noncomputable abbrev jTL (c : Cx) (elts : List Expr) (m : List (Str × PV)) (Kn : Nm → List AO → Prop) (pv : PV) (σ : List AO) : Prop := ∃ n l, pv = .loc n ∧ σ[n]? = some (.list l) ∧ l.length = elts.length ∧ WA c elts l σ m Kn
section
variable {c : Cx} {σ : List AO} {m : Nm} {K : PV → List AO → Prop} {Kn : Nm → List AO → Prop} {Kr : PV → List AO → Prop} {KB : Bool → List AO → Prop} {KL : List PV → List AO → Prop} {X : List AO → Prop}
theorem WS1_while {test : Expr} {body : List Stmt} {pos : Pos} (I : Nat → Nm → List AO → Prop) (n₀ : Nat) (h0 : I n₀ m σ)
    (hturn : ∀ n m' σ', I n m' σ' → ∃ m₂, Wk m₂ m' ∧ WB c test σ' m₂ (fun b σ1 => match b with
      | true => WS c body σ1 m₂ (fun m2 σ2 => ∃ k, k < n ∧ I k m2 σ2) Kr (fun _ => False)
      | false => Kn m₂ σ1) (fun _ => False)) : WS1 c (.While test body [] pos) σ m Kn Kr X := by
  intro T R s st Q E q1 q2 ex
  refine wpAny_While (codeAny_whileLoop (fun n s' => ∃ m' σ' T' R', St c T' R' σ' m' s' ∧ Gr T (μs R) T' (μs R') ∧ I n m' σ') ?_ n₀ ⟨m, σ, T, R, st, Gr.refl _ _, h0⟩)
  rintro n s' ⟨m', σ', T', R', S', g', hI⟩
  obtain ⟨m₂, w, hB⟩ := hturn n m' σ' hI
  refine hB T' R' s' (S'.wk w) _ _ (fun b T1 R1 σ1 s1 g1 S1 k => ?_) (fun _ _ _ _ h => h.elim)
  cases b with
  | false =>
    simp only [Bool.false_eq_true, if_false]
    exact wpAny_execs_nil (q1 m₂ T1 R1 σ1 s1 (g'.trans g1) S1 k)
  | true =>
    simp only [if_true]
    exact k T1 R1 s1 S1 _ _ (fun m2 T2 R2 σ2 s2 g2 S2 ⟨k', hk, hI2⟩ => ⟨k', hk, m2, σ2, T2, R2, S2, g'.trans (g1.trans g2), hI2⟩)
      (fun v pv m2 T2 R2 σ2 s2 g2 S2 r k2 => q2 v pv m2 T2 R2 σ2 s2 (g'.trans (g1.trans g2)) S2 r k2) (fun _ _ _ _ _ h => h.elim)
theorem WSb_cons {st : Stmt} {rest : List Stmt} (h : WS1 c st σ m (fun m' σ' => WSb c rest σ' m' Kn Kr X) Kr X) : WSb c (st :: rest) σ m Kn Kr X := by
  intro T R s S Q E q1 q2 ex pe
  refine wpAny_execs_cons (h T R s S _ _ (fun m' T1 R1 σ1 s1 g1 S1 k => ?_) (fun v pv m' T1 R1 σ1 s1 g1 S1 r k => q2 v pv m' T1 R1 σ1 s1 g1 S1 r k) ex)
  exact k T1 R1 s1 S1 Q E (fun m2 T2 R2 σ2 s2 g2 S2 k2 => q1 m2 T2 R2 σ2 s2 (g1.trans g2) S2 k2) (fun v pv m2 T2 R2 σ2 s2 g2 S2 r k2 => q2 v pv m2 T2 R2 σ2 s2 (g1.trans g2) S2 r k2)
    (fun e m2 s2 σ2 hx hX => ex e m2 s2 σ2 (hx.mono g1) hX) pe
theorem WSb_while {test : Expr} {body rest : List Stmt} {pos : Pos} (I : Nat → Nm → List AO → Prop) (n₀ : Nat) (h0 : I n₀ m σ)
    (hturn : ∀ n m' σ', I n m' σ' → ∃ m₂, Wk m₂ m' ∧ WB c test σ' m₂ (fun b σ1 => match b with
      | true => WS c body σ1 m₂ (fun m2 σ2 => ∃ k, k < n ∧ I k m2 σ2) Kr X
      | false => WSb c rest σ1 m₂ Kn Kr X) X) : WSb c (.While test body [] pos :: rest) σ m Kn Kr X := by
  intro T R s st Q E q1 q2 ex pe
  refine wpAny_execs_cons (wpAny_While (codeAny_whileLoop (fun n s' => ∃ m' σ' T' R', St c T' R' σ' m' s' ∧ Gr T (μs R) T' (μs R') ∧ I n m' σ') ?_ n₀ ⟨m, σ, T, R, st, Gr.refl _ _, h0⟩))
  rintro n s' ⟨m', σ', T', R', S', g', hI⟩
  obtain ⟨m₂, w, hB⟩ := hturn n m' σ' hI
  refine hB T' R' s' (S'.wk w) _ _ (fun b T1 R1 σ1 s1 g1 S1 k => ?_) (fun e s2 σ2 hx hX => pe e s2 (ex e m₂ s2 σ2 (hx.mono g') hX))
  cases b with
  | false =>
    simp only [Bool.false_eq_true, if_false]
    refine wpAny_execs_nil ?_
    exact k T1 R1 s1 S1 Q E (fun m2 T2 R2 σ2 s2 g2 S2 k2 => q1 m2 T2 R2 σ2 s2 (g'.trans (g1.trans g2)) S2 k2) (fun v pv m2 T2 R2 σ2 s2 g2 S2 r k2 => q2 v pv m2 T2 R2 σ2 s2 (g'.trans (g1.trans g2)) S2 r k2)
      (fun e m2 s2 σ2 hx hX => ex e m2 s2 σ2 (hx.mono (g'.trans g1)) hX) pe
  | true =>
    simp only [if_true]
    exact k T1 R1 s1 S1 _ _ (fun m2 T2 R2 σ2 s2 g2 S2 ⟨k', hk, hI2⟩ => ⟨k', hk, m2, σ2, T2, R2, S2, g'.trans (g1.trans g2), hI2⟩)
      (fun v pv m2 T2 R2 σ2 s2 g2 S2 r k2 => q2 v pv m2 T2 R2 σ2 s2 (g'.trans (g1.trans g2)) S2 r k2) (fun e m2 s2 σ2 hx hX => pe e s2 (ex e m2 s2 σ2 (hx.mono (g'.trans g1)) hX))
theorem draw_list {prog : Program} {w : World} {A : Around} {E : Value → Shared → Prop} {it t : Addr} {items : Array Value} (hne : t ≠ it) : ∀ (n i : Nat) (s : Shared) (Q : List Value → Shared → Prop), s.heap.IsListIter it t i → s.heap.IsList t items → i + n ≤ items.size →
    (∀ h', h'.IsListIter it t (i + n) → Heap.SameBut it s.heap h' → Q ((items.toList.drop i).take n) { s with heap := h' }) → wpAny (model prog w) A (draw (.ref it) n) Q E s
  | 0, i, s, Q, hit, _, _, hQ => by
    show wpAny _ _ (pure []) Q E s
    exact wpAny_pure (by simpa using hQ s.heap hit (Heap.SameBut.refl ..))
  | n + 1, i, s, Q, hit, ht, hle, hQ => by
    have hlt : i < items.size := by omega
    show wpAny _ _ (pyNext (.ref it) >>= _) Q E s
    refine wpAny_bind (wpAny_pyNext_list_item hit ht (x := items[i]) (by simp [hlt]) fun h₁ hit₁ hs₁ => ?_)
    refine wpAny_bind (wpAny_holding (draw_list hne n (i + 1) _ _ hit₁ (ht.at fun o e => (hs₁.2 t hne).trans e) (by omega) fun h₂ hit₂ hs₂ => wpAny_pure ?_))
    have hd : items.toList.drop i = items[i] :: items.toList.drop (i + 1) := by simp [List.drop_eq_getElem_cons, hlt]
    have := hQ h₂ (by rw [show i + (n + 1) = i + 1 + n by omega]; exact hit₂) (hs₁.trans hs₂)
    rw [hd, List.take_succ_cons] at this
    exact this
theorem unpackItems_list {prog : Program} {w : World} {A : Around} {E : Value → Shared → Prop} {s : Shared} {t : Addr} {items : Array Value} {Q : List Value → Shared → Prop} (hh : A.handled = none) (ht : s.heap.IsList t items)
    (hQ : ∀ h', Heap.ExtBut s.heap.objs.size s.heap h' → Q items.toList { s with heap := h' }) : wpAny (model prog w) A (unpackItems (.ref t) items.size none) Q E s := by
  have hlt : t ≠ s.heap.objs.size := by obtain ⟨o, ho, _⟩ := ht; exact Nat.ne_of_lt (Heap.lt_size ho)
  have htp : ∀ x, (s.heap.push x).IsList t items := fun x => ht.at fun o e => Heap.get?_push_of_some _ e
  unfold unpackItems
  refine wpAny_bind ?_
  · unfold notIterableAtAll
    refine wpAny_bind (wpAny_specialOf ht.typeIs slot_list_iter.lookup ?_)
    refine wpAny_pure ?_
    simp only [Bool.false_eq_true, if_false]
    refine wpAny_bind (wpAny_holding (wpAny_pyIter_list ht ?_))
    refine wpAny_bind (wpAny_holding (draw_list hlt items.size 0 _ _ ⟨_, Heap.get?_push_size _ rfl, rfl, rfl⟩ (htp _) (by omega) fun h₁ hit₁ hs₁ => ?_))
    have hall : List.take items.size (List.drop 0 items.toList) = items.toList := by
      rw [List.drop_zero]; exact List.take_of_length_le (by simp)
    rw [hall]
    rw [if_neg (by simp)]
    have ht₁ : h₁.IsList t items := (htp _).at fun o e => (hs₁.2 t hlt).trans e
    refine wpAny_bind (wpAny_holding (wpAny_pyNext_list_end hh hit₁ ht₁ (by simp) fun h₂ he₂ => ?_))
    simp only [Option.isSome_none, Bool.false_eq_true, if_false]
    refine wpAny_pure (hQ h₂ fun b o hb e => he₂ b o hb (hs₁.extBut b o hb (Heap.get?_push_of_some _ e)))
theorem WS1_asgTL {elts : List Expr} {k tpos pos} {e : Expr} (h : WE c e σ m (jTL c elts m Kn) X)
    (hlen : (assignEach elts c.env).length = elts.length := by rfl) (hstar : (assignEach elts c.env).findIdx? (·.1) = none := by rfl)
    (hs : swapsWithSole [.Tuple elts k tpos] e pos.line c.env = pure false := by rfl) (hw : swappedStores [.Tuple elts k tpos] e c.env = pure none := by rfl) : WS1 c (.Assign [.Tuple elts k tpos] e pos) σ m Kn Kr X := by
  intro T R s st Q E q1 q2 ex
  refine Assign_Tuple (hs := hs) (hw := hw) (h T R s st _ _ (fun v pv T1 R1 σ1 s1 g1 S1 r k => ?_) (fun e' s' σ' hx hX => ex e' m s' σ' hx hX))
  obtain ⟨n, l, rfl, e1, hl, kA⟩ := k
  obtain ⟨a, vs, k, rfl, hR, hg, hr⟩ := listAt S1 e1 r
  rw [assign_Tuple]
  refine wpAny_bind (wpAny_standAt ?_)
  unfold unpack
  have hsz : (assignEach elts c.env).length = vs.toArray.size := by rw [hlen, ← hl, List.size_toArray, hr.length]
  rw [hsz, hstar]
  refine wpAny_bind (wpAny_holding (unpackItems_list S1.ok.hh (isListOf hg) fun h' he => ?_))
  exact kA T1 R1 _ _ (S1.extBut he) hr _ _ fun m' R' σ' s' g S' k' => q1 m' T1 R' σ' s' (g1.trans g) S' k'
theorem WO_notinK {i : Int} {a : Addr} {ns : List Int} {ts : List Tok} {n : Nat} {sl} (hl : c.K.lookup a = some ⟨.type "tuple", none, .seq ((ns.zip ts).map fun x => Value.int x.1 x.2).toArray n, sl⟩) (hts : ts.length = ns.length) (h : K (.bool (!ns.contains i)) σ) :
    WO2 c (compareOp .NotIn) (.int i) (.raw (.ref a)) σ m K X := by
  intro T R s v u st r1 r2 Q E q ex
  (first | (replace r1 := r1.inv; obtain rfl := r1) | (replace r1 := r1.inv; obtain ⟨_, rfl⟩ := r1) | cases r1)
  (first | (replace r2 := r2.inv; obtain rfl := r2) | (replace r2 := r2.inv; obtain ⟨_, rfl⟩ := r2) | cases r2)
  rename_i t
  have key : ∀ {ns : List Int} {ts : List Tok}, ts.length = ns.length → (((ns.zip ts).map fun x => Value.int x.1 x.2).any (isInt i)) = ns.contains i ∧ ∀ y ∈ ((ns.zip ts).map fun x => Value.int x.1 x.2), EqAt c.A.in1 s y (.int i t) (isInt i y) := by
    intro ns
    induction ns with
    | nil => intro ts _; exact ⟨rfl, fun y hy => by cases hy⟩
    | cons n ns ih =>
      intro ts hq
      cases ts with
      | nil => cases hq
      | cons t' ts =>
        obtain ⟨i1, i2⟩ := ih (Nat.succ.inj hq)
        refine ⟨?_, fun y hy => ?_⟩
        · rw [List.zip_cons_cons, List.map_cons, List.any_cons, i1, List.contains_cons]
          congr 1
          show (n == i) = (i == n)
          exact Bool.beq_comm
        · rw [List.zip_cons_cons, List.map_cons] at hy
          rcases List.mem_cons.mp hy with rfl | hy
          · exact EqAt.int_int n _ i t
          · exact i2 y hy
  obtain ⟨k1, k2⟩ := key hts
  refine notIn_tupleAt (isInt i) ⟨_, st.kin _ _ hl, rfl, _, rfl⟩ (fun y hy => k2 y (by simpa using hy)) ?_
  have : (((ns.zip ts).map fun x => Value.int x.1 x.2).toArray.any (isInt i)) = ns.contains i := by simpa using k1
  rw [this]
  exact q _ _ T R σ s (Gr.refl _ _) st (.bool _) h
theorem WE_fmt {e : Expr} {pos : Pos} (h : WE c e σ m (fun pv σ1 => ∃ i : Int, pv = .int i ∧ i.natAbs < 2 ^ 64 ∧ ∀ y : Str, y.length ≤ 2000 → K (.str y) σ1) X) : WE c (.FormattedValue e (-1) none pos) σ m K X := by
  intro T R s st Q E q ex
  refine FormattedValue_plain (h T R s st _ _ (fun v pv T1 R1 σ1 s1 g1 S1 r k => ?_) ex)
  obtain ⟨i, rfl, hi, k⟩ := k
  replace r := r.inv; obtain ⟨_, rfl⟩ := r
  have hl2 : i.natAbs.log2 < 1920 := by
    by_cases h0 : i.natAbs = 0
    · rw [h0]; decide
    · have := (Nat.log2_lt h0).mpr hi; omega
  refine formatField_int_small hl2 (q _ (.str (toString i)) T1 R1 σ1 _ g1 (S1.tok _) (.str _ _) (k _ ?_))
  have e := int_text_length_le (k := 1920) (by decide) hl2
  show (Str.ofString (toString i)).length ≤ 2000
  rw [PySem.ofString_length]; omega
noncomputable def WJ (c : Cx) : List Expr → Nat → List AO → Nm → (Str → List AO → Prop) → (List AO → Prop) → Prop
  | [], _, σ, _, K, _ => ∀ y, K y σ
  | e :: r, n, σ, m, K, X => WE c e σ m (fun pv σ1 => ∃ y : Str, pv = .str y ∧ y.length ≤ 2000 ∧ WJ c r (n + 1) σ1 m K X) X
theorem wj_parts : ∀ {es : List Expr} {n : Nat} {σ : List AO} {acc : Str} {T R s} {Q E : Value → Shared → Prop}, WJ c es n σ m (fun y σ' => K (.str y) σ') X → (n + es.length) * 2000 ≤ 1000000 → acc.length ≤ n * 2000 → St c T R σ m s →
    (∀ v pv T' R' σ' s', Gr T (μs R) T' (μs R') → St c T' R' σ' m s' → VR T' (μs R') v pv → K pv σ' → Q v s') → (∀ e s' σ', ExcS c m T (μs R) σ' e s' → X σ' → E e s') →
    wpAny (model c.prog c.w) c.A (joinParts acc (evalEach es c.env)) Q E s
  | [], n, σ, acc, T, R, s, Q, E, h, hn, ha, st, q, ex => by
    refine joinParts_nil (q _ (.str acc) T R σ _ (Gr.refl _ _) (st.tok _) (.str _ _) (h acc)) ?_
    have : (1000000 : Nat) ≤ sizeLine := by decide
    simp only [List.length_nil, Nat.add_zero] at hn
    omega
  | e :: r, n, σ, acc, T, R, s, Q, E, h, hn, ha, st, q, ex => by
    show wpAny (model c.prog c.w) c.A (joinParts acc (eval e c.env :: evalEach r c.env)) Q E s
    refine joinParts_cons (h T R s st _ _ (fun v pv T1 R1 σ1 s1 g1 S1 r1 k => ?_) ex)
    obtain ⟨y, rfl, hy, k⟩ := k
    replace r1 := r1.inv; obtain ⟨_, rfl⟩ := r1
    have hlen : (acc ++ y).length = acc.length + y.length := strLen_append ..
    rw [List.length_cons] at hn
    refine ⟨?_, wj_parts k (by rw [show n + 1 + r.length = n + (r.length + 1) by omega]; exact hn) (by omega) S1 (fun v pv T' R' σ' s' g S' r k' => q v pv T' R' σ' s' (g1.trans g) S' r k') (fun e' s' σ' hx hX => ex e' s' σ' (hx.mono g1) hX)⟩
    have : (1000000 : Nat) ≤ sizeLine := by decide
    omega
theorem WE_joined {v₁ v₂ : Expr} {rest : List Expr} {pos : Pos} (h : WJ c (v₁ :: v₂ :: rest) 0 σ m (fun y σ' => K (.str y) σ') X) (hn : rest.length ≤ 100) : WE c (.JoinedStr (v₁ :: v₂ :: rest) pos) σ m K X := by
  intro T R s st Q E q ex
  refine JoinedStr_many ?_
  exact wj_parts (es := v₁ :: v₂ :: rest) h (by simp only [List.length_cons]; omega) (Nat.zero_le _) st q ex
end
end Nv
end
section
open PySem PySem.W PySem.Calls PyProof.Rows PyProof.V PySem.Spec
namespace Nv
noncomputable abbrev FixL (o : Obj) (ns : List Int) : Prop := ∃ (vs : List Value) (k : Nat), o.cls = .type "list" ∧ o.data = .seq vs.toArray k ∧ ∀ T μ, VRs T μ vs (ns.map .int)
section
variable {c : Cx} {σ : List AO} {m : Nm} {K : PV → List AO → Prop} {X : List AO → Prop}
theorem fixRef {T R s} (st : St c T R σ m s) {n : Nat} {o : Obj} {v : Value} (e : σ[n]? = some (.fix o)) (r : VR T (μs R) v (.loc n)) : ∃ a, v = .ref a ∧ R[n]? = some (a, o) ∧ s.heap.get? a = some o := by
  replace r := r.inv; obtain ⟨_, rfl, h⟩ := r
  obtain ⟨o, a1, a2, a3⟩ := st.at e h
  cases a3 with
  | fix => exact ⟨_, rfl, a1, a2⟩
theorem WC_lenX {n : Nat} {o : Obj} {ns : List Int} (e : σ[n]? = some (.fix o)) (f : FixL o ns) (hz : ns.length ≤ 100000) (h : K (.int ns.length) σ) : WC c (.builtin "len") [.loc n] σ m K X := by
  intro T R s vs st rs Q E q ex
  replace rs := rs.inv; obtain ⟨_, _, rfl, r1, r2⟩ := rs
  (first | (replace r2 := r2.inv; obtain rfl := r2) | (replace r2 := r2.inv; obtain ⟨_, rfl⟩ := r2) | cases r2)
  obtain ⟨a, rfl, _, ha⟩ := fixRef st e r1
  obtain ⟨vs, k, hc, hd, hr⟩ := f
  have hl : vs.length = ns.length := by rw [(hr T (μs R)).length, List.length_map]
  refine len_list (items := vs.toArray) ⟨_, ha, hc, k, hd⟩ (by rw [List.size_toArray, hl]; omega) ?_
  rw [List.size_toArray, hl]
  exact q _ _ T R σ _ (Gr.refl _ _) (st.tok _) (.int _ _) h
theorem WG_fixX {n : Nat} {o : Obj} {ns : List Int} {i : Int} {pv : PV} (e : σ[n]? = some (.fix o)) (f : FixL o ns) (h0 : 0 ≤ i) (h1 : i < 2 ^ 60) (hl : (ns.map PV.int)[i.toNat]? = some pv) (h : K pv σ) : WG c (.loc n) (.int i) σ m K X := by
  intro T R s v u st r1 r2
  obtain ⟨a, rfl, _, ha⟩ := fixRef st e r1
  obtain ⟨vs, k, hc, hd, hr⟩ := f
  (first | (replace r2 := r2.inv; obtain rfl := r2) | (replace r2 := r2.inv; obtain ⟨_, rfl⟩ := r2) | cases r2)
  obtain ⟨v, hv, rv⟩ := (hr T (μs R)).get hl
  have il : s.heap.IsList a vs.toArray := ⟨_, ha, hc, k, hd⟩
  exact ⟨_, _, il.typeIs, slot_list_getitem.lookup, fun Q E q ex => wpAny_getItem_list il h0 (by omega) (by simpa using hv) (q v pv T R σ s (Gr.refl _ _) st rv h)⟩
end
end Nv
end
section
open PySem PySem.W PySem.Calls PyProof.Rows PyProof.V PySem.Spec
namespace Nv
section
variable {M : Model} {A : Around} {E : Value → Shared → Prop} {s : Shared} {env : Env}
theorem wpP_Assign_Tuple {elts : List Expr} {k tpos} {value : Expr} {pos : Pos} {Q : Flow → Shared → Prop}
    (h : wpP M A (eval value env) (fun v s₁ => wpP M A (assign (.Tuple elts k tpos) env v) (fun _ => Q .next) E s₁) E s)
    (hs : swapsWithSole [.Tuple elts k tpos] value pos.line env = pure false := by rfl) (hw : swappedStores [.Tuple elts k tpos] value env = pure none := by rfl) :
    wpP M A (exec (.Assign [.Tuple elts k tpos] value pos) env) Q E s := by
  rw [exec_Assign]
  refine wpP_at (wpP_bind (wpP_of_eq hs ?_))
  rw [if_neg (by decide)]
  refine wpP_bind (wpP_mono h (fun v s₁ h₁ => wpP_bind (wpP_of_eq hw ?_)) fun _ _ x => x)
  show wpP M A (do assignAll v [assign (.Tuple elts k tpos) env]; pure .next) Q E s₁
  exact wpP_bind (wpP_mono h₁ (fun _ _ x => wpP_pure x) fun _ _ x => x)
theorem wpP_or {x : Expr} {rest : List Expr} {pos whole} {Q : Bool → Shared → Prop}
    (h : wpP M A (isTrue x env (eval x env)) (fun c s' => if c then Q true s' else wpP M A (isTrue (.BoolOp .Or rest pos) env whole) Q E s') E s) :
    wpP M A (isTrue (.BoolOp .Or (x :: rest) pos) env whole) Q E s := by
  show wpP M A (do
    match BoolOp.Or, ← isTrue x env (eval x env) with
    | .And, false => pure false
    | .Or, true => pure true
    | _, _ => allTrue .Or rest env) Q E s
  refine wpP_bind (wpP_mono h (fun c s' h' => ?_) fun _ _ x => x)
  cases c with
  | false => exact h'
  | true => exact wpP_pure h'
theorem codeP_loop' {c : Code} {R : Result → Shared → Prop} (hd : isDec c = false) (hq : c.quiet = true) (I : Nat → Shared → Prop)
    (turn : ∀ n s, I n s → wpP M (A.under c) (M.den c)
      (fun fin s' => match fin with
        | .done f => R (.ok f) s'
        | .again c' => (c' = c ∧ ∃ m, m < n ∧ I m s') ∨ (c'.quiet = true ∧ codeP M A c' R s')) (fun e s' => R (.error e) s') s)
    (n : Nat) {s : Shared} (h : I n s) : codeP M A c R s := by
  induction n using Nat.strongRecOn generalizing s with
  | ind n ih =>
    refine codeP_of_tree hd (wpP_mono (turn n s h) (fun fin s' hf => ?_) fun _ _ h' => h')
    cases fin with
    | done f => exact hf
    | again c' =>
      rcases hf with ⟨rfl, m, hm, hI⟩ | hf
      · exact ⟨hq, ih m hm hI⟩
      · exact hf
end
section
variable {prog : Program} {w : World} {A : Around} {E : Value → Shared → Prop} {s : Shared} {R : Result → Shared → Prop}
theorem codeP_forLoop {target : Expr} {it : Value} {body : List Stmt} {env : Env} (I : Nat → Shared → Prop)
    (turn : ∀ n s, I n s → wpP (model prog w) A (pyNext it) (fun r s₁ => match r with
      | none => R (.ok .next) s₁
      | some v => wpP (model prog w) A (letOwnedTupleGo target it v) (fun _ s₁' =>
          wpP (model prog w) A (assign target env v) (fun _ s₂ => wpP (model prog w) A (execs body env) (fun f s₃ => match f with
            | .next | .cont => ∃ m, m < n ∧ I m s₃
            | .brk => R (.ok .next) s₃
            | .ret v => R (.ok (.ret v)) s₃) (fun _ _ => False) s₂) (fun _ _ => False) s₁') (fun _ _ => False) s₁) (fun _ _ => False) s)
    (n : Nat) (h : I n s) : codeP (model prog w) A (.forLoop target it body [] env) R s := by
  refine codeP_loop' rfl rfl I (fun n s hI => ?_) n h
  show wpP _ A ((forTurn target it body [] env).onRaise (fun x => do noteFrame x env; theTreesLotGoes x)) _ _ s
  refine wpP_onRaise ?_
  simp only [forTurn]
  refine wpP_bind (wpP_standAt (wpP_bind (wpP_onRaise (wpP_mono (turn n s hI) (fun r s₁ h₁ => ?_) fun _ _ h' => h'.elim))))
  cases r with
  | none => exact wpP_pure (.inr ⟨rfl, codeP_of (codeAny_block (wpAny_execs_nil h₁))⟩)
  | some v =>
    refine wpP_bind (wpP_mono h₁ (fun _ s₁' h₁' => ?_) fun _ _ h' => h'.elim)
    refine wpP_bind (wpP_mono h₁' (fun _ s₂ h₂ => wpP_bind (wpP_mono h₂ (fun f s₃ h₃ => ?_) fun _ _ h' => h'.elim)) fun _ _ h' => h'.elim)
    cases f with
    | next => exact wpP_pure (.inl ⟨rfl, h₃⟩)
    | cont => exact wpP_pure (.inl ⟨rfl, h₃⟩)
    | brk => exact wpP_pure h₃
    | ret v => exact wpP_pure h₃
theorem wpP_For {target iter : Expr} {body : List Stmt} {pos : Pos} {env : Env} {Q : Flow → Shared → Prop}
    (h : wpP (model prog w) A (eval iter env) (fun x s₁ => wpP (model prog w) A (pyIter x) (fun it s₂ =>
      codeP (model prog w) A (.forLoop target it body [] env) (fun r s' => match r with | .ok f => Q f s' | .error _ => False) s₂) E s₁) E s)
    (hs : ∀ x, foldedSetIterable iter env x = pure x) : wpP (model prog w) A (exec (.For target iter body [] pos) env) Q E s := by
  rw [exec_For]
  refine wpP_at (wpP_bind (wpP_mono h (fun x s₁ h₁ => wpP_bind (wpP_of_eq (hs x) (wpP_at (wpP_bind (wpP_holding (wpP_mono h₁ (fun it s₂ h₂ => ?_) fun _ _ h' => h')))))) fun _ _ h' => h'))
  unfold runOwn
  refine wpP_onRaise (wpP_mono (wpP_run (h := none) (E := fun _ _ => False) (Q := Q) ?_) (fun _ _ x => x) fun _ _ x => x.elim)
  exact h₂
end
noncomputable abbrev jTAP (c : Cx) (elts : List Expr) (m : List (Str × PV)) (Kn : Nm → List AO → Prop) (pv : PV) (σ : List AO) : Prop := ∃ l, pv = .tup l ∧ l.length = elts.length ∧ ∀ g, Tn c g → WA (c.re g) elts l σ m Kn
noncomputable abbrev jOrP (c : Cx) (rest : List Expr) (pos : Pos) (m : List (Str × PV)) (KB : Bool → List AO → Prop) (X : List AO → Prop) (b : Bool) (σ : List AO) : Prop := ∀ g, Tn c g → sel b (KB true σ) (WBP (c.re g) (.BoolOp .Or rest pos) σ m KB X)
section
variable {c : Cx} {σ : List AO} {m : Nm} {K : PV → List AO → Prop} {Kn : Nm → List AO → Prop} {Kr : PV → List AO → Prop} {KB : Bool → List AO → Prop} {X : List AO → Prop}
theorem WS1P_asgT {elts : List Expr} {k tpos pos} {e : Expr} (h : WEP c e σ m (jTAP c elts m Kn) X)
    (hlen : (assignEach elts c.env).length = elts.length := by rfl) (hstar : (assignEach elts c.env).findIdx? (·.1) = none := by rfl)
    (hs : swapsWithSole [.Tuple elts k tpos] e pos.line c.env = pure false := by rfl) (hw : swappedStores [.Tuple elts k tpos] e c.env = pure none := by rfl) : WS1P c (.Assign [.Tuple elts k tpos] e pos) σ m Kn Kr X := by
  intro T R s st Q E q1 q2 ex
  refine wpP_Assign_Tuple (hs := hs) (hw := hw) (h T R s st _ _ (fun v pv T1 R1 σ1 s1 g t g1 S1 r k => ?_) (fun e' s' σ' g t hx hX => ex e' m s' σ' g t hx hX))
  obtain ⟨l, rfl, hl, kA⟩ := k
  replace r := r.inv; obtain ⟨_, _, _, rfl, hm, hr⟩ := r
  refine wpP_of (assign_Tuple_tuple S1.ok.hh (tupIs S1 hm) (by rw [hlen, ← hl, List.size_toArray, hr.length]) hstar fun h' he => ?_)
  exact kA g t T1 R1 _ _ (S1.extBut he) hr _ _ fun m' R' σ' s' g2 S' k' => q1 m' T1 R' σ' s' g t (g1.trans g2) S' k'
theorem WBP_or1 {x : Expr} {rest : List Expr} {pos} (h : WBP c x σ m (jOrP c rest pos m KB X) X) : WBP c (.BoolOp .Or (x :: rest) pos) σ m KB X := by
  intro T R s st Q E q ex
  refine wpP_or (h T R s st _ _ (fun b T1 R1 σ1 s1 g t g1 S1 k => ?_) ex)
  cases b with
  | true => exact q true T1 R1 σ1 s1 g t g1 S1 (k g t)
  | false => exact (k g t) T1 R1 s1 S1 Q E (fun b T' R' σ' s' g' t' g2 S' k' => q b T' R' σ' s' g' (t.trans t') (g1.trans g2) S' k') (fun e' s' σ' g' t' hx hX => ex e' s' σ' g' (t.trans t') (hx.mono g1) hX)
theorem WBP_or0 {pos} (h : KB false σ) : WBP c (.BoolOp .Or [] pos) σ m KB X := WBP.of (WB_or0 h)
inductive PInv (c : Cx) (T R : Led) (It : Addr) (n : Nat) (I : Nat → Nm → List AO → Prop) (k : Nat) (s' : Shared) : Prop
  | mk (i : Nat) (m' : Nm) (σ' : List AO) (T' R' : Led) (oI : Obj) (g : Heap) (hk : k = n + 1 - i) (hi : i ≤ n) (t : Tn c g) (S : St (c.re g) T' R' σ' m' s') (gr : Gr T (μs R) T' (μs R')) (hm : (It, oI) ∈ T') (hv : volatile oI = true) (hat : IsRangeIter s'.heap It (0 + (i : Nat)) ((n : Int) - (i : Nat)) 1) (hI : I i m' σ')
theorem WS1P_forR {x : Str} {p pos : Pos} {iter : Expr} {body : List Stmt} {n : Nat} (hns : c.ns = none) (hn : n ≤ 1000) (I : Nat → Nm → List AO → Prop)
    (h : WE c iter σ m (fun v σ1 => v = .rng 0 n ∧ I 0 m σ1) X)
    (hstep : ∀ (i : Nat) m' σ' g, i < n → I i m' σ' → Tn c g → WN (c.re g) x (.int i) σ' m' (fun m'' σ'' => WSP (c.re g) body σ'' m'' (fun m3 σ3 => I (i + 1) m3 σ3) Kr (fun _ => False)))
    (hend : ∀ m' σ', I n m' σ' → Kn m' σ') (hs : ∀ env x, foldedSetIterable iter env x = pure x := by intro _ _; rfl) : WS1P c (.For (.Name x p) iter body [] pos) σ m Kn Kr X := by
  intro T₀ R₀ s₀ st₀ Q E q1 q2 ex
  refine wpP_For (hs := hs _) (wpP_of (h T₀ R₀ s₀ st₀ _ _ (fun v pv T R σ1 s g0 st r k => ?_) (fun e' s' σ' hx hX => ex e' m s' σ' c.g (Tn.refl c) hx hX)))
  obtain ⟨rfl, h0⟩ := k
  replace r := r.inv; obtain ⟨_, _, _, _, rfl, hm⟩ := r
  rename_i rr t0 u0 v0
  have hsize : Builtin.Range.rangeSize 0 n 1 = (n : Int) := by rw [rangeSize_nat]; omega
  have hsmall : Builtin.Range.small 0 n 1 = true := small_one (by omega) (by omega) (by omega) (by omega)
  refine wpP_of (wpAny_pyIter_range (st.tupGet hm) hsmall ?_)
  rw [hsize]
  have hfresh := st.freshL (none_of_size s.heap)
  have hTI : s.heap.objs.size ∉ T.map (·.1) := fun hx => hfresh.1 (by rw [List.map_append]; exact List.mem_append_left _ hx)
  have S1 := st.addT (tk := s.toks) (o := { cls := .type "range_iterator", data := .fields #[rawInt 0, rawInt n, rawInt 1] }) (fun b o e => Heap.get?_push_of_some _ e) (none_of_size s.heap) (Heap.get?_push_size _ rfl)
  refine codeP_forLoop (PInv c T R s.heap.objs.size n I) ?_ (n + 1) ⟨0, m, σ1, _, R, _, c.g, rfl, Nat.zero_le _, Tn.refl c, S1, Gr.cons, .head _, rfl, (by
      show Heap.get? _ _ = _
      simpa using Heap.get?_push_at (h := s.heap) (o := { cls := .type "range_iterator", data := .fields #[rawInt 0, rawInt n, rawInt 1] }) rfl rfl), h0⟩
  generalize s.heap.objs.size = It at hTI
  rintro k s' ⟨i, m', σ', T', R', oI, g, rfl, hi, tg, S', g', hm', hv', hit', hI⟩
  obtain ⟨S2, hfr, hoI⟩ := S'.drop hns hm' hv'
  have g2 := g'.dropOf hTI
  by_cases hlt : i < n
  · refine wpP_of (wpAny_pyNext_range_item hit' (by omega) fun h' hit2 hs2 => ?_)
    have S3 := S2.addT' (tk := s'.toks + 1) (h' := h') (fun b o hb e => by rw [hs2.2 b hb]; exact e) hfr hit2
    refine wpP_of (letOwned_range hit2 ?_)
    refine wpP_of (PyProof.Rows.assign_Name ?_)
    have hst := hstep i m' σ' g hlt hI tg
    rw [← Int.zero_add (i : Int)] at hst
    refine hst _ R' _ _ S3 (.int _ _) _ _ fun m4 R4 σ4 s4 g4 S4 k4 => ?_
    refine k4 _ R4 s4 S4 _ _ (fun m5 T5 R5 σ5 s5 gg tt g5 S5 k5 => ⟨n + 1 - (i + 1), by omega, i + 1, m5, σ5, T5, R5, _, gg, rfl, hlt, tg.trans tt, S5, (g2.trans Gr.cons).trans (g4.trans g5), g5.t _ (g4.t _ (.head _)), rfl, ?_, k5⟩)
      (fun v' pv' m5 T5 R5 σ5 s5 gg tt g5 S5 r5 k5 => q2 v' pv' m5 T5 R5 σ5 s5 gg (tg.trans tt) (g0.trans ((g2.trans Gr.cons).trans (g4.trans g5))) S5 r5 k5) (fun e m5 s5 σ5 gg tt hx hX => hX.elim)
    have := S5.tupGet (g5.t _ (g4.t _ (.head _)))
    show Heap.get? _ It = _
    rw [this, show (0 : Int) + ((i + 1 : Nat) : Int) = 0 + (i : Nat) + 1 by omega, show (n : Int) - ((i + 1 : Nat) : Int) = n - (i : Nat) - 1 by omega]
  · obtain rfl : i = n := Nat.le_antisymm hi (Nat.le_of_not_lt hlt)
    refine wpP_of (wpAny_pyNext_range_end S'.ok.hh hit' (by omega) fun h' he => ?_)
    exact q1 m' _ R' σ' _ g tg (g0.trans g2) (S2.off (tk := s'.toks) hfr fun b o hb e => he b o hb e) (hend m' σ' hI)
end
end Nv
end
section
open PySem PySem.W PySem.Calls PyProof.Rows PyProof.V PySem.Spec
namespace Nv
noncomputable def ExB (S : List Nat) (σ σ' : List AO) : Prop := σ.length ≤ σ'.length ∧ ∀ n ao, n ∉ S → σ[n]? = some ao → σ'[n]? = some ao
noncomputable abbrev Ex (σ σ' : List AO) : Prop := ExB [] σ σ'
theorem ExB.refl (S σ) : ExB S σ σ := ⟨Nat.le_refl _, fun _ _ _ h => h⟩
theorem ExB.trans {S σ σ1 σ2} (a : ExB S σ σ1) (b : ExB S σ1 σ2) : ExB S σ σ2 := ⟨Nat.le_trans a.1 b.1, fun n ao hn h => b.2 n ao hn (a.2 n ao hn h)⟩
theorem ExB.mono {S S' σ σ1} (a : ExB S σ σ1) (h : ∀ n ∈ S, n ∈ S') : ExB S' σ σ1 := ⟨a.1, fun n ao hn e => a.2 n ao (fun x => hn (h n x)) e⟩
theorem Ex.to {S σ σ1} (a : Ex σ σ1) : ExB S σ σ1 := a.mono fun _ h => by cases h
theorem ExB.app (S σ l) : ExB S σ (σ ++ l) := ⟨by rw [List.length_append]; lia, fun n ao _ h => by rw [List.getElem?_append_left (List.getElem?_eq_some_iff.mp h).1]; exact h⟩
theorem ExB.set {S : List Nat} {σ : List AO} {k ao} (h : k ∈ S) : ExB S σ (σ.set k ao) := ⟨by rw [List.length_set]; exact Nat.le_refl _, fun n a hn e => by
  have : k ≠ n := fun x => hn (x ▸ h)
  rw [List.getElem?_set_ne this]; exact e⟩
theorem ExB.get {S σ σ'} (h : ExB S σ σ') {n : Nat} {ao : AO} (hn : n ∉ S) (e : σ[n]? = some ao) : σ'[n]? = some ao := h.2 n ao hn e
theorem Ex.get {σ σ'} (h : Ex σ σ') {n : Nat} {ao : AO} (e : σ[n]? = some ao) : σ'[n]? = some ao := h.2 n ao (by intro x; cases x) e
theorem lt_app {σ l : List AO} {n : Nat} (h : n < σ.length) : n < (σ ++ l).length := by rw [List.length_append]; lia
theorem lt_last {σ : List AO} {a : AO} : σ.length < (σ ++ [a]).length := by rw [List.length_append]; exact Nat.lt_succ_self _
theorem lt_ex {S σ σ'} (h : ExB S σ σ') {n : Nat} (hn : n < σ.length) : n < σ'.length := Nat.lt_of_lt_of_le hn h.1
theorem lt_set {σ : List AO} {k n : Nat} {a : AO} (h : n < σ.length) : n < (σ.set k a).length := by rw [List.length_set]; exact h
noncomputable abbrev lkN (m : Nm) (x : Str) : Option PV := m.lookup x
theorem lk_last {σ : List AO} {a : AO} : (σ ++ [a])[σ.length]? = some a := by rw [List.getElem?_append_right (Nat.le_refl _), Nat.sub_self]; rfl
theorem lk_app {σ l : List AO} {n : Nat} {ao : AO} (h : σ[n]? = some ao) : (σ ++ l)[n]? = some ao := by rw [List.getElem?_append_left (List.getElem?_eq_some_iff.mp h).1]; exact h
theorem lk_set {σ : List AO} {n : Nat} {b : AO} (h : n < σ.length) : (σ.set n b)[n]? = some b := by
  rw [List.getElem?_set_self h]
theorem lk_set_ne {σ : List AO} {n k : Nat} {a b : AO} (hne : k ≠ n) (h : σ[n]? = some a) : (σ.set k b)[n]? = some a := by
  rw [List.getElem?_set_ne hne]; exact h
theorem lt_of_lk {σ : List AO} {n : Nat} {a : AO} (h : σ[n]? = some a) : n < σ.length := (List.getElem?_eq_some_iff.mp h).1
noncomputable def WSA (c : Cx) (name : Str) (pv ov : PV) (σ : List AO) (m : Nm) (Kn : Nm → List AO → Prop) : Prop := ∃ n d C fs, ov = .loc n ∧ σ[n]? = some (.inst C d) ∧ σ[d]? = some (.dict fs) ∧ setsOk c.K C name = true ∧ (putF name pv fs).length ≤ 1000 ∧ Kn m (σ.set d (.dict (putF name pv fs)))
theorem WSA_intro {c : Cx} {name : Str} {pv : PV} {σ : List AO} {m : Nm} {Kn : Nm → List AO → Prop} {n d : Nat} {C : Addr} {fs : Nm} (e1 : σ[n]? = some (.inst C d)) (e2 : σ[d]? = some (.dict fs)) (hk : setsOk c.K C name = true) (hl : (putF name pv fs).length ≤ 1000) (h : Kn m (σ.set d (.dict (putF name pv fs)))) : WSA c name pv (.loc n) σ m Kn := ⟨_, _, _, _, rfl, e1, e2, hk, hl, h⟩
theorem WS1_asgA' {c : Cx} {σ : List AO} {m : Nm} {Kn : Nm → List AO → Prop} {Kr : PV → List AO → Prop} {X : List AO → Prop} {o : Expr} {name : Str} {p pos} {e : Expr} (h : WE c e σ m (fun pv σ1 => WE c o σ1 m (fun ov σ2 => WSA c name pv ov σ2 m Kn) X) X)
    (hs : swapsWith e (some (.Attribute o name p)) pos.line c.env = pure false := by rfl) : WS1 c (.Assign [.Attribute o name p] e pos) σ m Kn Kr X := WS1_asgA h hs
theorem WS1P_asgA' {c : Cx} {σ : List AO} {m : Nm} {Kn : Nm → List AO → Prop} {Kr : PV → List AO → Prop} {X : List AO → Prop} {o : Expr} {name : Str} {p pos} {e : Expr} (h : WEP c e σ m (fun pv σ1 => ∀ g, Tn c g → WE (c.re g) o σ1 m (fun ov σ2 => WSA c name pv ov σ2 m Kn) X) X)
    (hs : swapsWith e (some (.Attribute o name p)) pos.line c.env = pure false := by rfl) : WS1P c (.Assign [.Attribute o name p] e pos) σ m Kn Kr X := WS1P_asgA h hs
theorem WPart_some {c : Cx} {e : Expr} {σ : List AO} {m : Nm} {K : PV → List AO → Prop} {X : List AO → Prop} (h : WE c e σ m K X) : WPart c (some e) σ m K X := h
theorem WPart_none {c : Cx} {σ : List AO} {m : Nm} {K : PV → List AO → Prop} {X : List AO → Prop} (h : K .none σ) : WPart c none σ m K X := h
theorem gl_HEADER_SIZE (P : Params) : ∃ t, nsIn (GG.Kw P) mainGlobals "HEADER_SIZE" = some (some (.int 32 t)) := ⟨234, by kernel_rfl⟩
theorem gl_WORD (P : Params) : ∃ t, nsIn (GG.Kw P) mainGlobals "WORD" = some (some (.int 18446744073709551616 t)) := ⟨238, by kernel_rfl⟩
theorem gl_INNER_KEYS (P : Params) : ∃ t, nsIn (GG.Kw P) mainGlobals "INNER_KEYS" = some (some (.int 2 t)) := ⟨272, by kernel_rfl⟩
theorem gl_INNER_ROWS (P : Params) : ∃ t, nsIn (GG.Kw P) mainGlobals "INNER_ROWS" = some (some (.int 5 t)) := ⟨274, by kernel_rfl⟩
theorem gl_LEAF_KEYS (P : Params) : ∃ t, nsIn (GG.Kw P) mainGlobals "LEAF_KEYS" = some (some (.int 10 t)) := ⟨276, by kernel_rfl⟩
theorem gl_LEAF_ROWS (P : Params) : ∃ t, nsIn (GG.Kw P) mainGlobals "LEAF_ROWS" = some (some (.int 13 t)) := ⟨278, by kernel_rfl⟩
theorem gl_LEAST_CELL (P : Params) : ∃ t, nsIn (GG.Kw P) mainGlobals "LEAST_CELL" = some (some (.int 4 t)) := ⟨281, by kernel_rfl⟩
theorem gl_KINDS (P : Params) : nsIn (GG.Kw P) mainGlobals "KINDS" = some (some (.ref 68)) := by kernel_rfl
theorem gl_is_leaf_node_view (P : Params) : nsIn (GG.Kw P) mainGlobals "is_leaf_node_view" = some (some (.ref 110)) := by kernel_rfl
theorem gl_is_rows_node_view (P : Params) : nsIn (GG.Kw P) mainGlobals "is_rows_node_view" = some (some (.ref 117)) := by kernel_rfl
theorem gl_Cell (P : Params) : nsIn (GG.Kw P) mainGlobals "Cell" = some (some (.ref 169)) := by kernel_rfl
theorem gl_NodeView (P : Params) : nsIn (GG.Kw P) mainGlobals "NodeView" = some (some (.ref 312)) := by kernel_rfl
theorem gl_CorruptError (P : Params) : nsIn (GG.Kw P) mainGlobals "CorruptError" = some (some (.ref 44)) := by kernel_rfl
theorem gl_get_varint (P : Params) : nsIn (GG.Kw P) mainGlobals "get_varint" = some (some (.ref 60)) := by kernel_rfl
theorem gl_signed (P : Params) : nsIn (GG.Kw P) mainGlobals "signed" = some (some (.ref 67)) := by kernel_rfl
theorem gl_two_at (P : Params) : nsIn (GG.Kw P) mainGlobals "two_at" = some (some (.ref 75)) := by kernel_rfl
theorem gl_four_at (P : Params) : nsIn (GG.Kw P) mainGlobals "four_at" = some (some (.ref 82)) := by kernel_rfl
theorem gl_max_local (P : Params) : nsIn (GG.Kw P) mainGlobals "max_local" = some (some (.ref 124)) := by kernel_rfl
theorem gl_local_size (P : Params) : nsIn (GG.Kw P) mainGlobals "local_size" = some (some (.ref 138)) := by kernel_rfl
theorem gl_read_cell (P : Params) : nsIn (GG.Kw P) mainGlobals "read_cell" = some (some (.ref 180)) := by kernel_rfl
theorem gl_law_pool (P : Params) : nsIn (GG.Kw P) mainGlobals "_law_pool" = some (some (.ref 323)) := by kernel_rfl
theorem gl_law_take (P : Params) : nsIn (GG.Kw P) mainGlobals "_law_take" = some (some (.ref 330)) := by kernel_rfl
theorem gl_law_one (P : Params) : nsIn (GG.Kw P) mainGlobals "_law_one" = some (some (.ref 337)) := by kernel_rfl
theorem gl_law_two (P : Params) : nsIn (GG.Kw P) mainGlobals "_law_two" = some (some (.ref 344)) := by kernel_rfl
theorem gl_law_varint (P : Params) : nsIn (GG.Kw P) mainGlobals "_law_varint" = some (some (.ref 351)) := by kernel_rfl
theorem gl_law_cell (P : Params) : nsIn (GG.Kw P) mainGlobals "_law_cell" = some (some (.ref 356)) := by kernel_rfl
theorem gl_law_parts (P : Params) : nsIn (GG.Kw P) mainGlobals "_law_parts" = some (some (.ref 363)) := by kernel_rfl
theorem gl_law_put (P : Params) : nsIn (GG.Kw P) mainGlobals "_law_put" = some (some (.ref 370)) := by kernel_rfl
theorem gl_law_laid (P : Params) : nsIn (GG.Kw P) mainGlobals "_law_laid" = some (some (.ref 375)) := by kernel_rfl
theorem gl_law_is_refused (P : Params) : nsIn (GG.Kw P) mainGlobals "_law_is_refused" = some (some (.ref 382)) := by kernel_rfl
theorem gl_law_cell_right (P : Params) : nsIn (GG.Kw P) mainGlobals "_law_cell_right" = some (some (.ref 389)) := by kernel_rfl
theorem gl_law_bent_right (P : Params) : nsIn (GG.Kw P) mainGlobals "_law_bent_right" = some (some (.ref 394)) := by kernel_rfl
theorem gl_law_right (P : Params) : nsIn (GG.Kw P) mainGlobals "_law_right" = some (some (.ref 399)) := by kernel_rfl
theorem WE_gi {c : Cx} {σ : List AO} {m : Nm} {K : PV → List AO → Prop} {X : List AO → Prop} {x : Str} {pos : Pos} {i : Int} (hk : c.env.kindOf x = some .globalImplicit) (e : ∃ t, nsIn c.K mainGlobals x = some (some (.int i t))) (h : K (.int i) σ) (hd : (x == ("__debug__" : Str)) = false := by decide) : WE c (.Name x pos) σ m K X := WE_globI hk e.choose_spec h hd
theorem gb_len (P : Params) : nsIn (GG.Kw P) mainGlobals "len" = some none := by kernel_rfl
theorem bb_len : bootBuiltins "len" = some (.builtin "len") := by kernel_rfl
theorem gb_max (P : Params) : nsIn (GG.Kw P) mainGlobals "max" = some none := by kernel_rfl
theorem bb_max : bootBuiltins "max" = some (.builtin "max") := by kernel_rfl
theorem gb_min (P : Params) : nsIn (GG.Kw P) mainGlobals "min" = some none := by kernel_rfl
theorem bb_min : bootBuiltins "min" = some (.builtin "min") := by kernel_rfl
theorem gb_sum (P : Params) : nsIn (GG.Kw P) mainGlobals "sum" = some none := by kernel_rfl
theorem bb_sum : bootBuiltins "sum" = some (.builtin "sum") := by kernel_rfl
theorem gb_range (P : Params) : nsIn (GG.Kw P) mainGlobals "range" = some none := by kernel_rfl
theorem bb_range : bootBuiltins "range" = some (.type "range") := by kernel_rfl
theorem gb_int (P : Params) : nsIn (GG.Kw P) mainGlobals "int" = some none := by kernel_rfl
theorem bb_int : bootBuiltins "int" = some (.type "int") := by kernel_rfl
theorem gb_bytes (P : Params) : nsIn (GG.Kw P) mainGlobals "bytes" = some none := by kernel_rfl
theorem bb_bytes : bootBuiltins "bytes" = some (.type "bytes") := by kernel_rfl
theorem gb_list (P : Params) : nsIn (GG.Kw P) mainGlobals "list" = some none := by kernel_rfl
theorem bb_list : bootBuiltins "list" = some (.type "list") := by kernel_rfl
theorem gb_bytearray (P : Params) : nsIn (GG.Kw P) mainGlobals "bytearray" = some none := by kernel_rfl
theorem bb_bytearray : bootBuiltins "bytearray" = some (.type "bytearray") := by kernel_rfl
noncomputable def FldOk (C : Addr) (name : Str) : Prop := ∀ P : Params, plainGet (GG.Kw P) C name = true ∧ hasDictIn (GG.Kw P) C = true ∧ ∃ attr, findIn (GG.Kw P) (.ref C) name = some attr ∧ noGet (GG.Kw P) attr = true
theorem WO_fld {c : Cx} {σ : List AO} {m : Nm} {K : PV → List AO → Prop} {X : List AO → Prop} {n d : Nat} {C : Addr} {fs : Nm} {name : Str} {pv : PV} (f : FldOk C name) (hK : ∃ P, c.K = GG.Kw P) (e1 : σ[n]? = some (.inst C d)) (e2 : σ[d]? = some (.dict fs)) (hl : fs.lookup name = some pv) (hnr : ∀ u, pv ≠ .raw u) (h : K pv σ) : WO1 c (fun v => getAttr v name true) (.loc n) σ m K X := by
  obtain ⟨P, hK⟩ := hK
  obtain ⟨a, b, at', d1, e⟩ := f P
  rw [← hK] at a b d1 e
  exact WO_field e1 e2 hl hnr a b d1 e h
noncomputable def MethOk (C : Addr) (name : Str) (f : Addr) : Prop := ∀ P : Params, plainGet (GG.Kw P) C name = true ∧ findIn (GG.Kw P) (.ref C) name = some (some (.ref f)) ∧ isFn (GG.Kw P) (.ref f) = true ∧ keepOk (GG.Kw P) (.ref f) = true
theorem WM_m {c : Cx} {σ : List AO} {m : Nm} {X : List AO → Prop} {n d : Nat} {C f : Addr} {fs : Nm} {name : Str} {KM : Value → List PV → List AO → Prop} (mo : MethOk C name f) (hK : ∃ P, c.K = GG.Kw P) (e1 : σ[n]? = some (.inst C d)) (e2 : σ[d]? = some (.dict fs)) (hl : fs.lookup name = none) (h : KM (.ref f) [.loc n] σ) : WM c (.loc n) name σ m (fun f fl σ2 => keepOk c.K f = true ∧ KM f fl σ2) X := by
  obtain ⟨P, hK⟩ := hK
  obtain ⟨a, b, d1, e⟩ := mo P
  rw [← hK] at a b d1 e
  exact WM_inst e1 e2 hl a b d1 ⟨e, h⟩
theorem fo_data : FldOk 312 "data" := fun _ => ⟨by kernel_rfl, by kernel_rfl, none, by kernel_rfl, by kernel_rfl⟩
theorem fo_page : FldOk 312 "page" := fun _ => ⟨by kernel_rfl, by kernel_rfl, none, by kernel_rfl, by kernel_rfl⟩
theorem fo_usable : FldOk 312 "usable" := fun _ => ⟨by kernel_rfl, by kernel_rfl, none, by kernel_rfl, by kernel_rfl⟩
theorem fo_base : FldOk 312 "base" := fun _ => ⟨by kernel_rfl, by kernel_rfl, none, by kernel_rfl, by kernel_rfl⟩
theorem fc_child : FldOk 169 "child" := fun _ => ⟨by kernel_rfl, by kernel_rfl, none, by kernel_rfl, by kernel_rfl⟩
theorem fc_rowid : FldOk 169 "rowid" := fun _ => ⟨by kernel_rfl, by kernel_rfl, none, by kernel_rfl, by kernel_rfl⟩
theorem fc_size : FldOk 169 "size" := fun _ => ⟨by kernel_rfl, by kernel_rfl, none, by kernel_rfl, by kernel_rfl⟩
theorem fc_local : FldOk 169 "local" := fun _ => ⟨by kernel_rfl, by kernel_rfl, none, by kernel_rfl, by kernel_rfl⟩
theorem fc_overflow : FldOk 169 "overflow" := fun _ => ⟨by kernel_rfl, by kernel_rfl, none, by kernel_rfl, by kernel_rfl⟩
theorem mo_kind : MethOk 312 "kind" 201 := fun _ => ⟨by kernel_rfl, by kernel_rfl, by kernel_rfl, by kernel_rfl⟩
theorem mo_is_leaf : MethOk 312 "is_leaf" 208 := fun _ => ⟨by kernel_rfl, by kernel_rfl, by kernel_rfl, by kernel_rfl⟩
theorem mo_is_rows : MethOk 312 "is_rows" 215 := fun _ => ⟨by kernel_rfl, by kernel_rfl, by kernel_rfl, by kernel_rfl⟩
theorem mo_count : MethOk 312 "count" 222 := fun _ => ⟨by kernel_rfl, by kernel_rfl, by kernel_rfl, by kernel_rfl⟩
theorem mo_pointers : MethOk 312 "pointers" 229 := fun _ => ⟨by kernel_rfl, by kernel_rfl, by kernel_rfl, by kernel_rfl⟩
theorem mo_content : MethOk 312 "content" 236 := fun _ => ⟨by kernel_rfl, by kernel_rfl, by kernel_rfl, by kernel_rfl⟩
theorem mo_fragments : MethOk 312 "fragments" 243 := fun _ => ⟨by kernel_rfl, by kernel_rfl, by kernel_rfl, by kernel_rfl⟩
theorem mo_right : MethOk 312 "right" 250 := fun _ => ⟨by kernel_rfl, by kernel_rfl, by kernel_rfl, by kernel_rfl⟩
theorem mo_octets : MethOk 312 "octets" 257 := fun _ => ⟨by kernel_rfl, by kernel_rfl, by kernel_rfl, by kernel_rfl⟩
theorem mo_place : MethOk 312 "place" 264 := fun _ => ⟨by kernel_rfl, by kernel_rfl, by kernel_rfl, by kernel_rfl⟩
theorem mo_cell : MethOk 312 "cell" 271 := fun _ => ⟨by kernel_rfl, by kernel_rfl, by kernel_rfl, by kernel_rfl⟩
theorem mo_raw : MethOk 312 "raw" 278 := fun _ => ⟨by kernel_rfl, by kernel_rfl, by kernel_rfl, by kernel_rfl⟩
theorem mo_raws : MethOk 312 "raws" 283 := fun _ => ⟨by kernel_rfl, by kernel_rfl, by kernel_rfl, by kernel_rfl⟩
theorem mo_rowid : MethOk 312 "rowid" 290 := fun _ => ⟨by kernel_rfl, by kernel_rfl, by kernel_rfl, by kernel_rfl⟩
theorem mo_child : MethOk 312 "child" 297 := fun _ => ⟨by kernel_rfl, by kernel_rfl, by kernel_rfl, by kernel_rfl⟩
theorem mo_children : MethOk 312 "children" 302 := fun _ => ⟨by kernel_rfl, by kernel_rfl, by kernel_rfl, by kernel_rfl⟩
theorem mo_blocks : MethOk 312 "blocks" 309 := fun _ => ⟨by kernel_rfl, by kernel_rfl, by kernel_rfl, by kernel_rfl⟩
section
variable {c : Cx} {σ : List AO} {m : Nm} {K : PV → List AO → Prop} {Kn : Nm → List AO → Prop} {Kr : PV → List AO → Prop} {X : List AO → Prop}
theorem WE.mono {e : Expr} {K' : PV → List AO → Prop} (h : WE c e σ m K X) (hk : ∀ pv σ', K pv σ' → K' pv σ') : WE c e σ m K' X :=
  fun T R s st Q E q ex => h T R s st Q E (fun v pv T' R' σ' s' g S r k => q v pv T' R' σ' s' g S r (hk _ _ k)) ex
theorem WJ_nil {KJ : Str → List AO → Prop} {n : Nat} (h : ∀ y, KJ y σ) : WJ c [] n σ m KJ X := h
theorem WJ_str {KJ : Str → List AO → Prop} {n : Nat} {x : Str} {k pos} {r : List Expr} (hx : x.length ≤ 2000) (h : WJ c r (n + 1) σ m KJ X) : WJ c (.Constant (.str x) k pos :: r) n σ m KJ X := WE_str ⟨x, rfl, hx, h⟩
theorem WJ_fmt {KJ : Str → List AO → Prop} {n : Nat} {e : Expr} {pos} {r : List Expr} (h : WE c e σ m (fun pv σ1 => ∃ i : Int, pv = .int i ∧ i.natAbs < 2 ^ 64 ∧ WJ c r (n + 1) σ1 m KJ X) X) : WJ c (.FormattedValue e (-1) none pos :: r) n σ m KJ X :=
  WE_fmt (h.mono fun pv σ' ⟨i, e1, e2, e3⟩ => ⟨i, e1, e2, fun y hy => ⟨y, rfl, hy, e3⟩⟩)
theorem xoG (P : Params) : ExcOk (GG.Kw P) GG.xc 28 := ⟨⟨⟨"CorruptError", "CorruptError", 43, [.ref 31], [.ref 31, .type "Exception", .type "BaseException", .type "object"], true, [], [], false, none, none, some (.ref 35), none, some (.str "CorruptError" 218), some (.str "CorruptError" 226), some (.bool true)⟩, by kernel_rfl, by decide, by decide, by decide, by decide⟩, by kernel_rfl, by kernel_rfl, by kernel_rfl⟩
theorem WS1_corrupt (std : c.Std GG) (room : Room c 2) {np cpos pos : Pos} {arg : Expr} (hx : c.env.kindOf "CorruptError" = some .globalImplicit) (h : WL c cpos [arg] σ m (fun as σ' => as.length = 1 ∧ X σ') X)
    (he : ∀ env, starEach [arg] env = (false, eval arg env) :: starEach [] env := by intro _; rfl) : WS1 c (.Raise (some (.Call (.Name "CorruptError" np) [arg] [] cpos)) none pos) σ m Kn Kr X := by
  have hs : ∀ P, excSets (GG.Kw P) GG.xc "message" = true := fun P => by kernel_rfl
  refine WS1_raise (G := GG) (fI := 28) (msg := "message") std room xoG hs (fun _ => rfl) (fun _ => rfl) (fun _ _ => rfl) (by decide) (by decide) rfl rfl rfl (fun _ => rfl) hx ?_ h (he := he)
  rw [std.K]; exact gl_CorruptError _
theorem kinds_in (P : Params) : (GG.Kw P).lookup 68 = some ⟨.type "tuple", none, .seq ((([2, 5, 10, 13] : List Int).zip ([272, 274, 276, 278] : List Tok)).map fun x => Value.int x.1 x.2).toArray 0, #[]⟩ := by kernel_rfl
theorem WO_notinKINDS {i : Int} (hK : ∃ P, c.K = GG.Kw P) (h : K (.bool (!([2, 5, 10, 13] : List Int).contains i)) σ) : WO2 c (compareOp .NotIn) (.int i) (.raw (.ref 68)) σ m K X := by
  obtain ⟨P, hK⟩ := hK
  exact WO_notinK (ns := [2, 5, 10, 13]) (ts := [272, 274, 276, 278]) (by rw [hK]; exact kinds_in P) rfl h
end
noncomputable abbrev by8 (b : List UInt8) (i : Int) : Int := ((b.getD i.toNat 0).toNat : Int)
noncomputable abbrev w2 (b : List UInt8) (i : Int) : Int := by8 b i * 256 + by8 b (i + 1)
noncomputable abbrev w4 (b : List UInt8) (i : Int) : Int := w2 b i * 65536 + w2 b (i + 2)
theorem bits_le_natAbs {a : Int} {n : Nat} (h : a.natAbs < 2 ^ n) : Builtin.Int.intBits a ≤ n := PySem.intBits_le_iff.mpr h
theorem mulOk64 {a b : Int} (ha : a.natAbs < 2 ^ 200) (hb : b.natAbs < 2 ^ 200) : IntMulOk a b := mulOk_of_bits (m := 200) (n := 200) (bits_le_natAbs ha) (bits_le_natAbs hb) (by decide)
theorem by8_lt (b i) : 0 ≤ by8 b i ∧ by8 b i < 256 := by
  have := (b.getD i.toNat 0).toNat_lt
  unfold by8; lia
theorem w2_lt (b i) : 0 ≤ w2 b i ∧ w2 b i < 65536 := by
  have := by8_lt b i; have := by8_lt b (i + 1)
  unfold w2; lia
theorem mulB (x : UInt8) : IntMulOk (x.toNat : Int) 256 := mulOk64 (by have := x.toNat_lt; omega) (by decide)
theorem mulW (b i) : IntMulOk (w2 b i) 65536 := mulOk64 (by have := w2_lt b i; omega) (by decide)
end Nv
end
section
open PySem PySem.W PySem.Calls PyProof.Rows PyProof.V PySem.Spec
namespace Nv
@[irreducible] noncomputable def Stop (p : Prop) : Prop := p
theorem unstop {p : Prop} (h : p) : Stop p := by unfold Stop; exact h
theorem ofStop {p : Prop} (h : Stop p) : p := by unfold Stop at h; exact h
noncomputable def plainE : Expr → Bool
  | .Name .. => true
  | .Constant .. => true
  | .BinOp .. => true
  | .UnaryOp .. => true
  | .Compare .. => true
  | .Call .. => true
  | .Attribute .. => true
  | .Subscript .. => true
  | .Tuple .. => true
  | .List .. => true
  | .IfExp .. => true
  | _ => false
theorem plainE_star {e : Expr} {rest : List Expr} {env : Env} (h : plainE e = true) : starEach (e :: rest) env = (false, eval e env) :: starEach rest env := by
  cases e <;> first | rfl | exact Bool.noConfusion h
theorem plainE_swaps {e : Expr} {t : Option Expr} {n : Nat} {env : Env} (h : plainE e = true) : swapsWith e t n env = pure false := by
  cases e <;> first | rfl | exact Bool.noConfusion h
theorem plainE_marks {e : Expr} {op : CmpOp} (h : plainE e = true) : behindInMarks op e = false := by
  cases e <;> first | rfl | exact Bool.noConfusion h
theorem plainE_sub {e : Expr} {o i : Value} (h : plainE e = true) : subscripted e false o i = operate [o, i] (getItem o i) := by
  cases e <;> first | rfl | exact Bool.noConfusion h
noncomputable def plainEs : List Expr → Bool
  | [] => true
  | e :: r => match plainE e with
    | true => plainEs r
    | false => false
theorem plainEs_any {pos : Pos} {env : Env} : ∀ {es : List Expr}, plainEs es = true → (backTo pos (starEach es env)).any (·.1) = false := by
  intro es h
  induction es with
  | nil => rfl
  | cons e r ih =>
    cases he : plainE e with
    | false => rw [plainEs, he] at h; exact Bool.noConfusion h
    | true =>
      rw [plainEs, he] at h
      rw [plainE_star he]
      exact ih h
inductive Tk where
  | e (e : Expr) (K : PV → List AO → Prop)
  | b (e : Expr) (K : Bool → List AO → Prop)
  | l (pos : Pos) (es : List Expr) (K : List PV → List AO → Prop)
noncomputable def Tk.den (c : Cx) (X : List AO → Prop) (σ : List AO) (m : Nm) : Tk → Prop
  | .e x K => WE c x σ m K X
  | .b x K => WB c x σ m K X
  | .l pos es K => WL c pos es σ m K X
noncomputable def bltTab : List (Str × Value) := [("len", .builtin "len"), ("max", .builtin "max"), ("min", .builtin "min"), ("sum", .builtin "sum"), ("range", .type "range"), ("int", .type "int"), ("bytes", .type "bytes"), ("list", .type "list"), ("bytearray", .type "bytearray")]
theorem bltTab_ok {x : Str} {v : Value} (h : bltTab.lookup x = some v) : bootBuiltins x = some v := by
  have key : ∀ l : List (Str × Value), (∀ p ∈ l, bootBuiltins p.1 = some p.2) → l.lookup x = some v → bootBuiltins x = some v := by
    intro l
    induction l with
    | nil => intro _ h; cases h
    | cons p l ih =>
      intro hp h
      rw [List.lookup] at h
      cases q : x == p.1 with
      | true =>
        rw [q] at h
        rw [beq_iff_eq.mp q, hp p (.head _)]
        exact h
      | false => rw [q] at h; exact ih (fun a ha => hp a (.tail _ ha)) h
  refine key _ (fun p hp => ?_) h
  simp only [bltTab, List.mem_cons, List.not_mem_nil, or_false] at hp
  rcases hp with rfl | rfl | rfl | rfl | rfl | rfl | rfl | rfl | rfl
  all_goals first | exact bb_len | exact bb_max | exact bb_min | exact bb_sum | exact bb_range | exact bb_int | exact bb_bytes | exact bb_list | exact bb_bytearray
noncomputable def vName (c : Cx) (x : Str) (pos : Pos) (σ : List AO) (m : Nm) (K : PV → List AO → Prop) (X : List AO → Prop) : Prop :=
  match (x == ("__debug__" : Str)) || (x == ("__name__" : Str)) with
  | true => Stop (WE c (.Name x pos) σ m K X)
  | false => match c.env.kindOf x with
    | some .local => match c.ns with
      | none => match m.lookup x with
        | some pv => K pv σ
        | none => Stop (WE c (.Name x pos) σ m K X)
      | some mc => match mc.lookup x with
        | some pv => K pv σ
        | none => Stop (WE c (.Name x pos) σ m K X)
    | some .globalImplicit => match nsIn c.K mainGlobals x with
      | some (some (.int i _)) => K (.int i) σ
      | some (some (.ref a)) => K (.raw (.ref a)) σ
      | some (some v) => K (.raw v) σ
      | some none => match bltTab.lookup x with
        | some v => K (.raw v) σ
        | none => Stop (WE c (.Name x pos) σ m K X)
      | none => Stop (WE c (.Name x pos) σ m K X)
    | _ => Stop (WE c (.Name x pos) σ m K X)
noncomputable def vConst (c : Cx) (k : Const) (i : Nat) (pos : Pos) (σ : List AO) (m : Nm) (K : PV → List AO → Prop) (X : List AO → Prop) : Prop := match k with
  | .int n => K (.int n) σ
  | .bool b => K (.bool b) σ
  | .none => K .none σ
  | .str x => K (.str x) σ
  | .bytes b => K (.bytes b) σ
  | k => Stop (WE c (.Constant k i pos) σ m K X)
noncomputable def vBin (c : Cx) (op : Operator) (a b : PV) (σ : List AO) (m : Nm) (K : PV → List AO → Prop) (X : List AO → Prop) : Prop := match a, b with
  | .int x, .int y => match op with
    | .Add => K (.int (x + y)) σ
    | .Sub => K (.int (x - y)) σ
    | .BitAnd => K (.int (Builtin.bitAnd x y)) σ
    | .BitOr => K (.int (Builtin.bitOr x y)) σ
    | op => Stop (WO2 c (binaryOp op) (.int x) (.int y) σ m K X)
  | a, b => Stop (WO2 c (binaryOp op) a b σ m K X)
noncomputable def vUn (c : Cx) (op : UnaryOp) (a : PV) (σ : List AO) (m : Nm) (K : PV → List AO → Prop) (X : List AO → Prop) : Prop := match op, a with
  | .USub, .int x => K (.int (-x)) σ
  | .Not, .bool b => K (.bool (!b)) σ
  | op, a => Stop (WO1 c (unaryOp op) a σ m K X)
noncomputable def vCmp (c : Cx) (op : CmpOp) (a b : PV) (σ : List AO) (m : Nm) (K : PV → List AO → Prop) (X : List AO → Prop) : Prop := match a, b with
  | .int x, .int y => match op with
    | .Lt => K (.bool (decide (x < y))) σ
    | .Gt => K (.bool (decide (y < x))) σ
    | .LtE => K (.bool (decide (x ≤ y))) σ
    | .GtE => K (.bool (decide (y ≤ x))) σ
    | .Eq => K (.bool (x == y)) σ
    | .NotEq => K (.bool (x != y)) σ
    | op => Stop (WO2 c (compareOp op) (.int x) (.int y) σ m K X)
  | a, b => Stop (WO2 c (compareOp op) a b σ m K X)
noncomputable def vTruth (c : Cx) (v : PV) (σ : List AO) (m : Nm) (K : Bool → List AO → Prop) (X : List AO → Prop) : Prop := match v with
  | .bool b => K b σ
  | v => Stop (WT c v σ m K X)
noncomputable def vCallee (c : Cx) (f : PV) (k : Value → Prop) (stop : Prop) : Prop := match f with
  | .raw v => match keepOk c.K v with
    | true => k v
    | false => Stop stop
  | _ => Stop stop
noncomputable def vPl (b : Bool) (k stop : Prop) : Prop := match b with
  | true => k
  | false => Stop stop
theorem vPl_ok {b : Bool} {k stop : Prop} (h : vPl b k stop) : (b = true ∧ k) ∨ stop := by
  cases b with
  | true => exact .inl ⟨rfl, h⟩
  | false => exact .inr (ofStop h)
section
variable (go : Tk → List AO → Nm → Prop) (c : Cx) (X : List AO → Prop)
noncomputable def kBinR (op : Operator) (a : PV) (m : Nm) (K : PV → List AO → Prop) (b : PV) (σ : List AO) : Prop := vBin c op a b σ m K X
noncomputable def kBinL (op : Operator) (r : Expr) (m : Nm) (K : PV → List AO → Prop) (a : PV) (σ : List AO) : Prop := go (.e r (kBinR c X op a m K)) σ m
noncomputable def kUn (op : UnaryOp) (m : Nm) (K : PV → List AO → Prop) (a : PV) (σ : List AO) : Prop := vUn c op a σ m K X
noncomputable def kCmpR (op : CmpOp) (a : PV) (m : Nm) (K : PV → List AO → Prop) (b : PV) (σ : List AO) : Prop := vCmp c op a b σ m K X
noncomputable def kCmpL (op : CmpOp) (r : Expr) (m : Nm) (K : PV → List AO → Prop) (a : PV) (σ : List AO) : Prop := go (.e r (kCmpR c X op a m K)) σ m
noncomputable def kTru (m : Nm) (K : Bool → List AO → Prop) (v : PV) (σ : List AO) : Prop := vTruth c v σ m K X
noncomputable def kIfE (a b : Expr) (m : Nm) (K : PV → List AO → Prop) (v : Bool) (σ : List AO) : Prop := Stop (sel v (WE c a σ m K X) (WE c b σ m K X))
noncomputable def kAttr (name : Str) (m : Nm) (K : PV → List AO → Prop) (ov : PV) (σ : List AO) : Prop := Stop (WO1 c (fun v => getAttr v name true) ov σ m K X)
noncomputable def kSubR (ov : PV) (m : Nm) (K : PV → List AO → Prop) (iv : PV) (σ : List AO) : Prop := Stop (WG c ov iv σ m K X)
noncomputable def kSubL (i : Expr) (m : Nm) (K : PV → List AO → Prop) (ov : PV) (σ : List AO) : Prop := go (.e i (kSubR c X ov m K)) σ m
noncomputable def kCallA (v : Value) (m : Nm) (K : PV → List AO → Prop) (as : List PV) (σ : List AO) : Prop := Stop (WC c v as σ m K X)
noncomputable def kCallF (pos : Pos) (es : List Expr) (m : Nm) (K : PV → List AO → Prop) (fv : PV) (σ : List AO) : Prop := vCallee c fv (fun v => go (.l pos es (kCallA c X v m K)) σ m) False
noncomputable def kTup (K : PV → List AO → Prop) (l : List PV) (σ : List AO) : Prop := vPl (Nat.ble l.length 1000) (K (.tup l) σ) False
noncomputable def kLst (K : PV → List AO → Prop) (l : List PV) (σ : List AO) : Prop := vPl (Nat.ble l.length 1000) (K (.loc σ.length) (σ ++ [.list l])) False
noncomputable def kNot (K : Bool → List AO → Prop) (b : Bool) (σ : List AO) : Prop := K (!b) σ
noncomputable def kArg1 (pv : PV) (K : List PV → List AO → Prop) (l : List PV) (σ : List AO) : Prop := K (pv :: l) σ
noncomputable def kArg (pos : Pos) (rest : List Expr) (m : Nm) (K : List PV → List AO → Prop) (pv : PV) (σ : List AO) : Prop := go (.l pos rest (kArg1 pv K)) σ m
noncomputable def kOr (es : List Expr) (pos : Pos) (m : Nm) (K : Bool → List AO → Prop) (v : Bool) (σ : List AO) : Prop := Stop (sel v (K true σ) (WB c (.BoolOp .Or es pos) σ m K X))
noncomputable def kAnd (es : List Expr) (pos : Pos) (m : Nm) (K : Bool → List AO → Prop) (v : Bool) (σ : List AO) : Prop := Stop (sel v (WB c (.BoolOp .And es pos) σ m K X) (K false σ))
noncomputable def kStopE (K : PV → List AO → Prop) (v : PV) (σ : List AO) : Prop := Stop (K v σ)
noncomputable def kStopB (K : Bool → List AO → Prop) (v : Bool) (σ : List AO) : Prop := Stop (K v σ)
noncomputable def kStopL (K : List PV → List AO → Prop) (v : List PV) (σ : List AO) : Prop := Stop (K v σ)
end
noncomputable def vX (c : Cx) (X : List AO → Prop) : Nat → Tk → List AO → Nm → Prop
  | 0, t, σ, m => Stop (t.den c X σ m)
  | n + 1, .e e K, σ, m => match e with
    | .Name x pos => vName c x pos σ m K X
    | .Constant k i pos => vConst c k i pos σ m K X
    | .BinOp l op r _ => vX c X n (.e l (kBinL (vX c X n) c X op r m K)) σ m
    | .UnaryOp op x _ => vX c X n (.e x (kUn c X op m K)) σ m
    | .Compare l [op] [r] pos => vPl (plainE r) (vX c X n (.e l (kCmpL (vX c X n) c X op r m K)) σ m) (WE c (.Compare l [op] [r] pos) σ m K X)
    | .IfExp t a b _ => vX c X n (.b t (kIfE c X a b m K)) σ m
    | .Attribute (.Name f p) name _ => vX c X n (.e (.Name f p) (kAttr c X name m K)) σ m
    | .Subscript v i pos => vPl (plainE i) (vX c X n (.e v (kSubL (vX c X n) c X i m K)) σ m) (WE c (.Subscript v i pos) σ m K X)
    | .Call (.Name f p) (e :: rest) [] pos => vPl (plainEs (e :: rest)) (vX c X n (.e (.Name f p) (kCallF (vX c X n) c X pos (e :: rest) m K)) σ m) (WE c (.Call (.Name f p) (e :: rest) [] pos) σ m K X)
    | .Tuple es _ pos => vX c X n (.l pos es (kTup K)) σ m
    | .List es pos => vX c X n (.l pos es (kLst K)) σ m
    | e => Stop (WE c e σ m K X)
  | n + 1, .b e K, σ, m => match e with
    | .Compare l [op] [r] pos => vPl (plainE r) (vX c X n (.e l (kCmpL (vX c X n) c X op r m (kTru c X m K))) σ m) (WB c (.Compare l [op] [r] pos) σ m K X)
    | .UnaryOp .Not x _ => vX c X n (.b x (kNot K)) σ m
    | .Name x pos => vX c X n (.e (.Name x pos) (kTru c X m K)) σ m
    | .Call f as ks pos => vX c X n (.e (.Call f as ks pos) (kTru c X m K)) σ m
    | .BoolOp op es pos => match op, es with
      | .Or, e :: es => vX c X n (.b e (kOr c X es pos m K)) σ m
      | .And, e :: es => vX c X n (.b e (kAnd c X es pos m K)) σ m
      | .Or, [] => K false σ
      | .And, [] => K true σ
    | e => Stop (WB c e σ m K X)
  | n + 1, .l pos es K, σ, m => match es with
    | [] => K [] σ
    | e :: rest => vPl (plainE e) (vX c X n (.e e (kArg (vX c X n) pos rest m K)) σ m) (WL c pos (e :: rest) σ m K X)
section
variable {c : Cx} {σ : List AO} {m : Nm} {X : List AO → Prop}
theorem WE.imp {e : Expr} {K K' : PV → List AO → Prop} (h : WE c e σ m K X) (i : ∀ v σ', K v σ' → K' v σ') : WE c e σ m K' X := fun T R s st Q E q ex => h T R s st Q E (fun v pv T' R' σ' s' g S r k => q v pv T' R' σ' s' g S r (i _ _ k)) ex
theorem WB.imp {e : Expr} {K K' : Bool → List AO → Prop} (h : WB c e σ m K X) (i : ∀ v σ', K v σ' → K' v σ') : WB c e σ m K' X := fun T R s st Q E q ex => h T R s st Q E (fun b T' R' σ' s' g S k => q b T' R' σ' s' g S (i _ _ k)) ex
theorem WL.imp {pos : Pos} {e : List Expr} {K K' : List PV → List AO → Prop} (h : WL c pos e σ m K X) (i : ∀ v σ', K v σ' → K' v σ') : WL c pos e σ m K' X := fun T R s st Q E q ex => h T R s st Q E (fun v pv T' R' σ' s' g S r k => q v pv T' R' σ' s' g S r (i _ _ k)) ex
theorem WO2.imp {t : Value → Value → Sem Value} {a b : PV} {K K' : PV → List AO → Prop} (h : WO2 c t a b σ m K X) (i : ∀ v σ', K v σ' → K' v σ') : WO2 c t a b σ m K' X := fun T R s v u st r1 r2 Q E q ex => h T R s v u st r1 r2 Q E (fun v pv T' R' σ' s' g S r k => q v pv T' R' σ' s' g S r (i _ _ k)) ex
theorem WM.imp {ov : PV} {name : Str} {K K' : Value → List PV → List AO → Prop} (h : WM c ov name σ m K X) (i : ∀ f l σ', K f l σ' → K' f l σ') : WM c ov name σ m K' X := fun T R s v pl st r Q E q ex => h T R s v pl st r Q E (fun f first l T' R' σ' s' g S rs k => q f first l T' R' σ' s' g S rs (i _ _ _ k)) ex
theorem plainEs_cons {e : Expr} {rest : List Expr} (hp : plainEs (e :: rest) = true) : plainE e = true ∧ plainEs rest = true := by
  unfold plainEs at hp
  cases q : plainE e with
  | true => rw [q] at hp; exact ⟨rfl, hp⟩
  | false => rw [q] at hp; exact Bool.noConfusion hp
theorem WN.imp {x : Str} {pv : PV} {K K' : Nm → List AO → Prop} (h : WN c x pv σ m K) (i : ∀ m' σ', K m' σ' → K' m' σ') : WN c x pv σ m K' := fun T R s v st r Q E q => h T R s v st r Q E (fun m' R' σ' s' g S k => q m' R' σ' s' g S (i _ _ k))
theorem WS.impN {ss : List Stmt} {Kn Kn' : Nm → List AO → Prop} {Kr : PV → List AO → Prop} (h : WS c ss σ m Kn Kr X) (i : ∀ m' σ', Kn m' σ' → Kn' m' σ') : WS c ss σ m Kn' Kr X := fun T R s st Q E q1 q2 ex => h T R s st Q E (fun m' T' R' σ' s' g S k => q1 m' T' R' σ' s' g S (i _ _ k)) q2 ex
theorem vName_ok {x : Str} {pos : Pos} {K : PV → List AO → Prop} (h : vName c x pos σ m K X) : WE c (.Name x pos) σ m K X := by
  unfold vName at h
  cases hd : (x == ("__debug__" : Str)) || (x == ("__name__" : Str)) with
  | true => rw [hd] at h; exact ofStop h
  | false =>
    rw [hd] at h
    obtain ⟨hd, hn⟩ := Bool.or_eq_false_iff.mp hd
    have hn : x ≠ "__name__" := fun e => by rw [beq_eq_false_iff_ne] at hn; exact hn e
    revert h
    cases hk : c.env.kindOf x with
    | none => exact ofStop
    | some k =>
      cases k with
      | «local» =>
        cases h1 : c.ns with
        | none => cases h2 : m.lookup x with
          | none => exact ofStop
          | some pv => exact fun h => WE_loc h1 hk h2 h hd
        | some mc =>
          cases h2 : mc.lookup x with
          | none => intro h; simp only [h2] at h; exact ofStop h
          | some pv => intro h; simp only [h2] at h; exact WE_cns h1 hk h2 h hd
      | globalImplicit =>
        cases h1 : nsIn c.K mainGlobals x with
        | none => exact ofStop
        | some o =>
          cases o with
          | none => cases h2 : bltTab.lookup x with
            | none => exact ofStop
            | some v => exact fun h => WE_bltn hk h1 (bltTab_ok h2) h hn hd
          | some v => cases v <;> first | exact fun h => WE_globI hk h1 h hd | exact fun h => WE_glob hk h1 h hd
      | _ => exact ofStop
theorem vConst_ok {k : Const} {i : Nat} {pos : Pos} {K : PV → List AO → Prop} (h : vConst c k i pos σ m K X) : WE c (.Constant k i pos) σ m K X := by
  cases k <;> first | exact WE_int h | exact WE_bool h | exact WE_none h | exact WE_str h | exact WE_bytes h | exact ofStop h
theorem vBin_ok {op : Operator} {a b : PV} {K : PV → List AO → Prop} (h : vBin c op a b σ m K X) : WO2 c (binaryOp op) a b σ m K X := by
  cases a <;> first | exact ofStop h | (cases b <;> first | exact ofStop h | (cases op <;> first | exact WO_add h | exact WO_sub h | exact WO_and h | exact WO_or h | exact ofStop h))
theorem vUn_ok {op : UnaryOp} {a : PV} {K : PV → List AO → Prop} (h : vUn c op a σ m K X) : WO1 c (unaryOp op) a σ m K X := by
  cases op <;> first | exact ofStop h | (cases a <;> first | exact WO_neg h | exact WO_not h | exact ofStop h)
theorem vCmp_ok {op : CmpOp} {a b : PV} {K : PV → List AO → Prop} (h : vCmp c op a b σ m K X) : WO2 c (compareOp op) a b σ m K X := by
  cases a <;> first | exact ofStop h | (cases b <;> first | exact ofStop h | (cases op <;> first | exact WO_lt h | exact WO_gt h | exact WO_le h | exact WO_ge h | exact WO_eqI h | exact WO_neI h | exact ofStop h))
theorem vTruth_ok {v : PV} {K : Bool → List AO → Prop} (h : vTruth c v σ m K X) : WT c v σ m K X := by
  cases v <;> first | exact WT_bool h | exact ofStop h
theorem vCallee_ok {f : PV} {k : Value → Prop} (h : vCallee c f k False) : ∃ v, f = .raw v ∧ keepOk c.K v = true ∧ k v := by
  cases f with
  | raw v =>
    unfold vCallee at h
    cases hk : keepOk c.K v with
    | true => simp only [hk] at h; exact ⟨_, rfl, hk, h⟩
    | false => simp only [hk] at h; exact (ofStop h).elim
  | _ => exact (ofStop h).elim
theorem vX_ok : ∀ (n : Nat) (t : Tk) (σ : List AO) (m : Nm), vX c X n t σ m → t.den c X σ m
  | 0, t, σ, m, h => ofStop h
  | n + 1, .e e K, σ, m, h => by
    have ihE : ∀ {e : Expr} {K : PV → List AO → Prop} {σ : List AO}, vX c X n (.e e K) σ m → WE c e σ m K X := fun h => vX_ok n (.e _ _) _ _ h
    have ihB : ∀ {e : Expr} {K : Bool → List AO → Prop} {σ : List AO}, vX c X n (.b e K) σ m → WB c e σ m K X := fun h => vX_ok n (.b _ _) _ _ h
    have ihL : ∀ {pos : Pos} {e : List Expr} {K : List PV → List AO → Prop} {σ : List AO}, vX c X n (.l pos e K) σ m → WL c pos e σ m K X := fun h => vX_ok n (.l _ _ _) _ _ h
    show WE c e σ m K X
    cases e with
    | Name x pos => exact vName_ok h
    | Constant k i pos => exact vConst_ok h
    | BinOp l op r pos => exact WE_bin ((ihE h).imp fun _ _ h => (ihE h).imp fun _ _ h => vBin_ok h)
    | UnaryOp op x pos => exact WE_un ((ihE h).imp fun _ _ h => vUn_ok h)
    | Compare l ops rs pos =>
      match ops, rs, h with
      | [op], [r], h => exact (vPl_ok h).elim (fun ⟨hp, h⟩ => WE_cmp ((ihE h).imp fun _ _ h => (ihE h).imp fun _ _ h => vCmp_ok h) (plainE_marks hp)) id
      | [], _, h => exact ofStop h
      | [_], [], h => exact ofStop h
      | [_], _ :: _ :: _, h => exact ofStop h
      | _ :: _ :: _, _, h => exact ofStop h
    | IfExp t a b pos => exact WE_ife ((ihB h).imp fun v _ h => by cases v <;> exact ofStop h)
    | Attribute o name pos =>
      cases o with
      | Name f p => exact WE_attr ((ihE h).imp fun _ _ h => ofStop h)
      | _ => exact ofStop h
    | Subscript v i pos => exact (vPl_ok h).elim (fun ⟨hp, h⟩ => WE_sub ((ihE h).imp fun _ _ h => (ihE h).imp fun _ _ h => ofStop h) (fun _ _ => plainE_sub hp)) id
    | Call f args ks pos =>
      cases f with
      | Name f p =>
        match args, ks, h with
        | e :: rest, [], h => exact (vPl_ok h).elim (fun ⟨hp, h⟩ => WE_call ((ihE h).imp fun _ _ h => let ⟨v, h1, h2, h3⟩ := vCallee_ok h; ⟨v, h1, h2, (ihL h3).imp fun _ _ h => ofStop h⟩) (fun _ => rfl) (fun _ => plainE_star (plainEs_cons hp).1) (fun _ => plainEs_any (plainEs_cons hp).2)) id
        | [], [], h => exact ofStop h
        | [], _ :: _, h => exact ofStop h
        | _ :: _, _ :: _, h => exact ofStop h
      | _ => exact ofStop h
    | Tuple es k pos => exact WE_tup ((ihL h).imp fun l _ h => (vPl_ok h).elim (fun ⟨q, h⟩ => ⟨Nat.le_of_ble_eq_true q, h⟩) False.elim)
    | List es pos => exact WE_list ((ihL h).imp fun l _ h => (vPl_ok h).elim (fun ⟨q, h⟩ => ⟨Nat.le_of_ble_eq_true q, h⟩) False.elim)
    | _ => exact ofStop h
  | n + 1, .b e K, σ, m, h => by
    have ihE : ∀ {e : Expr} {K : PV → List AO → Prop} {σ : List AO}, vX c X n (.e e K) σ m → WE c e σ m K X := fun h => vX_ok n (.e _ _) _ _ h
    have ihB : ∀ {e : Expr} {K : Bool → List AO → Prop} {σ : List AO}, vX c X n (.b e K) σ m → WB c e σ m K X := fun h => vX_ok n (.b _ _) _ _ h
    show WB c e σ m K X
    cases e with
    | Name x pos => exact WB_plain ((ihE h).imp fun _ _ h => vTruth_ok h)
    | Call f as ks pos => exact WB_plain ((ihE h).imp fun _ _ h => vTruth_ok h)
    | UnaryOp op x pos =>
      cases op with
      | Not => exact WB_not (ihB h)
      | _ => exact ofStop h
    | Compare l ops rs pos =>
      match ops, rs, h with
      | [op], [r], h => exact (vPl_ok h).elim (fun ⟨hp, h⟩ => WB_cmp ((ihE h).imp fun _ _ h => (ihE h).imp fun _ _ h => WO2.imp (vCmp_ok h) fun _ _ h => vTruth_ok h) (plainE_marks hp)) id
      | [], _, h => exact ofStop h
      | [_], [], h => exact ofStop h
      | [_], _ :: _ :: _, h => exact ofStop h
      | _ :: _ :: _, _, h => exact ofStop h
    | BoolOp op es pos =>
      cases op with
      | Or => cases es with
        | nil => exact WB_or0 h
        | cons e es => exact WB_or1 ((ihB h).imp fun v _ h => by cases v <;> exact ofStop h)
      | And => cases es with
        | nil => exact WB_and0 h
        | cons e es => exact WB_and1 ((ihB h).imp fun v _ h => by cases v <;> exact ofStop h)
    | _ => exact ofStop h
  | n + 1, .l pos es K, σ, m, h => by
    have ihE : ∀ {e : Expr} {K : PV → List AO → Prop} {σ : List AO}, vX c X n (.e e K) σ m → WE c e σ m K X := fun h => vX_ok n (.e _ _) _ _ h
    have ihL : ∀ {pos : Pos} {e : List Expr} {K : List PV → List AO → Prop} {σ : List AO}, vX c X n (.l pos e K) σ m → WL c pos e σ m K X := fun h => vX_ok n (.l _ _ _) _ _ h
    show WL c pos es σ m K X
    cases es with
    | nil => exact WL_nil h
    | cons e rest =>
      exact (vPl_ok h).elim (fun ⟨hp, h⟩ => WL_cons ((ihE h).imp fun _ _ h => ihL h) (fun _ => plainE_star hp)) id
end
noncomputable def vBind (c : Cx) (x : Str) (pv : PV) (σ : List AO) (m : Nm) (Kn : Nm → List AO → Prop) : Prop := match c.ns, c.env.kindOf x with
  | none, some .local => Kn ((x, pv) :: m) σ
  | _, _ => Stop (WN c x pv σ m Kn)
noncomputable def vInp (c : Cx) (op : Operator) (a b : PV) (σ : List AO) (m : Nm) (K : PV → List AO → Prop) (X : List AO → Prop) : Prop := match op, a, b with
  | .Add, .int x, .int y => K (.int (x + y)) σ
  | op, a, b => Stop (WO2 c (inplaceOp op) a b σ m K X)
noncomputable def vNone (pv : PV) (p : Prop) : Prop := match pv with
  | .none => p
  | _ => False
noncomputable def vG (b : Bool) (k stop : Prop) : Prop := match b with
  | true => k
  | false => stop
theorem vG_ok {b : Bool} {k stop : Prop} (h : vG b k stop) : (b = true ∧ k) ∨ stop := by
  cases b with
  | true => exact .inl ⟨rfl, h⟩
  | false => exact .inr h
noncomputable def vAug (c : Cx) (x : Str) (m : Nm) (k : PV → Prop) (stop : Prop) : Prop := match c.ns, c.env.kindOf x, m.lookup x with
  | none, some .local, some a => k a
  | _, _, _ => stop
theorem vAug_ok {c : Cx} {x : Str} {m : Nm} {k : PV → Prop} {stop : Prop} (h : vAug c x m k stop) : (∃ a, c.ns = none ∧ c.env.kindOf x = some .local ∧ m.lookup x = some a ∧ k a) ∨ stop := by
  unfold vAug at h
  cases h1 : c.ns with
  | some mc => rw [h1] at h; exact .inr h
  | none =>
    rw [h1] at h
    cases h2 : c.env.kindOf x with
    | none => rw [h2] at h; exact .inr h
    | some kk => rw [h2] at h; cases kk <;> first | exact .inr h | (cases h3 : m.lookup x with
      | none => rw [h3] at h; exact .inr h
      | some a => rw [h3] at h; exact .inl ⟨a, rfl, rfl, rfl, h⟩)
noncomputable def kBind (c : Cx) (x : Str) (m : Nm) (Kn : Nm → List AO → Prop) (pv : PV) (σ : List AO) : Prop := vBind c x pv σ m Kn
noncomputable def kInp (c : Cx) (X : List AO → Prop) (op : Operator) (a : PV) (m : Nm) (K : PV → List AO → Prop) (b : PV) (σ : List AO) : Prop := vInp c op a b σ m K X
noncomputable def kExp (m : Nm) (Kn : Nm → List AO → Prop) (pv : PV) (σ : List AO) : Prop := vNone pv (Kn m σ)
noncomputable def kIf (c : Cx) (X : List AO → Prop) (Kr : PV → List AO → Prop) (Kn : Nm → List AO → Prop) (a b : List Stmt) (m : Nm) (v : Bool) (σ : List AO) : Prop := Stop (sel v (WS c a σ m Kn Kr X) (WS c b σ m Kn Kr X))
noncomputable def kStopN (Kn : Nm → List AO → Prop) (m : Nm) (σ : List AO) : Prop := Stop (Kn m σ)
noncomputable def vS (c : Cx) (s : Stmt) (σ : List AO) (m : Nm) (Kn : Nm → List AO → Prop) (Kw : Nm → List AO → Prop) (Kr : PV → List AO → Prop) (X : List AO → Prop) (stop : Prop) : Prop := match s with
  | .Return e _ => match e with
    | some e => vX c X 60 (.e e (kStopE Kr)) σ m
    | none => stop
  | .Assign ts e _ => match ts with
    | [t] => match t with
      | .Name x _ => vG (plainE e) (vX c X 60 (.e e (kBind c x m Kn)) σ m) stop
      | _ => stop
    | _ => stop
  | .If t a b _ => vX c X 60 (.b t (kIf c X Kr Kw a b m)) σ m
  | .Expr e _ => vG (plainE e && !interactive c.env) (vX c X 60 (.e e (kExp m Kn)) σ m) stop
  | .AugAssign t op e _ => match t with
    | .Name x _ => vAug c x m (fun a => vX c X 60 (.e e (kInp c X op a m (kBind c x m Kn))) σ m) stop
    | _ => stop
  | _ => stop
section
variable {c : Cx} {σ : List AO} {m : Nm} {Kn : Nm → List AO → Prop} {Kr : PV → List AO → Prop} {X : List AO → Prop}
theorem vBind_all {x : Str} {pv : PV} (h : vBind c x pv σ m Kn) : WN c x pv σ m Kn := by
  unfold vBind at h
  cases h1 : c.ns with
  | some mc => rw [h1] at h; exact ofStop h
  | none =>
    rw [h1] at h
    cases h2 : c.env.kindOf x with
    | none => rw [h2] at h; exact ofStop h
    | some k => rw [h2] at h; cases k <;> first | exact WN_loc h1 h2 h | exact ofStop h
theorem vInp_ok {op : Operator} {a b : PV} {K : PV → List AO → Prop} (h : vInp c op a b σ m K X) : WO2 c (inplaceOp op) a b σ m K X := by
  cases op <;> first | exact ofStop h | (cases a <;> first | exact ofStop h | (cases b <;> first | exact WO_iadd h | exact ofStop h))
theorem vS_all {s : Stmt} {Kn' Kw : Nm → List AO → Prop} {stop : Prop} (hK : ∀ m' σ', Kn' m' σ' → Kn m' σ') (hW : ∀ m' σ', Kw m' σ' → Kn m' σ') (hs : stop → WS1 c s σ m Kn Kr X) (h : vS c s σ m Kn' Kw Kr X stop) : WS1 c s σ m Kn Kr X := by
  have ihE : ∀ {e : Expr} {K : PV → List AO → Prop}, vX c X 60 (.e e K) σ m → WE c e σ m K X := fun h => vX_ok 60 (.e _ _) _ _ h
  cases s with
  | Return e pos => cases e with
    | none => exact hs h
    | some e => exact WS1_ret ((ihE h).imp fun _ _ h => ofStop h)
  | Assign ts e pos =>
    cases ts with
    | nil => exact hs h
    | cons t r => cases r with
      | cons _ _ => exact hs h
      | nil => cases t with
        | Name x p => exact (vG_ok h).elim (fun ⟨hp, h⟩ => WS1_asg ((ihE h).imp fun _ _ h => (vBind_all h).imp hK) (plainE_swaps hp)) hs
        | _ => exact hs h
  | If t a b pos => exact WS1_if (WB.imp (vX_ok 60 (.b _ _) _ _ h) fun v _ h => by
      have h := ofStop h
      cases v <;> exact WS.impN h hW)
  | AugAssign t op e pos =>
    cases t with
    | Name x p => exact (vAug_ok h).elim (fun ⟨a, h1, h2, h3, h⟩ => WS1_aug h1 h2 h3 ((ihE h).imp fun _ _ h => (vInp_ok h).imp fun _ _ h => (vBind_all h).imp hK)) hs
    | _ => exact hs h
  | Expr e pos =>
    refine (vG_ok h).elim (fun ⟨hp, h⟩ => ?_) hs
    have hq := Bool.and_eq_true_iff.mp hp
    exact WS1_expr ((ihE h).imp fun pv _ h => by cases pv <;> first | exact ⟨rfl, hK _ _ h⟩ | exact h.elim) (by have := hq.2; revert this; cases interactive c.env <;> decide) (plainE_swaps hq.1)
  | _ => exact hs h
theorem vS_ok {s : Stmt} (h : vS c s σ m (kStopN Kn) Kn Kr X False) : WS1 c s σ m Kn Kr X := vS_all (fun _ _ h => ofStop h) (fun _ _ h => h) False.elim h
theorem WE_vx {e : Expr} {K : PV → List AO → Prop} (h : vX c X 60 (.e e (kStopE K)) σ m) : WE c e σ m K X := (vX_ok 60 (.e _ _) _ _ h).imp fun _ _ h => ofStop h
theorem WB_vx {e : Expr} {K : Bool → List AO → Prop} (h : vX c X 60 (.b e (kStopB K)) σ m) : WB c e σ m K X := (vX_ok 60 (.b _ _) _ _ h).imp fun _ _ h => ofStop h
theorem WL_vx {pos : Pos} {es : List Expr} {K : List PV → List AO → Prop} (h : vX c X 60 (.l pos es (kStopL K)) σ m) : WL c pos es σ m K X := (vX_ok 60 (.l _ _ _) _ _ h).imp fun _ _ h => ofStop h
theorem WE_vs {e : Expr} {K : PV → List AO → Prop} (hp : plainE e = true) (h : vX c X 60 (.e e (kStopE K)) σ m) : WE c e σ m K X := WE_vx h
theorem WE_nm {x : Str} {pos : Pos} {K : PV → List AO → Prop} (hk : c.env.kindOf x = some .globalImplicit) (h : vName c x pos σ m (kStopE K) X) : WE c (.Name x pos) σ m K X := (vName_ok h).imp fun _ _ h => ofStop h
theorem WE_vcmp {l r : Expr} {op : CmpOp} {pos : Pos} {K : PV → List AO → Prop} (hp : plainE r = true) (h : vX c X 60 (.e (.Compare l [op] [r] pos) (kStopE K)) σ m) : WE c (.Compare l [op] [r] pos) σ m K X := WE_vx h
theorem WB_vcmp {l r : Expr} {op : CmpOp} {pos : Pos} {K : Bool → List AO → Prop} (hp : plainE r = true) (h : vX c X 60 (.b (.Compare l [op] [r] pos) (kStopB K)) σ m) : WB c (.Compare l [op] [r] pos) σ m K X := WB_vx h
theorem WE_vsub {v i : Expr} {pos : Pos} {K : PV → List AO → Prop} (hp : plainE i = true) (h : vX c X 60 (.e (.Subscript v i pos) (kStopE K)) σ m) : WE c (.Subscript v i pos) σ m K X := WE_vx h
theorem WE_vcall {f : Str} {e : Expr} {rest : List Expr} {p pos : Pos} {K : PV → List AO → Prop} (hp : plainEs (e :: rest) = true) (h : vX c X 60 (.e (.Call (.Name f p) (e :: rest) [] pos) (kStopE K)) σ m) : WE c (.Call (.Name f p) (e :: rest) [] pos) σ m K X := WE_vx h
theorem WL_vl {e : Expr} {rest : List Expr} {pos : Pos} {K : List PV → List AO → Prop} (hp : plainE e = true) (h : vX c X 60 (.l pos (e :: rest) (kStopL K)) σ m) : WL c pos (e :: rest) σ m K X := WL_vx h
end
theorem wp_app {M : Model} {Γ : PySem.Ctx} {env : Env} {rest : List Stmt} {post : Flow → Pos → Shared → Prop} {exc : Value → Pos → Shared → Prop} (a : List Stmt) : ∀ (p : Pos) (s : Shared), Sem.wp M Γ (execs (a ++ rest) env) post exc p s →
    Sem.wp M Γ (execs a env) (fun f p' s' => match f with | .next => Sem.wp M Γ (execs rest env) post exc p' s' | f => post f p' s') exc p s := by
  induction a with
  | nil => intro p s h; rw [execs_nil, Sem.wp_pure']; exact h
  | cons st a ih =>
    intro p s h
    rw [List.cons_append, execs_cons, Sem.wp_bind'] at h
    rw [execs_cons, Sem.wp_bind']
    refine Sem.wp_mono M Γ _ (fun f p' s' h' => ?_) (fun _ _ _ h' => h') _ _ h
    cases f with
    | next => exact ih p' s' h'
    | _ => first | (rw [Sem.wp_pure'] at h' ⊢; exact h')
theorem WS_if {c : Cx} {σ : List AO} {m : Nm} {Kn : Nm → List AO → Prop} {Kr : PV → List AO → Prop} {X : List AO → Prop} {t : Expr} {a b rest : List Stmt} {pos : Pos}
    (h : WB c t σ m (fun v σ1 => match v with | true => WS c (a ++ rest) σ1 m Kn Kr X | false => WS c (b ++ rest) σ1 m Kn Kr X) X) : WS c (.If t a b pos :: rest) σ m Kn Kr X := by
  intro T R s st Q E q1 q2 ex Γ p hΓ
  have := WS1_if (pos := pos) h T R s st Q E q1 q2 ex Γ p hΓ
  simp only [execs_cons, exec_If, Sem.wp_bind', Sem.wp_cmd_standAt] at this ⊢
  refine Sem.wp_mono _ Γ _ (fun v p' s' h' => ?_) (fun _ _ _ h' => h') _ _ this
  cases v with
  | true =>
    rw [if_pos rfl] at h' ⊢
    refine Sem.wp_mono _ Γ _ (fun f p' s' h' => ?_) (fun _ _ _ h' => h') _ _ (wp_app a _ _ h')
    cases f with
    | next => exact h'
    | _ => first | (rw [Sem.wp_pure']; exact h')
  | false =>
    rw [if_neg Bool.false_ne_true] at h' ⊢
    refine Sem.wp_mono _ Γ _ (fun f p' s' h' => ?_) (fun _ _ _ h' => h') _ _ (wp_app b _ _ h')
    cases f with
    | next => exact h'
    | _ => first | (rw [Sem.wp_pure']; exact h')
noncomputable def vBk (c : Cx) (Kr : PV → List AO → Prop) (X : List AO → Prop) (Kn : Nm → List AO → Prop) : List Stmt → Nm → List AO → Prop
  | [], m, σ => Stop (Kn m σ)
  | s :: rest, m, σ => match s with
    | .If t a b _ => vX c X 60 (.b t (kIf c X Kr Kn (a ++ rest) (b ++ rest) m)) σ m
    | s => vS c s σ m (vBk c Kr X Kn rest) (fun m' σ' => WS c rest σ' m' Kn Kr X) Kr X (Stop (WS1 c s σ m (vBk c Kr X Kn rest) Kr X))
section
variable {c : Cx} {Kr : PV → List AO → Prop} {X : List AO → Prop}
theorem WS1.impN {s : Stmt} {σ : List AO} {m : Nm} {Kn Kn' : Nm → List AO → Prop} (h : WS1 c s σ m Kn Kr X) (i : ∀ m' σ', Kn m' σ' → Kn' m' σ') : WS1 c s σ m Kn' Kr X := fun T R s st Q E q1 => h T R s st Q E (fun m' T' R' σ' s' g S k => q1 m' T' R' σ' s' g S (i m' σ' k))
theorem vBk_ok {Kn : Nm → List AO → Prop} (ss : List Stmt) : ∀ (m : Nm) (σ : List AO), vBk c Kr X Kn ss m σ → WS c ss σ m Kn Kr X := by
  induction ss with
  | nil => exact fun m σ h => WS_nil (ofStop h)
  | cons s rest ih =>
    intro m σ h
    cases s with
    | If t a b pos => exact WS_if (WB.imp (vX_ok 60 (.b _ _) _ _ h) fun v _ h => by cases v <;> exact ofStop h)
    | _ => exact WS_cons (vS_all (fun _ _ h => ih _ _ h) (fun _ _ h => h) (fun h => (ofStop h).impN fun _ _ h => ih _ _ h) h)
theorem WS_vb {s : Stmt} {rest : List Stmt} {σ : List AO} {m : Nm} {Kn : Nm → List AO → Prop} (h : vBk c Kr X Kn (s :: rest) m σ) : WS c (s :: rest) σ m Kn Kr X := vBk_ok _ _ _ h
end
section
variable {p q : Prop}
theorem mtt {b : Bool} (h : b = true) (k : p) : sel b p q := by subst h; exact k
theorem mff {b : Bool} (h : b = false) (k : q) : sel b p q := by subst h; exact k
theorem mdec {P : Prop} [Decidable P] (h1 : P → p) (h2 : ¬P → q) : sel (decide P) p q := by
  by_cases h : P
  · exact mtt (decide_eq_true h) (h1 h)
  · exact mff (decide_eq_false h) (h2 h)
theorem mbeq {a b : Int} (h1 : a = b → p) (h2 : ¬a = b → q) : sel (a == b) p q := by
  by_cases h : a = b
  · exact mtt (beq_iff_eq.mpr h) (h1 h)
  · exact mff (beq_eq_false_iff_ne.mpr h) (h2 h)
theorem msel {b : Bool} (h1 : b = true → p) (h2 : b = false → q) : sel b p q := by
  cases b
  · exact h2 rfl
  · exact h1 rfl
theorem mbne {a b : Int} (h1 : ¬a = b → p) (h2 : a = b → q) : sel (a != b) p q := by
  by_cases h : a = b
  · exact mff (by rw [h, bne_self_eq_false]) (h2 h)
  · exact mtt (bne_iff_ne.mpr h) (h1 h)
end
section
variable {c : Cx} {σ : List AO} {m m₂ : Nm} {Kn : Nm → List AO → Prop} {Kr : PV → List AO → Prop} {X : List AO → Prop}
theorem WS.wk {ss : List Stmt} (w : Wk m₂ m) (h : WS c ss σ m₂ Kn Kr X) : WS c ss σ m Kn Kr X := fun T R s st => h T R s (st.wk w)
theorem WTg.wk {t : Expr} {pv : PV} (w : Wk m₂ m) (h : WTg c t pv σ m₂ Kn) : WTg c t pv σ m Kn := fun T R s v st => h T R s v (st.wk w)
end
theorem WE_selj {c : Cx} {a b : Expr} {σ : List AO} {m : Nm} {K : PV → List AO → Prop} {X : List AO → Prop} {v : Bool} (P : PV → Prop) (h1 : v = true → WE c a σ m (fun pv σ' => σ = σ' ∧ P pv) X) (h2 : v = false → WE c b σ m (fun pv σ' => σ = σ' ∧ P pv) X)
    (h : ∀ pv, P pv → K pv σ) : sel v (WE c a σ m K X) (WE c b σ m K X) := by
  cases v
  · exact (h2 rfl).imp fun pv _ h' => h'.1 ▸ h pv h'.2
  · exact (h1 rfl).imp fun pv _ h' => h'.1 ▸ h pv h'.2
end Nv
end
section
open PySem PySem.W PySem.Calls PyProof.Rows PyProof.V PySem.Spec
namespace Nv
section
variable {c : Cx} {σ : List AO} {m : Nm} {K : PV → List AO → Prop} {X : List AO → Prop}
theorem ct_two_at (std : c.Std GG) (room : Room c 1) {n : Nat} {b : List UInt8} {i : Int} (e : σ[n]? = some (.ba b)) (hz : b.length ≤ 1000) (h0 : 0 ≤ i) (h1 : i + 1 < b.length) (h : K (.int (w2 b i)) σ) : WC c (.ref 75) [.loc n, .int i] σ m K X := by
  refine WCo.wc <| WCo_def (names := ["octets", "at"]) std room (fun _ => rfl) (fun _ => rfl) (fun _ _ => rfl) rfl rfl (by decide) rfl rfl rfl ?_
  intro P ok rm
  (refine WS_vb (unstop ?_); refine WG_ba (by assumption) (by lia) (by assumption) (by lia) ?_; refine unstop ?_; refine WO_mul (mulB _) ?_; refine unstop ?_; refine WG_ba (by assumption) (by lia) (by lia) (by assumption) ?_; refine unstop ?_)
  first | exact h | exact unstop (h)
theorem ct_four_at (std : c.Std GG) (room : Room c 2) {n : Nat} {b : List UInt8} {i : Int} (e : σ[n]? = some (.ba b)) (hz : b.length ≤ 1000) (h0 : 0 ≤ i) (h1 : i + 3 < b.length) (h : K (.int (w4 b i)) σ) : WC c (.ref 82) [.loc n, .int i] σ m K X := by
  refine WCo.wc <| WCo_def (names := ["octets", "at"]) std room (fun _ => rfl) (fun _ => rfl) (fun _ _ => rfl) rfl rfl (by decide) rfl rfl rfl ?_
  intro P ok rm
  refine WS_vb (unstop ?_)
  refine ct_two_at (Gl.at_std ..) rm e hz h0 (by lia) ?_
  (refine unstop ?_; refine WO_mul (mulW _ _) ?_; refine unstop ?_)
  refine ct_two_at (Gl.at_std ..) rm e hz (by lia) (by lia) ?_
  refine unstop ?_
  first | exact h | exact unstop (h)
theorem ct_is_leaf (std : c.Std GG) (room : Room c 1) {k : Int} (h : K (.bool (k == 13 || k == 10)) σ) : WC c (.ref 110) [.int k] σ m K X := by
  refine WCo.wc <| WCo_def (names := ["kind"]) std room (fun _ => rfl) (fun _ => rfl) (fun _ => rfl) rfl rfl (by decide) rfl rfl rfl ?_
  intro P ok rm
  refine WS_cons (WS1_ret ?_)
  refine WE_or2 (WE_cmp (WE_loc rfl rfl rfl (WE_globI rfl rfl (WO_eqI (WT_bool ?_)))))
  cases h1 : (k == 13)
  · refine WE_or1 (WE_cmp (WE_loc rfl rfl rfl (WE_globI rfl rfl (WO_eqI ?_))))
    rw [h1] at h; exact h
  · rw [h1] at h; exact h
theorem ct_is_rows (std : c.Std GG) (room : Room c 1) {k : Int} (h : K (.bool (k == 13 || k == 5)) σ) : WC c (.ref 117) [.int k] σ m K X := by
  refine WCo.wc <| WCo_def (names := ["kind"]) std room (fun _ => rfl) (fun _ => rfl) (fun _ => rfl) rfl rfl (by decide) rfl rfl rfl ?_
  intro P ok rm
  refine WS_cons (WS1_ret ?_)
  refine WE_or2 (WE_cmp (WE_loc rfl rfl rfl (WE_globI rfl rfl (WO_eqI (WT_bool ?_)))))
  cases h1 : (k == 13)
  · refine WE_or1 (WE_cmp (WE_loc rfl rfl rfl (WE_globI rfl rfl (WO_eqI ?_))))
    rw [h1] at h; exact h
  · rw [h1] at h; exact h
theorem ct_max_local (std : c.Std GG) (room : Room c 1) {k : Int} (h : K (.int (if k == 13 then 93 else 17)) σ) : WC c (.ref 124) [.int k, .int 128] σ m K X := by
  refine WCo.wc <| WCo_def (names := ["kind", "usable"]) std room (fun _ => rfl) (fun _ => rfl) (fun _ _ => rfl) rfl rfl (by decide) rfl rfl rfl ?_
  intro P ok rm
  refine WS_vb (unstop ?_)
  cases h1 : (k == 13)
  · rw [h1] at h
    (refine mff rfl ?_; refine WS_vb (unstop ?_); refine WO_fdiv (by decide) (by decide) ?_; refine unstop ?_; refine WC_max2 ?_; refine unstop ?_)
    first | exact h | exact unstop (h)
  · rw [h1] at h
    (refine mtt rfl ?_; refine WS_vb (unstop ?_))
    first | exact h | exact unstop (h)
theorem ct_local_size (std : c.Std GG) (room : Room c 2) {k n : Int} (hn : n ≤ 17) (h : K (.int n) σ) : WC c (.ref 138) [.int k, .int 128, .int n] σ m K X := by
  refine WCo.wc <| WCo_def (names := ["kind", "usable", "size"]) std room (fun _ => rfl) (fun _ => rfl) (fun _ _ _ => rfl) rfl rfl (by decide) rfl rfl rfl ?_
  intro P ok rm
  refine WS_vb (unstop ?_)
  refine ct_max_local (Gl.at_std ..) rm ?_
  (refine unstop ?_; refine mdec (fun _ => ?_) (fun _ => ?_); rotate_left; (exfalso; lia); refine WS_vb (unstop ?_))
  first | exact h | exact unstop (h)
noncomputable def sgn (n : Int) : Int := if n ≥ 9223372036854775808 then n - 18446744073709551616 else n
theorem ct_signed (std : c.Std GG) (room : Room c 1) {n : Int} (h : K (.int (sgn n)) σ) : WC c (.ref 67) [.int n] σ m K X := by
  refine WCo.wc <| WCo_def (names := ["n"]) std room (fun _ => rfl) (fun _ => rfl) (fun _ => rfl) rfl rfl (by decide) rfl rfl rfl ?_
  intro P ok rm
  (refine WS_vb (unstop ?_); refine WO_fdiv (by decide) (by decide) ?_; refine unstop ?_)
  refine mdec (fun hb => ?_) (fun hb => ?_)
  · replace hb : 9223372036854775808 ≤ n := hb
    refine WS_vb (unstop ?_)
    rw [sgn, if_pos hb] at h
    first | exact h | exact unstop (h)
  · replace hb : ¬ 9223372036854775808 ≤ n := hb
    refine WS_vb (unstop ?_)
    rw [sgn, if_neg hb] at h
    first | exact h | exact unstop (h)
inductive VG (b : List UInt8) (N e : Int) : Nat → Int → Int → Prop
  | last {number at' : Int} : 0 ≤ at' → at' < b.length → number.natAbs < 2 ^ 64 → N = Builtin.bitOr (number * 2 ^ 8) (by8 b at') → e = at' + 1 → VG b N e 8 number at'
  | stop {t : Nat} {number at' : Int} : t < 8 → 0 ≤ at' → at' < b.length → number.natAbs < 2 ^ 64 → by8 b at' < 128 → N = Builtin.bitOr (number * 2 ^ 7) (Builtin.bitAnd (by8 b at') 127) → e = at' + 1 → VG b N e t number at'
  | next {t : Nat} {number at' : Int} : t < 8 → 0 ≤ at' → at' < b.length → number.natAbs < 2 ^ 64 → ¬ by8 b at' < 128 → VG b N e (t + 1) (Builtin.bitOr (number * 2 ^ 7) (Builtin.bitAnd (by8 b at') 127)) (at' + 1) → VG b N e t number at'
theorem VG.facts {b N e t number at'} (h : VG b N e t number at') : t ≤ 8 ∧ 0 ≤ at' ∧ at' < b.length ∧ number.natAbs < 2 ^ 64 := by
  cases h <;> refine ⟨?_, ?_, ?_, ?_⟩ <;> first | assumption | (first | (exact Nat.le_refl _) | (lia))
theorem ct_get_varint (std : c.Std GG) (room : Room c 1) {n : Nat} {b : List UInt8} {i N e : Int} (en : σ[n]? = some (.ba b)) (hz : b.length ≤ 1000) (hv : VG b N e 0 0 i) (h : K (.tup [.int N, .int e]) σ) : WC c (.ref 60) [.loc n, .int i] σ m K X := by
  refine WCo.wc <| WCo_def (names := ["octets", "at"]) std room (fun _ => rfl) (fun _ => rfl) (fun _ _ => rfl) rfl rfl (by decide) rfl rfl rfl ?_
  intro P ok rm
  (refine WS_vb (unstop ?_); refine WS1_for ?_; refine WE_vcall rfl (unstop ?_); refine WC_range1 ?_; refine unstop ?_)
  refine WI_range (n := 9) (Or.inl (by decide)) (by decide) (by decide) rfl (fun t m' σ' => σ' = σ ∧ ∃ number at', lkN m' "octets" = some (.loc n) ∧ lkN m' "at" = some (.int at') ∧ lkN m' "number" = some (.int number) ∧ VG b N e t number at') ⟨rfl, 0, i, rfl, rfl, rfl, hv⟩ ?_ ?_
  · rintro t m' σ' ht ⟨rfl, number, at', h1, h2, h3, hvg⟩
    obtain ⟨f1, f2, f3, f4⟩ := hvg.facts
    have hwk := Wk.cons h1 (Wk.cons h2 (Wk.cons h3 (Wk.nil m')))
    (refine WTg.wk (by assumption) ?_; refine WTg_name ?_; refine WN_loc rfl rfl ?_; refine WS_vb (unstop ?_); refine WC_lenBa (by assumption) (by lia) ?_; refine unstop ?_; refine mdec (fun _ => ?_) (fun _ => ?_); (exfalso; lia); refine WS_vb (unstop ?_); refine WG_ba (by assumption) (by lia) (by assumption) (by assumption) ?_; refine unstop ?_)
    cases hvg with
    | last a1 a2 a3 a4 a5 =>
      (refine mtt rfl ?_; refine WS_vb (unstop ?_); refine WO_shl (by decide) (by decide) (by assumption) ?_; refine unstop ?_)
      rw [a4, a5] at h
      first | exact h | exact unstop (h)
    | stop a0 a1 a2 a3 a4 a5 a6 =>
      have hlt : ((b.getD at'.toNat 0).toNat : Int) < 128 := a4
      (refine mdec (fun _ => ?_) (fun _ => ?_); (exfalso; lia); refine WS_vb (unstop ?_); refine WO_shl (by decide) (by decide) (by assumption) ?_; refine unstop ?_; refine mdec (fun _ => ?_) (fun _ => ?_); rotate_left; (exfalso; lia); refine WS_vb (unstop ?_))
      rw [a5, a6] at h
      first | exact h | exact unstop (h)
    | next a0 a1 a2 a3 a4 a5 =>
      have hlt : ¬ ((b.getD at'.toNat 0).toNat : Int) < 128 := a4
      (refine mdec (fun _ => ?_) (fun _ => ?_); (exfalso; lia); refine WS_vb (unstop ?_); refine WO_shl (by decide) (by decide) (by assumption) ?_; refine unstop ?_; refine mdec (fun _ => ?_) (fun _ => ?_); (exfalso; lia); refine WS_nil ?_)
      (repeat refine unstop ?_); exact ⟨rfl, _, _, rfl, rfl, rfl, a5⟩
  · rintro m' σ' ⟨rfl, number, at', h1, h2, h3, hvg⟩
    exact absurd hvg.facts.1 (by decide)
end
end Nv
end
section
open PySem PySem.W PySem.Calls PyProof.Rows PyProof.V PySem.Spec
namespace Nv
section
variable {c : Cx} {σ : List AO} {m : Nm} {K : PV → List AO → Prop} {X : List AO → Prop}
noncomputable def cellFs (child : Int) (rowid : PV) (size : Int) (loc : List UInt8) : Nm := [("child", .int child), ("rowid", rowid), ("size", .int size), ("local", .bytes loc), ("overflow", .int 0)]
theorem ct_cell_init (std : c.Std GG) (room : Room c 1) {x d : Nat} {child size : Int} {rowid : PV} {loc : List UInt8} (e1 : σ[x]? = some (.inst 169 d)) (e2 : σ[d]? = some (.dict [])) (hxd : x ≠ d)
    (h : K .none (σ.set d (.dict (cellFs child rowid size loc)))) : WCo c (.ref 152) [.loc x, .int child, rowid, .int size, .bytes loc, .int 0] σ m K X := by
  refine WCo_def (names := ["self", "child", "rowid", "size", "local", "overflow"]) std room (fun _ => rfl) (fun _ => rfl) (fun _ _ _ _ _ _ => rfl) rfl rfl (by decide) rfl rfl rfl ?_
  intro P ok rm
  (refine WS_vb (unstop ?_); refine WS1_asgA' ?_; refine WE_loc rfl rfl rfl ?_; refine WE_loc rfl rfl rfl ?_; refine WSA_intro (by assumption) (by assumption) rfl (Nat.le_of_ble_eq_true rfl) ?_; (try rw [List.set_set]); refine unstop ?_; refine WS1_asgA' ?_; refine WE_loc rfl rfl rfl ?_; refine WE_loc rfl rfl rfl ?_; refine WSA_intro (by refine lk_set_ne (by lia) ?_; assumption) (by exact lk_set (by exact lt_of_lk (by assumption))) rfl (Nat.le_of_ble_eq_true rfl) ?_; (try rw [List.set_set]); refine unstop ?_; refine WS1_asgA' ?_; refine WE_loc rfl rfl rfl ?_; refine WE_loc rfl rfl rfl ?_; refine WSA_intro (by refine lk_set_ne (by lia) ?_; assumption) (by exact lk_set (by exact lt_of_lk (by assumption))) rfl (Nat.le_of_ble_eq_true rfl) ?_; (try rw [List.set_set]); refine unstop ?_; refine WS1_asgA' ?_; refine WE_loc rfl rfl rfl ?_; refine WE_loc rfl rfl rfl ?_; refine WSA_intro (by refine lk_set_ne (by lia) ?_; assumption) (by exact lk_set (by exact lt_of_lk (by assumption))) rfl (Nat.le_of_ble_eq_true rfl) ?_; (try rw [List.set_set]); refine unstop ?_; refine WS1_asgA' ?_; refine WE_loc rfl rfl rfl ?_; refine WE_loc rfl rfl rfl ?_; refine WSA_intro (by refine lk_set_ne (by lia) ?_; assumption) (by exact lk_set (by exact lt_of_lk (by assumption))) rfl (Nat.le_of_ble_eq_true rfl) ?_; (try rw [List.set_set]); refine unstop ?_)
  first | exact h | exact unstop (h)
structure CellAt (b : List UInt8) (kind i child : Int) (rowid : PV) (size : Int) (loc : List UInt8) (e : Int) : Prop where
  at0 : 0 ≤ i
  end1 : e ≤ b.length
  sh : (kind = 5 ∧ ∃ N, i + 4 ≤ b.length ∧ child = w4 b i ∧ VG b N e 0 0 (i + 4) ∧ rowid = .int (sgn N) ∧ size = 0 ∧ loc = []) ∨
    (kind = 2 ∧ ∃ a, i + 4 ≤ b.length ∧ child = w4 b i ∧ VG b size a 0 0 (i + 4) ∧ rowid = .none ∧ 0 ≤ size ∧ size ≤ 17 ∧ e = a + size ∧ loc = cut b (.int a) (.int e)) ∨
    (kind = 13 ∧ ∃ a1 a N, child = 0 ∧ VG b size a1 0 0 i ∧ VG b N a 0 0 a1 ∧ rowid = .int (sgn N) ∧ 0 ≤ size ∧ size ≤ 17 ∧ e = a + size ∧ loc = cut b (.int a) (.int e)) ∨
    (kind = 10 ∧ ∃ a, child = 0 ∧ VG b size a 0 0 i ∧ rowid = .none ∧ 0 ≤ size ∧ size ≤ 17 ∧ e = a + size ∧ loc = cut b (.int a) (.int e))
theorem VG.endpos {b N e t number at'} (h : VG b N e t number at') : at' < e ∧ e ≤ b.length := by
  induction h <;> lia
theorem cut_len {b : List UInt8} {a e : Int} (h0 : 0 ≤ a) (h1 : a ≤ e) (h2 : e ≤ b.length) : ((cut b (.int a) (.int e)).length : Int) = e - a := by
  have hc : ∀ i : Int, 0 ≤ i → i ≤ b.length → (clipAt b.length i : Int) = i := fun i h1 h2 => by
    rw [clipAt_cast, if_neg (by lia)]; lia
  have ca := hc a h0 (by lia)
  have ce := hc e (by lia) h2
  unfold cut clipO
  simp only [List.length_take, List.length_drop]
  lia
theorem ct_Cell (std : c.Std GG) (room : Room c 2) {child size : Int} {rowid : PV} {loc : List UInt8}
    (h : ∀ σ' k d, Ex σ σ' → σ'[k]? = some (.inst 169 d) → σ'[d]? = some (.dict (cellFs child rowid size loc)) → K (.loc k) σ') : WC c (.ref 169) [.int child, rowid, .int size, .bytes loc, .int 0] σ m K X := by
  refine WC_new (n := 1) (fI := 152) std room (fun _ => rfl) (fun _ => rfl) (fun _ => rfl) fun c' std' room' => ?_
  have e0 : (σ ++ [.dict [], .inst 169 σ.length])[σ.length]? = some (.dict []) := by
    rw [List.getElem?_append_right (Nat.le_refl _), Nat.sub_self]; rfl
  have e1 : (σ ++ [.dict [], .inst 169 σ.length])[σ.length + 1]? = some (.inst 169 σ.length) := by
    rw [List.getElem?_append_right (Nat.le_succ _), show σ.length + 1 - σ.length = 1 by lia]; rfl
  refine ct_cell_init std' room' e1 e0 (by lia) ⟨rfl, ?_⟩
  refine h _ _ _ ⟨by rw [List.length_set, List.length_append]; lia, fun n ao hn e => ?_⟩ (lk_set_ne (by lia) e1) (lk_set (lt_of_lk e0))
  exact lk_set_ne (by have := lt_of_lk e; lia) (lk_app e)
theorem ct_read_cell (std : c.Std GG) (room : Room c 4) {n : Nat} {b : List UInt8} {kind i child : Int} {rowid : PV} {size : Int} {loc : List UInt8} {e : Int} (en : σ[n]? = some (.ba b)) (hz : b.length ≤ 1000) (hc : CellAt b kind i child rowid size loc e)
    (h : ∀ σ' k d, Ex σ σ' → σ'[k]? = some (.inst 169 d) → σ'[d]? = some (.dict (cellFs child rowid size loc)) → K (.tup [.loc k, .int e]) σ') : WC c (.ref 180) [.loc n, .int i, .int kind, .int 128] σ m K X := by
  refine WCo.wc <| WCo_def (names := ["octets", "at", "kind", "usable"]) std room (fun _ => rfl) (fun _ => rfl) (fun _ _ _ _ => rfl) rfl rfl (by decide) rfl rfl rfl ?_
  intro P ok rm
  obtain ⟨hi, hend, hsh⟩ := hc
  rcases hsh with ⟨rfl, N, q1, q2, q3, rfl, rfl, rfl⟩ | ⟨rfl, a, q1, q2, q3, rfl, q5, q6, q7, q8⟩ | ⟨rfl, a1, a, N, rfl, q2, q3, rfl, q5, q6, q7, q8⟩ | ⟨rfl, a, rfl, q3, rfl, q5, q6, q7, q8⟩
  · refine WS_vb (unstop ?_)
    refine ct_is_leaf (Gl.at_std ..) (rm.mono (by decide)) ?_
    (refine unstop ?_; refine mtt rfl ?_; refine WS_vb (unstop ?_); refine WC_lenBa (by assumption) (by lia) ?_; refine unstop ?_; refine mdec (fun _ => ?_) (fun _ => ?_); (exfalso; lia); refine WS_vb (unstop ?_))
    refine ct_four_at (Gl.at_std ..) (rm.mono (by decide)) en hz hi (by lia) ?_
    (refine unstop ?_; refine mtt rfl ?_; refine WS_vb (unstop ?_); refine WS1_asgT ?_; refine WE_vcall rfl (unstop ?_))
    refine ct_get_varint (Gl.at_std ..) (rm.mono (by decide)) en hz q3 ?_
    (refine unstop ?_; refine ⟨_, rfl, rfl, ?_⟩; refine WA_cons ?_; refine WN_loc rfl rfl ?_; refine WA_cons ?_; refine WN_loc rfl rfl ?_; refine WA_nil ?_; refine unstop ?_)
    refine ct_signed (Gl.at_std ..) (rm.mono (by decide)) ?_
    refine unstop ?_
    refine ct_Cell (Gl.at_std ..) (rm.mono (by decide)) fun σ' k d x1 x2 x3 => ?_
    refine unstop ?_
    rw [q2] at h
    first | exact h _ _ _ x1 x2 x3 | exact unstop (h _ _ _ x1 x2 x3)
  · refine WS_vb (unstop ?_)
    refine ct_is_leaf (Gl.at_std ..) (rm.mono (by decide)) ?_
    (refine unstop ?_; refine mtt rfl ?_; refine WS_vb (unstop ?_); refine WC_lenBa (by assumption) (by lia) ?_; refine unstop ?_; refine mdec (fun _ => ?_) (fun _ => ?_); (exfalso; lia); refine WS_vb (unstop ?_))
    refine ct_four_at (Gl.at_std ..) (rm.mono (by decide)) en hz hi (by lia) ?_
    (refine unstop ?_; refine mff rfl ?_; refine WS_vb (unstop ?_); refine WS1_asgT ?_; refine WE_vcall rfl (unstop ?_))
    refine ct_get_varint (Gl.at_std ..) (rm.mono (by decide)) en hz q3 ?_
    (refine unstop ?_; refine ⟨_, rfl, rfl, ?_⟩; refine WA_cons ?_; refine WN_loc rfl rfl ?_; refine WA_cons ?_; refine WN_loc rfl rfl ?_; refine WA_nil ?_; refine unstop ?_; refine mff rfl ?_; refine WS_vb (unstop ?_))
    refine ct_local_size (Gl.at_std ..) (rm.mono (by decide)) q6 ?_
    have qa := q3.endpos
    have ql := cut_len (b := b) (a := a) (e := a + size) (by (clear q5 q6; lia)) (by lia) (by lia)
    (refine unstop ?_; refine WE_slice ?_; refine WE_loc rfl rfl rfl ?_; refine WPart_some ?_; refine WE_loc rfl rfl rfl ?_; refine WPart_some ?_; refine WE_vx (unstop ?_); refine WGs_ba (by assumption) (by lia) rfl rfl ?_; refine unstop ?_; refine WC_bytesBa (by exact lk_last) (by clear qa; lia) ?_; refine unstop ?_; refine mdec (fun _ => ?_) (fun _ => ?_); (exfalso; lia); refine WS_vb (unstop ?_); refine WC_lenBa (by refine lk_app ?_; assumption) (by lia) ?_; refine unstop ?_; refine mdec (fun _ => ?_) (fun _ => ?_); (exfalso; clear ql; lia); refine WB_vx (unstop ?_); refine WC_lenB (by clear qa; lia) ?_; refine unstop ?_; refine mdec (fun _ => ?_) (fun _ => ?_); (exfalso; lia); refine WB_vx (unstop ?_); refine unstop ?_; refine unstop ?_; refine mff rfl ?_; refine WS_vb (unstop ?_))
    refine ct_Cell (Gl.at_std ..) (rm.mono (by decide)) fun σ' k d x1 x2 x3 => ?_
    refine unstop ?_
    subst q2 q7 q8
    first | exact h _ _ _ ⟨Nat.le_trans (by rw [List.length_append]; lia) x1.1, fun n ao hn e => x1.get (lk_app e)⟩ x2 x3 | exact unstop (h _ _ _ ⟨Nat.le_trans (by rw [List.length_append]; skip) x1.1, fun n ao hn e => x1.get (lk_app e)⟩ x2 x3)
  · refine WS_vb (unstop ?_)
    refine ct_is_leaf (Gl.at_std ..) (rm.mono (by decide)) ?_
    (refine unstop ?_; refine mff rfl ?_; refine WS_vb (unstop ?_); refine mff rfl ?_; refine WS_vb (unstop ?_); refine WS1_asgT ?_; refine WE_vcall rfl (unstop ?_))
    refine ct_get_varint (Gl.at_std ..) (rm.mono (by decide)) en hz q2 ?_
    (refine unstop ?_; refine ⟨_, rfl, rfl, ?_⟩; refine WA_cons ?_; refine WN_loc rfl rfl ?_; refine WA_cons ?_; refine WN_loc rfl rfl ?_; refine WA_nil ?_; refine unstop ?_; refine mtt rfl ?_; refine WS_vb (unstop ?_); refine WS1_asgT ?_; refine WE_vcall rfl (unstop ?_))
    refine ct_get_varint (Gl.at_std ..) (rm.mono (by decide)) en hz q3 ?_
    (refine unstop ?_; refine ⟨_, rfl, rfl, ?_⟩; refine WA_cons ?_; refine WN_loc rfl rfl ?_; refine WA_cons ?_; refine WN_loc rfl rfl ?_; refine WA_nil ?_; refine unstop ?_)
    refine ct_signed (Gl.at_std ..) (rm.mono (by decide)) ?_
    refine unstop ?_
    refine ct_local_size (Gl.at_std ..) (rm.mono (by decide)) q6 ?_
    have qb := q2.endpos
    have qa := q3.endpos
    have ql := cut_len (b := b) (a := a) (e := a + size) (by (clear q7; lia)) (by lia) (by lia)
    (refine unstop ?_; refine WE_slice ?_; refine WE_loc rfl rfl rfl ?_; refine WPart_some ?_; refine WE_loc rfl rfl rfl ?_; refine WPart_some ?_; refine WE_vx (unstop ?_); refine WGs_ba (by assumption) (by lia) rfl rfl ?_; refine unstop ?_; refine WC_bytesBa (by exact lk_last) (by lia) ?_; refine unstop ?_; refine mdec (fun _ => ?_) (fun _ => ?_); (exfalso; lia); refine WS_vb (unstop ?_); refine WC_lenBa (by refine lk_app ?_; assumption) (by lia) ?_; refine unstop ?_; refine mdec (fun _ => ?_) (fun _ => ?_); (exfalso; lia); refine WB_vx (unstop ?_); refine WC_lenB (by lia) ?_; refine unstop ?_; refine mdec (fun _ => ?_) (fun _ => ?_); (exfalso; lia); refine WB_vx (unstop ?_); refine unstop ?_; refine unstop ?_; refine mff rfl ?_; refine WS_vb (unstop ?_))
    refine ct_Cell (Gl.at_std ..) (rm.mono (by decide)) fun σ' k d x1 x2 x3 => ?_
    refine unstop ?_
    subst q7 q8
    first | exact h _ _ _ ⟨Nat.le_trans (by rw [List.length_append]; lia) x1.1, fun n ao hn e => x1.get (lk_app e)⟩ x2 x3 | exact unstop (h _ _ _ ⟨Nat.le_trans (by rw [List.length_append]; skip) x1.1, fun n ao hn e => x1.get (lk_app e)⟩ x2 x3)
  · refine WS_vb (unstop ?_)
    refine ct_is_leaf (Gl.at_std ..) (rm.mono (by decide)) ?_
    (refine unstop ?_; refine mff rfl ?_; refine WS_vb (unstop ?_); refine mff rfl ?_; refine WS_vb (unstop ?_); refine WS1_asgT ?_; refine WE_vcall rfl (unstop ?_))
    refine ct_get_varint (Gl.at_std ..) (rm.mono (by decide)) en hz q3 ?_
    (refine unstop ?_; refine ⟨_, rfl, rfl, ?_⟩; refine WA_cons ?_; refine WN_loc rfl rfl ?_; refine WA_cons ?_; refine WN_loc rfl rfl ?_; refine WA_nil ?_; refine unstop ?_; refine mff rfl ?_; refine WS_vb (unstop ?_))
    refine ct_local_size (Gl.at_std ..) (rm.mono (by decide)) q6 ?_
    have qa := q3.endpos
    have ql := cut_len (b := b) (a := a) (e := a + size) (by (clear q7; lia)) (by lia) (by lia)
    (refine unstop ?_; refine WE_slice ?_; refine WE_loc rfl rfl rfl ?_; refine WPart_some ?_; refine WE_loc rfl rfl rfl ?_; refine WPart_some ?_; refine WE_vx (unstop ?_); refine WGs_ba (by assumption) (by lia) rfl rfl ?_; refine unstop ?_; refine WC_bytesBa (by exact lk_last) (by clear qa; lia) ?_; refine unstop ?_; refine mdec (fun _ => ?_) (fun _ => ?_); (exfalso; lia); refine WS_vb (unstop ?_); refine WC_lenBa (by refine lk_app ?_; assumption) (by lia) ?_; refine unstop ?_; refine mdec (fun _ => ?_) (fun _ => ?_); (exfalso; lia); refine WB_vx (unstop ?_); refine WC_lenB (by clear qa; lia) ?_; refine unstop ?_; refine mdec (fun _ => ?_) (fun _ => ?_); (exfalso; lia); refine WB_vx (unstop ?_); refine unstop ?_; refine unstop ?_; refine mff rfl ?_; refine WS_vb (unstop ?_))
    refine ct_Cell (Gl.at_std ..) (rm.mono (by decide)) fun σ' k d x1 x2 x3 => ?_
    refine unstop ?_
    subst q7 q8
    first | exact h _ _ _ ⟨Nat.le_trans (by rw [List.length_append]; lia) x1.1, fun n ao hn e => x1.get (lk_app e)⟩ x2 x3 | exact unstop (h _ _ _ ⟨Nat.le_trans (by rw [List.length_append]; skip) x1.1, fun n ao hn e => x1.get (lk_app e)⟩ x2 x3)
end
end Nv
end
section
open PySem PySem.W PySem.Calls PyProof.Rows PyProof.V PySem.Spec
namespace Nv
section
variable {c : Cx} {σ : List AO} {m : Nm} {K : PV → List AO → Prop} {X : List AO → Prop}
noncomputable def pbase (page : Int) : Int := if page = 1 then 32 else 0
noncomputable def viewFs (x : Nat) (page : Int) : Nm := [("data", .loc x), ("page", .int page), ("usable", .int 128), ("base", .int (pbase page))]
structure VW (σ : List AO) (v : Nat) (b : List UInt8) (page : Int) (d x : Nat) : Prop where
  hv : σ[v]? = some (.inst 312 d)
  hd : σ[d]? = some (.dict (viewFs x page))
  hx : σ[x]? = some (.ba b)
  len : b.length = 128
  pg : page.natAbs < 2 ^ 60
theorem VW.ex {σ σ' v b page d x} {S : List Nat} (h : VW σ v b page d x) (e : ExB S σ σ') (hS : v ∉ S ∧ d ∉ S ∧ x ∉ S) : VW σ' v b page d x := ⟨e.get hS.1 h.hv, e.get hS.2.1 h.hd, e.get hS.2.2 h.hx, h.len, h.pg⟩
theorem pbase_le (page) : 0 ≤ pbase page ∧ pbase page ≤ 32 := by unfold pbase; split <;> decide
theorem ct_view_init (std : c.Std GG) (room : Room c 1) (hgd : c.A.guards = some []) {b : List UInt8} {page : Int} {x d : Nat} (hz : b.length ≤ 1000) (e1 : σ[x]? = some (.inst 312 d)) (e2 : σ[d]? = some (.dict [])) (hxd : x ≠ d)
    (h : K .none ((σ ++ [AO.ba b]).set d (.dict (viewFs σ.length page)))) : WCoP c (.ref 194) [.loc x, .bytes b, .int page, .int 128] σ m K X := by
  refine WCoP_def (names := ["self", "octets", "page", "usable"]) std room hgd (fun _ => rfl) (fun _ => rfl) (fun _ _ _ _ => rfl) rfl rfl (by decide) rfl rfl rfl ?_
  intro P ok rm gd
  refine WSP_cons (WS1P_asgA' (WEP_call ?_))
  (refine WE_nm rfl (unstop ?_); refine ⟨_, rfl, rfl, ?_⟩; refine WL_vl rfl (unstop ?_))
  refine WCP_ba gd (by lia) ?_
  intro g hg
  (refine WE_loc rfl rfl rfl ?_; refine WSA_intro (by refine lk_app ?_; assumption) (by refine lk_app ?_; assumption) rfl (Nat.le_of_ble_eq_true rfl) ?_; (try rw [List.set_set]))
  intro g hg
  refine WSP.of ?_
  (refine WS_vb (unstop ?_); refine WS1_asgA' ?_; refine WE_loc rfl rfl rfl ?_; refine WE_loc rfl rfl rfl ?_; refine WSA_intro (by refine lk_set_ne (by lia) ?_; refine lk_app ?_; assumption) (by exact lk_set (by refine lt_app ?_; exact lt_of_lk (by assumption))) rfl (Nat.le_of_ble_eq_true rfl) ?_; (try rw [List.set_set]); refine unstop ?_; refine WS1_asgA' ?_; refine WE_loc rfl rfl rfl ?_; refine WE_loc rfl rfl rfl ?_; refine WSA_intro (by refine lk_set_ne (by lia) ?_; refine lk_app ?_; assumption) (by exact lk_set (by refine lt_app ?_; exact lt_of_lk (by assumption))) rfl (Nat.le_of_ble_eq_true rfl) ?_; (try rw [List.set_set]); refine unstop ?_; refine WS1_asgA' ?_; refine WE_vx (unstop ?_); refine WE_loc rfl rfl rfl ?_; refine WSA_intro (by refine lk_set_ne (by lia) ?_; refine lk_app ?_; assumption) (by exact lk_set (by refine lt_app ?_; exact lt_of_lk (by assumption))) rfl (Nat.le_of_ble_eq_true rfl) ?_; (try rw [List.set_set]); refine unstop ?_)
  refine mdec (fun _ => ?_) (fun _ => ?_) <;> (first | (refine WS_vb (unstop ?_); refine WS1_asgA' ?_; refine WE_nm rfl (unstop ?_); refine WE_loc rfl rfl rfl ?_; refine WSA_intro (by refine lk_set_ne (by lia) ?_; refine lk_app ?_; assumption) (by exact lk_set (by refine lt_app ?_; exact lt_of_lk (by assumption))) rfl (Nat.le_of_ble_eq_true rfl) ?_; (try rw [List.set_set]); refine unstop ?_) | (refine WS_nil ?_))
  · rename_i hb
    have hp : pbase page = 32 := by unfold pbase; rw [if_pos hb]
    rw [viewFs, hp] at h
    first | exact h | exact unstop (h)
  · rename_i hb
    have hp : pbase page = 0 := by unfold pbase; rw [if_neg hb]
    rw [viewFs, hp] at h
    first | exact h | exact unstop (h)
theorem ct_view (std : c.Std GG) (room : Room c 2) (hgd : c.A.guards = some []) {b : List UInt8} {page : Int} (hz : b.length = 128) (hp : page.natAbs < 2 ^ 60)
    (h : ∀ σ' v d x, Ex σ σ' → VW σ' v b page d x → K (.loc v) σ') : WCP c (.ref 312) [.bytes b, .int page, .int 128] σ m K X := by
  refine WCP_new (n := 1) (fI := 194) std room hgd (fun _ => rfl) (fun _ => rfl) (fun _ => rfl) fun c' std' room' hgd' => ?_
  have e0 : (σ ++ [AO.dict [], AO.inst 312 σ.length])[σ.length]? = some (.dict []) := by
    rw [List.getElem?_append_right (Nat.le_refl _), Nat.sub_self]; rfl
  have e1 : (σ ++ [AO.dict [], AO.inst 312 σ.length])[σ.length + 1]? = some (.inst 312 σ.length) := by
    rw [List.getElem?_append_right (Nat.le_succ _), show σ.length + 1 - σ.length = 1 by lia]; rfl
  have l0 : (σ ++ [AO.dict [], AO.inst 312 σ.length]).length = σ.length + 2 := by rw [List.length_append]; rfl
  refine ct_view_init std' room' hgd' (by lia) e1 e0 (by lia) ⟨rfl, ?_⟩
  refine h _ _ σ.length _ ⟨by rw [List.length_set, List.length_append, List.length_append]; lia, fun n ao hn e => ?_⟩ ⟨lk_set_ne (by lia) (lk_app e1), lk_set (lt_of_lk (lk_app e0)), lk_set_ne (by lia) lk_last, hz, hp⟩
  exact lk_set_ne (by have := lt_of_lk e; lia) (lk_app (lk_app e))
end
end Nv
end
section
open PySem PySem.W PySem.Calls PyProof.Rows PyProof.V PySem.Spec
namespace Nv
section
variable {c : Cx} {σ : List AO} {m : Nm} {K : PV → List AO → Prop} {Kn : Nm → List AO → Prop} {Kr : PV → List AO → Prop} {X : List AO → Prop} {v d x : Nat} {b : List UInt8} {page : Int}
noncomputable abbrev knd (b : List UInt8) (page : Int) : Int := by8 b (pbase page)
noncomputable abbrev cnt (b : List UInt8) (page : Int) : Int := w2 b (pbase page + 3)
noncomputable abbrev ptr (b : List UInt8) (page : Int) : Int := if by8 b (pbase page) > 5 then pbase page + 8 else pbase page + 12
noncomputable abbrev isKind (k : Int) : Bool := ([2, 5, 10, 13] : List Int).contains k
theorem ct_kind (std : c.Std GG) (room : Room c 4) (hw : VW σ v b page d x) (hk : isKind (knd b page) = true → K (.int (knd b page)) σ) (hX : isKind (knd b page) = false → X σ) :
    WC c (.ref 201) [.loc v] σ m K X := by
  refine WCo.wc <| WCo_def (names := ["self"]) std room (fun _ => rfl) (fun _ => rfl) (fun _ => rfl) rfl rfl (by decide) rfl rfl rfl ?_
  intro P ok rm
  obtain ⟨hv, hd, hx, hl, hp⟩ := hw
  have hb := pbase_le page
  (refine WS_vb (unstop ?_); refine WO_fld fo_data ⟨_, rfl⟩ (by assumption) (by assumption) rfl (by intro u hu; cases hu) ?_; refine unstop ?_; refine WO_fld fo_data ⟨_, rfl⟩ (by assumption) (by assumption) rfl (by intro u hu; cases hu) ?_; refine unstop ?_; refine WG_ba (by assumption) (by lia) (by lia) (by lia) ?_; refine unstop ?_; refine WO_notinKINDS ⟨_, rfl⟩ ?_; refine unstop ?_)
  refine msel (fun _ => ?_) (fun _ => ?_)
  · rename_i hb'
    (refine WS_vb (unstop ?_); refine WS1_corrupt (Gl.at_std ..) (Room.mono (by assumption) (by decide)) rfl ?_; refine WL_cons ?_; refine WE_joined ?_ (by decide); refine WJ_str (by decide) ?_; refine WJ_fmt ?_; refine WE_vx (unstop ?_); refine WO_fld fo_data ⟨_, rfl⟩ (by assumption) (by assumption) rfl (by intro u hu; cases hu) ?_; refine unstop ?_; refine ⟨_, rfl, by lia, ?_⟩; refine WJ_str (by decide) ?_; refine WJ_nil fun _ => ?_; refine WL_nil ?_; refine ⟨rfl, ?_⟩)
    first | exact hX (by simpa only [Bool.not_eq_true'] using hb') | exact unstop (hX (by simpa only [Bool.not_eq_true'] using hb'))
  · rename_i hb'
    refine WS_vb (unstop ?_)
    first | exact hk (by simpa only [Bool.not_eq_false'] using hb') | exact unstop (hk (by simpa only [Bool.not_eq_false'] using hb'))
theorem ct_kind' (std : c.Std GG) (room : Room c 4) (hw : VW σ v b page d x) (hk : isKind (knd b page) = true) (h : K (.int (knd b page)) σ) : WC c (.ref 201) [.loc v] σ m K X :=
  ct_kind std room hw (fun _ => h) (fun e => by rw [hk] at e; cases e)
theorem ct_vis_leaf (std : c.Std GG) (room : Room c 5) (hw : VW σ v b page d x) (hk : isKind (knd b page) = true) (h : K (.bool (knd b page == 13 || knd b page == 10)) σ) : WC c (.ref 208) [.loc v] σ m K X := by
  refine WCo.wc <| WCo_def (names := ["self"]) std room (fun _ => rfl) (fun _ => rfl) (fun _ => rfl) rfl rfl (by decide) rfl rfl rfl ?_
  intro P ok rm
  obtain ⟨hv, hd, hx, hl, hp⟩ := id hw
  (refine WS_vb (unstop ?_); refine WE_meth0 ?_; refine WE_loc rfl rfl rfl ?_; refine WM_m mo_kind ⟨_, rfl⟩ (by assumption) (by assumption) rfl ?_)
  refine ct_kind' (Gl.at_std ..) (rm.mono (by decide)) hw hk ?_
  refine unstop ?_
  refine ct_is_leaf (Gl.at_std ..) (rm.mono (by decide)) ?_
  first | exact h | exact unstop (h)
theorem ct_vis_rows (std : c.Std GG) (room : Room c 5) (hw : VW σ v b page d x) (hk : isKind (knd b page) = true) (h : K (.bool (knd b page == 13 || knd b page == 5)) σ) : WC c (.ref 215) [.loc v] σ m K X := by
  refine WCo.wc <| WCo_def (names := ["self"]) std room (fun _ => rfl) (fun _ => rfl) (fun _ => rfl) rfl rfl (by decide) rfl rfl rfl ?_
  intro P ok rm
  obtain ⟨hv, hd, hx, hl, hp⟩ := id hw
  (refine WS_vb (unstop ?_); refine WE_meth0 ?_; refine WE_loc rfl rfl rfl ?_; refine WM_m mo_kind ⟨_, rfl⟩ (by assumption) (by assumption) rfl ?_)
  refine ct_kind' (Gl.at_std ..) (rm.mono (by decide)) hw hk ?_
  refine unstop ?_
  refine ct_is_rows (Gl.at_std ..) (rm.mono (by decide)) ?_
  first | exact h | exact unstop (h)
theorem ct_count (std : c.Std GG) (room : Room c 3) (hw : VW σ v b page d x) (h : K (.int (cnt b page)) σ) : WC c (.ref 222) [.loc v] σ m K X := by
  refine WCo.wc <| WCo_def (names := ["self"]) std room (fun _ => rfl) (fun _ => rfl) (fun _ => rfl) rfl rfl (by decide) rfl rfl rfl ?_
  intro P ok rm
  obtain ⟨hv, hd, hx, hl, hp⟩ := id hw
  have hb := pbase_le page
  (refine WS_vb (unstop ?_); refine WO_fld fo_data ⟨_, rfl⟩ (by assumption) (by assumption) rfl (by intro u hu; cases hu) ?_; refine unstop ?_; refine WO_fld fo_data ⟨_, rfl⟩ (by assumption) (by assumption) rfl (by intro u hu; cases hu) ?_; refine unstop ?_)
  refine ct_two_at (Gl.at_std ..) (rm.mono (by decide)) hx (by lia) (by lia) (by lia) ?_
  first | exact h | exact unstop (h)
theorem ct_pointers (std : c.Std GG) (room : Room c 3) (hw : VW σ v b page d x) (h : K (.int (ptr b page)) σ) : WC c (.ref 229) [.loc v] σ m K X := by
  refine WCo.wc <| WCo_def (names := ["self"]) std room (fun _ => rfl) (fun _ => rfl) (fun _ => rfl) rfl rfl (by decide) rfl rfl rfl ?_
  intro P ok rm
  obtain ⟨hv, hd, hx, hl, hp⟩ := id hw
  have hb := pbase_le page
  (refine WS_vb (unstop ?_); refine WO_fld fo_data ⟨_, rfl⟩ (by assumption) (by assumption) rfl (by intro u hu; cases hu) ?_; refine unstop ?_; refine WO_fld fo_data ⟨_, rfl⟩ (by assumption) (by assumption) rfl (by intro u hu; cases hu) ?_; refine unstop ?_; refine WG_ba (by assumption) (by lia) (by lia) (by lia) ?_; refine unstop ?_)
  refine mdec (fun _ => ?_) (fun _ => ?_)
  · rename_i hb'
    have := hb'
    (refine WS_vb (unstop ?_); refine WO_fld fo_data ⟨_, rfl⟩ (by assumption) (by assumption) rfl (by intro u hu; cases hu) ?_; refine unstop ?_)
    rw [ptr, if_pos this] at h
    first | exact h | exact unstop (h)
  · rename_i hb'
    have := hb'
    (refine WS_vb (unstop ?_); refine WO_fld fo_data ⟨_, rfl⟩ (by assumption) (by assumption) rfl (by intro u hu; cases hu) ?_; refine unstop ?_)
    rw [ptr, if_neg this] at h
    first | exact h | exact unstop (h)
theorem ct_content (std : c.Std GG) (room : Room c 3) (hw : VW σ v b page d x) (h : K (.int (w2 b (pbase page + 5))) σ) : WC c (.ref 236) [.loc v] σ m K X := by
  refine WCo.wc <| WCo_def (names := ["self"]) std room (fun _ => rfl) (fun _ => rfl) (fun _ => rfl) rfl rfl (by decide) rfl rfl rfl ?_
  intro P ok rm
  obtain ⟨hv, hd, hx, hl, hp⟩ := id hw
  have hb := pbase_le page
  (refine WS_vb (unstop ?_); refine WO_fld fo_data ⟨_, rfl⟩ (by assumption) (by assumption) rfl (by intro u hu; cases hu) ?_; refine unstop ?_; refine WO_fld fo_data ⟨_, rfl⟩ (by assumption) (by assumption) rfl (by intro u hu; cases hu) ?_; refine unstop ?_)
  refine ct_two_at (Gl.at_std ..) (rm.mono (by decide)) hx (by lia) (by lia) (by lia) ?_
  first | exact h | exact unstop (h)
theorem ct_fragments (std : c.Std GG) (room : Room c 3) (hw : VW σ v b page d x) (h : K (.int (by8 b (pbase page + 7))) σ) : WC c (.ref 243) [.loc v] σ m K X := by
  refine WCo.wc <| WCo_def (names := ["self"]) std room (fun _ => rfl) (fun _ => rfl) (fun _ => rfl) rfl rfl (by decide) rfl rfl rfl ?_
  intro P ok rm
  obtain ⟨hv, hd, hx, hl, hp⟩ := id hw
  have hb := pbase_le page
  (refine WS_vb (unstop ?_); refine WO_fld fo_data ⟨_, rfl⟩ (by assumption) (by assumption) rfl (by intro u hu; cases hu) ?_; refine unstop ?_; refine WO_fld fo_data ⟨_, rfl⟩ (by assumption) (by assumption) rfl (by intro u hu; cases hu) ?_; refine unstop ?_; refine WG_ba (by assumption) (by lia) (by lia) (by lia) ?_; refine unstop ?_)
  first | exact h | exact unstop (h)
theorem ct_right (std : c.Std GG) (room : Room c 3) (hw : VW σ v b page d x) (h : K (.int (w4 b (pbase page + 8))) σ) : WC c (.ref 250) [.loc v] σ m K X := by
  refine WCo.wc <| WCo_def (names := ["self"]) std room (fun _ => rfl) (fun _ => rfl) (fun _ => rfl) rfl rfl (by decide) rfl rfl rfl ?_
  intro P ok rm
  obtain ⟨hv, hd, hx, hl, hp⟩ := id hw
  have hb := pbase_le page
  (refine WS_vb (unstop ?_); refine WO_fld fo_data ⟨_, rfl⟩ (by assumption) (by assumption) rfl (by intro u hu; cases hu) ?_; refine unstop ?_; refine WO_fld fo_data ⟨_, rfl⟩ (by assumption) (by assumption) rfl (by intro u hu; cases hu) ?_; refine unstop ?_)
  refine ct_four_at (Gl.at_std ..) (rm.mono (by decide)) hx (by lia) (by lia) (by lia) ?_
  first | exact h | exact unstop (h)
theorem ct_voctets (std : c.Std GG) (room : Room c 3) (hw : VW σ v b page d x) (h : K (.bytes b) σ) : WC c (.ref 257) [.loc v] σ m K X := by
  refine WCo.wc <| WCo_def (names := ["self"]) std room (fun _ => rfl) (fun _ => rfl) (fun _ => rfl) rfl rfl (by decide) rfl rfl rfl ?_
  intro P ok rm
  obtain ⟨hv, hd, hx, hl, hp⟩ := id hw
  (refine WS_vb (unstop ?_); refine WO_fld fo_data ⟨_, rfl⟩ (by assumption) (by assumption) rfl (by intro u hu; cases hu) ?_; refine unstop ?_; refine WC_bytesBa (by assumption) (by lia) ?_; refine unstop ?_)
  first | exact h | exact unstop (h)
theorem ptr_le (b page) : 8 ≤ ptr b page ∧ ptr b page ≤ 44 := by
  have := pbase_le page
  unfold ptr; split <;> lia
theorem ct_place (std : c.Std GG) (room : Room c 5) {i : Int} (hw : VW σ v b page d x) (hi : i.natAbs < 2 ^ 60) (hr : 0 ≤ i → i < cnt b page → ptr b page + 2 * i + 1 < 128)
    (hok : 0 ≤ i → i < cnt b page → ptr b page + 2 * cnt b page ≤ w2 b (ptr b page + 2 * i) → w2 b (ptr b page + 2 * i) + 4 ≤ 128 → K (.int (w2 b (ptr b page + 2 * i))) σ)
    (hX : (i < 0 ∨ cnt b page ≤ i ∨ w2 b (ptr b page + 2 * i) < ptr b page + 2 * cnt b page ∨ 128 < w2 b (ptr b page + 2 * i) + 4) → X σ) : WC c (.ref 264) [.loc v, .int i] σ m K X := by
  refine WCo.wc <| WCo_def (names := ["self", "i"]) std room (fun _ => rfl) (fun _ => rfl) (fun _ _ => rfl) rfl rfl (by decide) rfl rfl rfl ?_
  intro P ok rm
  obtain ⟨hv, hd, hx, hl, hp⟩ := id hw
  have hb := pbase_le page
  have hq := ptr_le b page
  have hcn : 0 ≤ cnt b page ∧ cnt b page < 65536 := w2_lt b (pbase page + 3)
  refine WS_vb (unstop ?_)
  refine mdec (fun _ => ?_) (fun _ => ?_)
  · (refine unstop ?_; refine mtt rfl ?_; refine WS_vb (unstop ?_); refine WS1_corrupt (Gl.at_std ..) (Room.mono (by assumption) (by decide)) rfl ?_; refine WL_cons ?_; refine WE_joined ?_ (by decide); refine WJ_str (by decide) ?_; refine WJ_fmt ?_; refine WE_vx (unstop ?_); refine WO_fld fo_data ⟨_, rfl⟩ (by assumption) (by assumption) rfl (by intro u hu; cases hu) ?_; refine unstop ?_; refine ⟨_, rfl, by lia, ?_⟩; refine WJ_str (by decide) ?_; refine WJ_fmt ?_; refine WE_loc rfl rfl rfl ?_; refine ⟨_, rfl, by lia, ?_⟩; refine WJ_nil fun _ => ?_; refine WL_nil ?_; refine ⟨rfl, ?_⟩)
    first | exact hX (.inl (by assumption)) | exact unstop (hX (.inl (by assumption)))
  (refine WB_vx (unstop ?_); refine WE_meth0 ?_; refine WE_loc rfl rfl rfl ?_; refine WM_m mo_count ⟨_, rfl⟩ (by assumption) (by assumption) rfl ?_)
  refine ct_count (Gl.at_std ..) (rm.mono (by decide)) hw ?_
  refine unstop ?_
  refine mdec (fun _ => ?_) (fun _ => ?_)
  · (refine unstop ?_; refine unstop ?_; refine mtt rfl ?_; refine WS_vb (unstop ?_); refine WS1_corrupt (Gl.at_std ..) (Room.mono (by assumption) (by decide)) rfl ?_; refine WL_cons ?_; refine WE_joined ?_ (by decide); refine WJ_str (by decide) ?_; refine WJ_fmt ?_; refine WE_vx (unstop ?_); refine WO_fld fo_data ⟨_, rfl⟩ (by assumption) (by assumption) rfl (by intro u hu; cases hu) ?_; refine unstop ?_; refine ⟨_, rfl, by lia, ?_⟩; refine WJ_str (by decide) ?_; refine WJ_fmt ?_; refine WE_loc rfl rfl rfl ?_; refine ⟨_, rfl, by lia, ?_⟩; refine WJ_nil fun _ => ?_; refine WL_nil ?_; refine ⟨rfl, ?_⟩)
    first | exact hX (.inr (.inl (by assumption))) | exact unstop (hX (.inr (.inl (by assumption))))
  have h3 := hr (by (clear hi; lia)) (by (clear hi hl hp hq; omega))
  (refine WB_vx (unstop ?_); refine unstop ?_; refine unstop ?_; refine mff rfl ?_; refine WS_vb (unstop ?_); refine WE_meth0 ?_; refine WE_loc rfl rfl rfl ?_; refine WM_m mo_pointers ⟨_, rfl⟩ (by assumption) (by assumption) rfl ?_)
  refine ct_pointers (Gl.at_std ..) (rm.mono (by decide)) hw ?_
  (refine unstop ?_; refine WO_fld fo_data ⟨_, rfl⟩ (by assumption) (by assumption) rfl (by intro u hu; cases hu) ?_; refine unstop ?_; refine WO_mul (mulOk64 (by decide) (by lia)) ?_; refine unstop ?_)
  refine ct_two_at (Gl.at_std ..) (rm.mono (by decide)) hx (by lia) (by (clear hi hl hp; omega)) (by omega) ?_
  (refine unstop ?_; refine WE_meth0 ?_; refine WE_loc rfl rfl rfl ?_; refine WM_m mo_count ⟨_, rfl⟩ (by assumption) (by assumption) rfl ?_)
  refine ct_count (Gl.at_std ..) (rm.mono (by decide)) hw ?_
  (refine unstop ?_; refine WO_mul (mulOk64 (by decide) (by clear hl hp hb hq h3; omega)) ?_; refine unstop ?_)
  refine mdec (fun _ => ?_) (fun _ => ?_)
  · (refine unstop ?_; refine mtt rfl ?_; refine WS_vb (unstop ?_); refine WS1_corrupt (Gl.at_std ..) (Room.mono (by assumption) (by decide)) rfl ?_; refine WL_cons ?_; refine WE_joined ?_ (by decide); refine WJ_str (by decide) ?_; refine WJ_fmt ?_; refine WE_vx (unstop ?_); refine WO_fld fo_data ⟨_, rfl⟩ (by assumption) (by assumption) rfl (by intro u hu; cases hu) ?_; refine unstop ?_; refine ⟨_, rfl, by lia, ?_⟩; refine WJ_str (by decide) ?_; refine WJ_nil fun _ => ?_; refine WL_nil ?_; refine ⟨rfl, ?_⟩)
    first | exact hX (.inr (.inr (.inl (by assumption)))) | exact unstop (hX (.inr (.inr (.inl (by assumption)))))
  (refine WB_vx (unstop ?_); refine WO_fld fo_data ⟨_, rfl⟩ (by assumption) (by assumption) rfl (by intro u hu; cases hu) ?_; refine unstop ?_)
  refine mdec (fun _ => ?_) (fun _ => ?_)
  · (refine unstop ?_; refine unstop ?_; refine mtt rfl ?_; refine WS_vb (unstop ?_); refine WS1_corrupt (Gl.at_std ..) (Room.mono (by assumption) (by decide)) rfl ?_; refine WL_cons ?_; refine WE_joined ?_ (by decide); refine WJ_str (by decide) ?_; refine WJ_fmt ?_; refine WE_vx (unstop ?_); refine WO_fld fo_data ⟨_, rfl⟩ (by assumption) (by assumption) rfl (by intro u hu; cases hu) ?_; refine unstop ?_; refine ⟨_, rfl, by lia, ?_⟩; refine WJ_str (by decide) ?_; refine WJ_nil fun _ => ?_; refine WL_nil ?_; refine ⟨rfl, ?_⟩)
    first | exact hX (.inr (.inr (.inr (by assumption)))) | exact unstop (hX (.inr (.inr (.inr (by assumption)))))
  (refine WB_vx (unstop ?_); refine unstop ?_; refine unstop ?_; refine mff rfl ?_; refine WS_vb (unstop ?_))
  exact hok (by lia) (by omega) (by (clear hi hl hp; omega)) (by (clear hi hl hp; omega))
structure CellOk (b : List UInt8) (page i at' : Int) : Prop where
  i0 : 0 ≤ i
  i1 : i < cnt b page
  i2 : ptr b page + 2 * i + 1 < 128
  i3 : w2 b (ptr b page + 2 * i) = at'
  i4 : ptr b page + 2 * cnt b page ≤ at'
  i5 : at' + 4 ≤ 128
theorem ct_place_ok (std : c.Std GG) (room : Room c 5) {i at' : Int} (hw : VW σ v b page d x) (hc : CellOk b page i at') (h : K (.int at') σ) : WC c (.ref 264) [.loc v, .int i] σ m K X := by
  obtain ⟨i0, i1, i2, i3, i4, i5⟩ := hc
  have hq := ptr_le b page
  refine ct_place std room hw (by lia) (fun _ _ => i2) (fun _ _ _ _ => by rw [i3]; exact h) fun hx => ?_
  rw [i3] at hx
  omega
theorem ct_cell (std : c.Std GG) (room : Room c 6) {i at' child size e : Int} {rowid : PV} {loc : List UInt8} (hw : VW σ v b page d x) (hk : isKind (knd b page) = true) (hc : CellOk b page i at') (hca : CellAt b (knd b page) at' child rowid size loc e)
    (h : ∀ σ' k d, Ex σ σ' → σ'[k]? = some (.inst 169 d) → σ'[d]? = some (.dict (cellFs child rowid size loc)) → K (.loc k) σ') : WC c (.ref 271) [.loc v, .int i] σ m K X := by
  refine WCo.wc <| WCo_def (names := ["self", "i"]) std room (fun _ => rfl) (fun _ => rfl) (fun _ _ => rfl) rfl rfl (by decide) rfl rfl rfl ?_
  intro P ok rm
  obtain ⟨hv, hd, hx, hl, hp⟩ := id hw
  (refine WS_vb (unstop ?_); refine WS1_asgT ?_; refine WE_vcall rfl (unstop ?_); refine WO_fld fo_data ⟨_, rfl⟩ (by assumption) (by assumption) rfl (by intro u hu; cases hu) ?_; refine unstop ?_; refine WE_meth ?_; refine WE_loc rfl rfl rfl ?_; refine WM_m mo_place ⟨_, rfl⟩ (by assumption) (by assumption) rfl ?_; refine WL_vl rfl (unstop ?_))
  refine ct_place_ok (Gl.at_std ..) (rm.mono (by decide)) hw hc ?_
  (refine unstop ?_; refine WE_meth0 ?_; refine WE_loc rfl rfl rfl ?_; refine WM_m mo_kind ⟨_, rfl⟩ (by assumption) (by assumption) rfl ?_)
  refine ct_kind' (Gl.at_std ..) (rm.mono (by decide)) hw hk ?_
  (refine unstop ?_; refine WO_fld fo_data ⟨_, rfl⟩ (by assumption) (by assumption) rfl (by intro u hu; cases hu) ?_; refine unstop ?_)
  refine ct_read_cell (Gl.at_std ..) (rm.mono (by decide)) hx (by lia) hca fun σ' k d' x1 x2 x3 => ?_
  (refine unstop ?_; refine ⟨_, rfl, rfl, ?_⟩; refine WA_cons ?_; refine WN_loc rfl rfl ?_; refine WA_cons ?_; refine WN_loc rfl rfl ?_; refine WA_nil ?_; refine unstop ?_)
  first | exact h _ _ _ x1 x2 x3 | exact unstop (h _ _ _ x1 x2 x3)
theorem ct_raw (std : c.Std GG) (room : Room c 6) {i at' child size e : Int} {rowid : PV} {loc : List UInt8} (hw : VW σ v b page d x) (hk : isKind (knd b page) = true) (hc : CellOk b page i at') (hca : CellAt b (knd b page) at' child rowid size loc e)
    (h : ∀ σ', Ex σ σ' → K (.bytes (cut b (.int at') (.int e))) σ') : WC c (.ref 278) [.loc v, .int i] σ m K X := by
  refine WCo.wc <| WCo_def (names := ["self", "i"]) std room (fun _ => rfl) (fun _ => rfl) (fun _ _ => rfl) rfl rfl (by decide) rfl rfl rfl ?_
  intro P ok rm
  obtain ⟨hv, hd, hx, hl, hp⟩ := id hw
  have hcl : (cut b (.int at') (.int e)).length ≤ 1000 := by
    unfold cut; rw [List.length_take, List.length_drop]; lia
  (refine WS_vb (unstop ?_); refine WE_meth ?_; refine WE_loc rfl rfl rfl ?_; refine WM_m mo_place ⟨_, rfl⟩ (by assumption) (by assumption) rfl ?_; refine WL_vl rfl (unstop ?_))
  refine ct_place_ok (Gl.at_std ..) (rm.mono (by decide)) hw hc ?_
  (refine unstop ?_; refine WS1_asgT ?_; refine WE_vcall rfl (unstop ?_); refine WO_fld fo_data ⟨_, rfl⟩ (by assumption) (by assumption) rfl (by intro u hu; cases hu) ?_; refine unstop ?_; refine WE_meth0 ?_; refine WE_loc rfl rfl rfl ?_; refine WM_m mo_kind ⟨_, rfl⟩ (by assumption) (by assumption) rfl ?_)
  refine ct_kind' (Gl.at_std ..) (rm.mono (by decide)) hw hk ?_
  (refine unstop ?_; refine WO_fld fo_data ⟨_, rfl⟩ (by assumption) (by assumption) rfl (by intro u hu; cases hu) ?_; refine unstop ?_)
  refine ct_read_cell (Gl.at_std ..) (rm.mono (by decide)) hx (by lia) hca fun σ' k d' x1 x2 x3 => ?_
  (refine unstop ?_; refine ⟨_, rfl, rfl, ?_⟩; refine WA_cons ?_; refine WN_loc rfl rfl ?_; refine WA_cons ?_; refine WN_loc rfl rfl ?_; refine WA_nil ?_; refine unstop ?_; refine WE_slice ?_; refine WE_vx (unstop ?_); refine WO_fld fo_data ⟨_, rfl⟩ (by refine Ex.get (by assumption) ?_; assumption) (by refine Ex.get (by assumption) ?_; assumption) rfl (by intro u hu; cases hu) ?_; refine unstop ?_; refine WPart_some ?_; refine WE_loc rfl rfl rfl ?_; refine WPart_some ?_; refine WE_loc rfl rfl rfl ?_; refine WGs_ba (by refine Ex.get (by assumption) ?_; assumption) (by lia) rfl rfl ?_; refine unstop ?_; refine WC_bytesBa (by exact lk_last) (by lia) ?_; refine unstop ?_)
  first | exact h _ ⟨Nat.le_trans x1.1 (by rw [List.length_append]; lia), fun n ao hn e => lk_app (x1.get e)⟩ | exact unstop (h _ ⟨Nat.le_trans x1.1 (by rw [List.length_append]; skip), fun n ao hn e => lk_app (x1.get e)⟩)
end
end Nv
end
section
open PySem PySem.W PySem.Calls PyProof.Rows PyProof.V PySem.Spec
namespace Nv
section
variable {c : Cx} {σ : List AO} {m : Nm} {K : PV → List AO → Prop} {X : List AO → Prop} {scope : Scope} {cl : List (Str × Addr)} {ce : List (Str × Nat)} {elt : Expr} {ifs : List Expr} {x : Str} {p : Pos} {KQ : List PV → List AO → Prop}
theorem comp_std {G : Gl} {C : Addr} {bs : Nm} (h : c.Std G) : (c.comp scope cl C ce bs).Std G := ⟨h.prog, h.K, h.p, h.loose, h.xc⟩
theorem comp_room {n : Nat} {C : Addr} {bs : Nm} (h : Room c n) : Room (c.comp scope cl C ce bs) n := ⟨h.d, h.u⟩
theorem WQ_range {N : Int} {n : Nat} (hN : N = n) (hsz : n ≤ 1000) (hx : scope.names.lookup x = some .local) (I : Nat → List PV → List AO → Prop) (h0 : I 0 [] σ)
    (hstep : ∀ i ys σ' C, i < n → I i ys σ' → WTs (c.comp scope cl C ce [(x, .int i)]) ifs σ' m (jW (c.comp scope cl C ce [(x, .int i)]) elt m I i ys)) (hend : ∀ ys σ', I n ys σ' → KQ ys σ') : WQ c scope cl ce elt (.Name x p) ifs (.rng 0 N) σ m KQ := by
  refine ⟨n, fun i => .int (0 + i), fun _ => True, [x], fun i => [(x, .int i)], I, Seqn.range (.inl (by lia)) (by decide) (by lia), hsz, fun y hy => by rw [List.mem_singleton.mp hy]; exact hx, fun i hi => ?_, h0, fun _ _ _ _ => trivial, hstep, hend⟩
  show TB _ (.int (0 + (i : Int))) _ _
  rw [Int.zero_add]
  exact .name x p (.int i)
theorem WQ_rangeF {N : Int} {n : Nat} (f : Nat → PV) (hN : N = n) (hsz : n ≤ 1000) (hx : scope.names.lookup x = some .local)
    (hstep : ∀ i σ' C, i < n → Ex σ σ' → WE (c.comp scope cl C ce [(x, .int i)]) elt σ' m (fun y σ3 => y = f i ∧ Ex σ σ3) (fun _ => False)) (hend : ∀ σ', Ex σ σ' → KQ ((List.range n).map f) σ') : WQ c scope cl ce elt (.Name x p) [] (.rng 0 N) σ m KQ := by
  refine WQ_range hN hsz hx (fun i ys σ' => ys = (List.range i).map f ∧ Ex σ σ') ⟨rfl, ExB.refl _ _⟩ (fun i ys σ' C hi ⟨e1, e2⟩ => ?_) fun ys σ' ⟨e1, e2⟩ => by rw [e1]; exact hend σ' e2
  refine (hstep i σ' C hi e2).mono fun y σ3 ⟨h1, h2⟩ => ⟨?_, h2⟩
  rw [e1, h1, List.range_succ, List.map_append]; rfl
theorem WQ_list {k : Nat} {l : List PV} (e : σ[k]? = some (.list l)) (hsz : l.length ≤ 1000) (hx : scope.names.lookup x = some .local) (I : Nat → List PV → List AO → Prop) (h0 : I 0 [] σ) (hkeep : ∀ i ys σ', I i ys σ' → σ'[k]? = some (.list l))
    (hstep : ∀ i pv ys σ' C, l[i]? = some pv → I i ys σ' → WTs (c.comp scope cl C ce [(x, pv)]) ifs σ' m (jW (c.comp scope cl C ce [(x, pv)]) elt m I i ys)) (hend : ∀ ys σ', I l.length ys σ' → KQ ys σ') : WQ c scope cl ce elt (.Name x p) ifs (.loc k) σ m KQ := by
  refine ⟨l.length, fun i => l.getD i .none, _, [x], fun i => [(x, l.getD i .none)], I, Seqn.list e, hsz, fun y hy => by rw [List.mem_singleton.mp hy]; exact hx, fun i hi => .name x p _, h0, hkeep, fun i ys σ' C hi hI => ?_, hend⟩
  exact hstep i _ ys σ' C (by rw [List.getD_eq_getElem?_getD, List.getElem?_eq_getElem hi]; rfl) hI
theorem WQ_listF {k : Nat} {l : List PV} (f : PV → PV) (e : σ[k]? = some (.list l)) (hsz : l.length ≤ 1000) (hx : scope.names.lookup x = some .local)
    (hstep : ∀ pv σ' C, pv ∈ l → Ex σ σ' → WE (c.comp scope cl C ce [(x, pv)]) elt σ' m (fun y σ3 => y = f pv ∧ Ex σ σ3) (fun _ => False)) (hend : ∀ σ', Ex σ σ' → KQ (l.map f) σ') : WQ c scope cl ce elt (.Name x p) [] (.loc k) σ m KQ := by
  refine WQ_list e hsz hx (fun i ys σ' => ys = (l.take i).map f ∧ Ex σ σ') ⟨by simp, ExB.refl _ _⟩ (fun i ys σ' hI => hI.2.get e) (fun i pv ys σ' C hi ⟨e1, e2⟩ => ?_) fun ys σ' ⟨e1, e2⟩ => by rw [e1, List.take_length]; exact hend σ' e2
  refine (hstep pv σ' C (List.mem_of_getElem? hi) e2).mono fun y σ3 ⟨h1, h2⟩ => ⟨?_, h2⟩
  rw [e1, h1, List.take_succ, hi, List.map_append]; rfl
theorem WQ_listT {k : Nat} {l : List PV} {elts : List Expr} {kk : Nat} {xs : List Str} (e : σ[k]? = some (.list l)) (hsz : l.length ≤ 1000) (hxs : tgtNames elts = some xs) (hx : ∀ x ∈ xs, scope.names.lookup x = some .local) (hl : ∀ pv ∈ l, ∃ li, pv = .tup li ∧ xs.length = li.length) (I : Nat → List PV → List AO → Prop) (h0 : I 0 [] σ) (hkeep : ∀ i ys σ', I i ys σ' → σ'[k]? = some (.list l))
    (hstep : ∀ i li ys σ' C, l[i]? = some (.tup li) → I i ys σ' → WTs (c.comp scope cl C ce (xs.zip li).reverse) ifs σ' m (jW (c.comp scope cl C ce (xs.zip li).reverse) elt m I i ys)) (hend : ∀ ys σ', I l.length ys σ' → KQ ys σ') : WQ c scope cl ce elt (.Tuple elts kk p) ifs (.loc k) σ m KQ := by
  have key : ∀ i (hi : i < l.length), ∃ li, l[i]? = some (.tup li) ∧ l.getD i .none = .tup li ∧ xs.length = li.length := fun i hi => by
    obtain ⟨li, h1, h2⟩ := hl l[i] (List.getElem_mem hi)
    refine ⟨li, by rw [List.getElem?_eq_getElem hi, h1], by rw [List.getD_eq_getElem?_getD, List.getElem?_eq_getElem hi, h1]; rfl, h2⟩
  let bs : Nat → Nm := fun i => match l.getD i .none with
    | .tup li => (xs.zip li).reverse
    | _ => []
  refine ⟨l.length, fun i => l.getD i .none, _, xs, bs, I, Seqn.list e, hsz, hx, fun i hi => ?_, h0, hkeep, fun i ys σ' C hi hI => ?_, hend⟩
  · obtain ⟨li, h1, h2, h3⟩ := key i hi
    have hb : bs i = (xs.zip li).reverse := by show (match l.getD i .none with | .tup li => _ | _ => _) = _; rw [h2]
    rw [hb]
    show TB _ (l.getD i .none) _ _
    rw [h2]
    exact .tup hxs h3
  · obtain ⟨li, h1, h2, h3⟩ := key i hi
    have hb : bs i = (xs.zip li).reverse := by show (match l.getD i .none with | .tup li => _ | _ => _) = _; rw [h2]
    rw [hb]
    exact hstep i li ys σ' C h1 hI
end
theorem ExB.setNew {S : List Nat} {σ σ' : List AO} {k : Nat} {a : AO} (h : ExB S σ σ') (hk : σ.length ≤ k) : ExB S σ (σ'.set k a) :=
  ⟨by rw [List.length_set]; exact h.1, fun n ao hn e => lk_set_ne (by have := lt_of_lk e; lia) (h.get hn e)⟩
theorem lk_at {σ : List AO} {k : Nat} {l : List AO} {a : AO} (h : l[k]? = some a) : (σ ++ l)[σ.length + k]? = some a := by
  rw [List.getElem?_append_right (Nat.le_add_right _ _), Nat.add_sub_cancel_left]; exact h
section
variable {G : Gl} {c : Cx} {σ : List AO} {m : Nm} {K : PV → List AO → Prop} {X : List AO → Prop}
theorem WCo_defb {f : Addr} {name qual : Str} {params : Arguments} {body : List Stmt} {scope : Scope} {dV kV doc pm cdv ct oc : Value} {an od : Option Addr} {osl : Array (Option Value)} {as : List PV} {names : List Str} {n : Nat}
    (std : c.Std G) (room : Room c (n + 1))
    (ho : ∀ P, (G.Kw P).lookup f = some ⟨oc, od, .func (fnOf name qual params body scope dV kV doc pm an cdv ct), osl⟩) (hcd : ∀ P, codeIn (G.Kw P) cdv qual = true)
    (hb : BindN (fnOf name qual params body scope dV kV doc pm an cdv ct) names names []) (hlen : names.length = as.length)
    (hloc : (names.all fun y => scope.names.lookup y == some .local) = true)
    (hcell : ∀ x ∈ scope.names, x.2 ≠ .cell) (hco : scope.isCoroutine = false) (hgen : scope.isGenerator = false) (hk : scope.kind = .function)
    (h : ∀ P : Px, (G.at P ⟨qual, scope, f, cdv⟩ [] []).Ok → Room (G.at P ⟨qual, scope, f, cdv⟩ [] []) n →
      WSb (G.at P ⟨qual, scope, f, cdv⟩ [] []) body σ (names.zip as).reverse (fun _ σ' => K .none σ') K X) :
    WCo c (.ref f) as σ m K X := by
  have hc0 : ∀ k, cellsFrom k scope.names [] = [] := fun k => cellsFrom_none _ _ _ hcell
  have hl : ∀ y ∈ names, scope.names.lookup y = some .local := fun y hy => beq_iff_eq.mp (List.all_eq_true.mp hloc y hy)
  refine WCo_defcb (cns := []) std room ho hcd hb hlen (fun vs _ => List.all_eq_true.mpr fun y hy => by rw [hl _ (List.of_mem_zip hy).1]; rfl) (fun k => by rw [hc0]; rfl) List.nodup_nil hco hgen hk fun P => ?_
  rw [hc0, bindLA_local _ _ fun y hy => hl _ (List.of_mem_zip hy).1, List.map_nil, List.append_nil, List.append_nil]
  exact h P
end
section
variable {G : Gl} {c : Cx} {σ : List AO} {m : Nm} {K : PV → List AO → Prop} {X : List AO → Prop}
theorem WCo_defc' {f : Addr} {name qual : Str} {params : Arguments} {body : List Stmt} {scope : Scope} {dV kV doc pm cdv ct oc : Value} {an od : Option Addr} {osl : Array (Option Value)} {as : List PV} (names cns : List Str) {n : Nat}
    (std : c.Std G) (room : Room c (n + 1))
    (ho : ∀ P, (G.Kw P).lookup f = some ⟨oc, od, .func (fnOf name qual params body scope dV kV doc pm an cdv ct), osl⟩) (hcd : ∀ P, codeIn (G.Kw P) cdv qual = true)
    (hb : BindN (fnOf name qual params body scope dV kV doc pm an cdv ct) names names []) (hlen : names.length = as.length)
    (hkind : (names.all fun y => scope.names.lookup y == some .local || scope.names.lookup y == some .cell) = true)
    (hcns : ∀ k, (cellsFrom k scope.names []).map (·.1) = cns) (hnd : cns.Nodup) (hco : scope.isCoroutine = false) (hgen : scope.isGenerator = false) (hk : scope.kind = .function)
    (h : ∀ (P : Px) (σ0 : List AO), Ex σ σ0 → (∀ (k : Nat) x, cns[k]? = some x → σ0[σ.length + k]? = some (.cell (bindCA (fun y => scope.names.lookup y) (names.zip as) (fun _ => none) x))) → σ0.length = σ.length + cns.length → Room (G.at P ⟨qual, scope, f, cdv⟩ (cellsFrom (P.L + 1) scope.names []) (idxFrom σ.length cns)) n →
      WS (G.at P ⟨qual, scope, f, cdv⟩ (cellsFrom (P.L + 1) scope.names []) (idxFrom σ.length cns)) body σ0 (bindLA (fun y => scope.names.lookup y) (names.zip as) []) (fun _ σ' => K .none σ') K X) :
    WCo c (.ref f) as σ m K X := by
  refine WCo_defc std room ho hcd hb hlen (fun vs _ => ?_) hcns hnd hco hgen hk fun P ok rm => h P _ (ExB.app _ _ _) (fun k x e => lk_at (by rw [List.getElem?_map, e]; rfl)) (by rw [List.length_append, List.length_map]) rm
  rw [List.all_eq_true] at hkind ⊢
  exact fun y hy => hkind y.1 (List.of_mem_zip hy).1
theorem WCoP_defc' {f : Addr} {name qual : Str} {params : Arguments} {body : List Stmt} {scope : Scope} {dV kV doc pm cdv ct oc : Value} {an od : Option Addr} {osl : Array (Option Value)} {as : List PV} (names cns : List Str) {n : Nat}
    (std : c.Std G) (room : Room c (n + 1)) (hgd : c.A.guards = some [])
    (ho : ∀ P, (G.Kw P).lookup f = some ⟨oc, od, .func (fnOf name qual params body scope dV kV doc pm an cdv ct), osl⟩) (hcd : ∀ P, codeIn (G.Kw P) cdv qual = true)
    (hb : BindN (fnOf name qual params body scope dV kV doc pm an cdv ct) names names []) (hlen : names.length = as.length)
    (hkind : (names.all fun y => scope.names.lookup y == some .local || scope.names.lookup y == some .cell) = true)
    (hcns : ∀ k, (cellsFrom k scope.names []).map (·.1) = cns) (hnd : cns.Nodup) (hco : scope.isCoroutine = false) (hgen : scope.isGenerator = false) (hk : scope.kind = .function)
    (h : ∀ (P : Px) (σ0 : List AO), Ex σ σ0 → (∀ (k : Nat) x, cns[k]? = some x → σ0[σ.length + k]? = some (.cell (bindCA (fun y => scope.names.lookup y) (names.zip as) (fun _ => none) x))) → σ0.length = σ.length + cns.length → Room (G.at P ⟨qual, scope, f, cdv⟩ (cellsFrom (P.L + 1) scope.names []) (idxFrom σ.length cns)) n → (G.at P ⟨qual, scope, f, cdv⟩ (cellsFrom (P.L + 1) scope.names []) (idxFrom σ.length cns)).A.guards = some [] →
      WSP (G.at P ⟨qual, scope, f, cdv⟩ (cellsFrom (P.L + 1) scope.names []) (idxFrom σ.length cns)) body σ0 (bindLA (fun y => scope.names.lookup y) (names.zip as) []) (fun _ σ' => K .none σ') K X) :
    WCoP c (.ref f) as σ m K X := by
  refine WCoP_defc std room hgd ho hcd hb hlen (fun vs _ => ?_) hcns hnd hco hgen hk fun P ok rm gd => h P _ (ExB.app _ _ _) (fun k x e => lk_at (by rw [List.getElem?_map, e]; rfl)) (by rw [List.length_append, List.length_map]) rm gd
  rw [List.all_eq_true] at hkind ⊢
  exact fun y hy => hkind y.1 (List.of_mem_zip hy).1
end
end Nv
end
section
open PySem PySem.W PySem.Calls PyProof.Rows PyProof.V PySem.Spec
namespace Nv
theorem top_defc {G : Gl} {w : World} {mean : ExcName → Option Value} {mg mb : Str → Option Value} {base : Heap} {s : Shared} {R : Led} {σ : List AO} {K : PV → List AO → Prop} {Rs : Result → Shared → Prop} {vs : List Value}
    {f : Addr} {name qual : Str} {params : Arguments} {body : List Stmt} {scope : Scope} {dV kV doc pm cdv ct oc : Value} {an od : Option Addr} {osl : Array (Option Value)} {as : List PV} (names cns : List Str) {n : Nat}
    (hkeep : ∀ b o, base.get? b = some o → s.heap.get? b = some o) (hsz : base.objs.size ≤ s.heap.objs.size)
    (hN : ∀ p ∈ R, s.heap.get? p.1 = some p.2 ∧ base.get? p.1 = none) (hnd0 : (R.map (·.1)).Nodup) (hlen0 : R.length = σ.length)
    (hobj : ∀ (n : Nat) (p : Addr × Obj) (ao : AO), R[n]? = some p → σ[n]? = some ao → OR [] (μs R) p.2 ao)
    (htab : ∀ p ∈ tabFix, (μs R)[p.1]? = some p.2) (kin : (G.Kw w.params).In base) (top : Top G.p G.loose mean mg mb base)
    (rs : VRs [] (μs R) vs as) (hn : callerA.depth + 1 + n < 1000 ∧ callerA.units + 3 + 10 * n < 9800)
    (ho : ∀ P, (G.Kw P).lookup f = some ⟨oc, od, .func (fnOf name qual params body scope dV kV doc pm an cdv ct), osl⟩) (hcd : ∀ P, codeIn (G.Kw P) cdv qual = true)
    (hb : BindN (fnOf name qual params body scope dV kV doc pm an cdv ct) names names []) (hlen : names.length = as.length)
    (hkind : (names.all fun y => scope.names.lookup y == some .local || scope.names.lookup y == some .cell) = true)
    (hcns : ∀ k, (cellsFrom k scope.names []).map (·.1) = cns) (hnd : cns.Nodup) (hco : scope.isCoroutine = false) (hgen : scope.isGenerator = false) (hk : scope.kind = .function)
    (h : ∀ (P : Px) (σ0 : List AO), Ex σ σ0 → (∀ (k : Nat) x, cns[k]? = some x → σ0[σ.length + k]? = some (.cell (bindCA (fun y => scope.names.lookup y) (names.zip as) (fun _ => none) x))) → σ0.length = σ.length + cns.length → Room (G.at P ⟨qual, scope, f, cdv⟩ (cellsFrom (P.L + 1) scope.names []) (idxFrom σ.length cns)) n → (G.at P ⟨qual, scope, f, cdv⟩ (cellsFrom (P.L + 1) scope.names []) (idxFrom σ.length cns)).A.guards = some [] →
      WSP (G.at P ⟨qual, scope, f, cdv⟩ (cellsFrom (P.L + 1) scope.names []) (idxFrom σ.length cns)) body σ0 (bindLA (fun y => scope.names.lookup y) (names.zip as) []) (fun _ σ' => K .none σ') K (fun _ => False))
    (q : ∀ v pv T' R' σ' s', (∀ b o, base.get? b = some o → s'.heap.get? b = some o) → Gr [] (μs R) T' (μs R') → (∀ p ∈ R', s'.heap.get? p.1 = some p.2) → R'.length = σ'.length →
      (∀ (n : Nat) (p : Addr × Obj) (ao : AO), R'[n]? = some p → σ'[n]? = some ao → OR T' (μs R') p.2 ao) → VR T' (μs R') v pv → K pv σ' → s' = { s with heap := s'.heap, toks := s'.toks } → Rs (.ok (.ret v)) s') :
    codeP (model G.prog w) callerA (.call (.ref f) ⟨vs, []⟩) Rs s := by
  refine codeP_call_function (by decide) (hkeep _ _ (kin _ _ (ho _))) rfl hco hgen rfl (codeRec_of (kin.keeps hkeep) (hcd _)) ((BindsTo.of_eq (by have := hb.all vs (by rw [rs.length, hlen]); simpa using this)) _ _ _ _ ?_)
  refine wpAny_newFunctionEnv_cells hk ?_ fun env' he s' x => ?_
  · exact kindsX (by
      rw [List.all_eq_true] at hkind ⊢
      exact fun y hy => hkind y.1 (List.of_mem_zip hy).1) _
  subst he
  refine ⟨(top.nolimit.keeps hkeep).keeps x.toInCall.keep, codeP_func ?_⟩
  obtain ⟨h₁, tk, rfl, _⟩ := x.done
  have hk₁ := x.toInCall.keep
  obtain ⟨cells, NC, Y⟩ := Cl.news (h₀ := s.heap) (Nat.le_refl _) fun n c hm => ⟨x.cell n c (lookup_of_mem_nodup (cellsFrom_names scope.names 0 (s.heap.objs.size + 1) [] [] rfl ▸ (by rw [hcns]; exact hnd)) hm), x.above n c hm⟩
  generalize hL' : s.heap.objs.size = L' at *
  have hFr : Fr base L' h₁ (bindL (envOfC qual scope L' f cdv).kindOf (names.zip vs) fun _ => none) := ⟨x.toInCall.ns, fun b o e => hk₁ b o (hkeep b o e), hsz⟩
  have hltR : ∀ p ∈ R, p.1 < L' := fun p hp => by rw [← hL']; exact Heap.lt_size (hN p hp).1
  have hNw : News base L' h₁ (R ++ cells) := fun p hp => by
    rcases List.mem_append.mp hp with hp | hp
    · exact ⟨hk₁ _ _ (hN p hp).1, Nat.ne_of_lt (hltR p hp), (hN p hp).2⟩
    · refine ⟨(NC p hp).1, (NC p hp).2.1, ?_⟩
      cases q : base.get? p.1 with
      | none => rfl
      | some o => have := hkeep _ _ q; rw [(NC p hp).2.2] at this; cases this
  have hok : (G.at ⟨w, mean, mg, mb, callerA, base, [], base, L', s⟩ ⟨qual, scope, f, cdv⟩ (cellsFrom (L' + 1) scope.names []) (idxFrom σ.length cns)).Ok :=
    ⟨below_caller base, kin, top, Around.frames_deeper (below_caller base).stack, rfl, hk, rfl, rfl, rfl, hk, kin, top⟩
  have hroom : Room (G.at ⟨w, mean, mg, mb, callerA, base, [], base, L', s⟩ ⟨qual, scope, f, cdv⟩ (cellsFrom (L' + 1) scope.names []) (idxFrom σ.length cns)) n :=
    ⟨hn.1, hn.2⟩
  have gC := Gr.more [] R cells
  have hS := enterSt (d := G.at ⟨w, mean, mg, mb, callerA, base, [], base, L', s⟩ ⟨qual, scope, f, cdv⟩ (cellsFrom (L' + 1) scope.names []) (idxFrom σ.length cns)) (s := { s with heap := h₁, toks := tk }) (names := names) (vs := vs) (as := as) (R := R) (T := []) (cells := cells) (σ := σ) hok hFr hNw hnd0 hlen0 hobj rfl rfl rfl ⟨fun p hp => gC.get (htab p hp), rfl⟩ (hcns _) hnd (cellsFrom_nd _ _ _ (by simp) (by simp))
    (fun p hp y hy => Nat.lt_of_lt_of_le (hltR p hp) (Nat.le_trans (Nat.le_succ _) (cellsFrom_above scope.names (L' + 1) [] (L' + 1) (Nat.le_refl _) (by simp) y hy))) Y rs
  have hw := h ⟨w, mean, mg, mb, callerA, base, [], base, L', s⟩ _ (ExB.app _ _ _) (fun k x e => lk_at (by rw [List.getElem?_map, e]; rfl)) (by rw [List.length_append, List.length_map]) hroom rfl [] (R ++ cells) _ hS
  have fin : ∀ v pv m' T' R' σ' s' g2, Tn (G.at ⟨w, mean, mg, mb, callerA, base, [], base, L', s⟩ ⟨qual, scope, f, cdv⟩ (cellsFrom (L' + 1) scope.names []) (idxFrom σ.length cns)) g2 → Gr [] (μs R) T' (μs R') → St ((G.at ⟨w, mean, mg, mb, callerA, base, [], base, L', s⟩ ⟨qual, scope, f, cdv⟩ (cellsFrom (L' + 1) scope.names []) (idxFrom σ.length cns)).re g2) T' R' σ' m' s' → VR T' (μs R') v pv → K pv σ' → Rs (.ok (.ret v)) s' := by
    intro v pv m' T' R' σ' s' g2 tn gr S' r k
    obtain ⟨mr', F2, _⟩ := S'.fr
    exact q v pv T' R' σ' s' (fun b o e => F2.keep b o (tn.other b o e (by intro h; cases h))) gr (fun p hp => (S'.news p (List.mem_append_right _ hp)).1) S'.len S'.objs r k S'.sh
  have goal := hw (fun fl s' => Rs (.ok (.ret (match fl with | .ret v => v | _ => .none))) s')
    (fun e s' => wpP (model G.prog w) (callerA.deeper (envX qual scope L' f cdv (cellsFrom (L' + 1) scope.names []))) (leaving (envX qual scope L' f cdv (cellsFrom (L' + 1) scope.names [])) e) (fun _ s'' => Rs (.error e) s'') (fun e' s'' => Rs (.error e') s'') s')
    (fun m' T' R' σ' s' g2 tn gr S' k => fin .none .none m' T' R' σ' s' g2 tn (gC.trans gr) S' .none k) (fun v pv m' T' R' σ' s' g2 tn gr S' r k => fin v pv m' T' R' σ' s' g2 tn (gC.trans gr) S' r k)
    (fun e m' s' σ' g2 tn hx hX => hX.elim)
  exact wpP_mono goal (fun fl s' hl => hl) fun _ _ y => y
end Nv
end
section
open PySem PySem.W PySem.Calls PyProof.Rows PyProof.V PySem.Spec
namespace Nv
section
variable {c : Cx} {σ : List AO} {m : Nm} {K : PV → List AO → Prop} {Kn : Nm → List AO → Prop} {Kr : PV → List AO → Prop} {X : List AO → Prop} {v d x : Nat} {b : List UInt8} {page : Int}
theorem ct_raws (std : c.Std GG) (room : Room c 7) (f : Nat → List UInt8) {n : Nat} (hw : VW σ v b page d x) (hk : isKind (knd b page) = true) (hn : cnt b page = n) (hsz : n ≤ 1000)
    (hc : ∀ i : Nat, i < n → ∃ at' child rowid size loc e, CellOk b page i at' ∧ CellAt b (knd b page) at' child rowid size loc e ∧ cut b (.int at') (.int e) = f i)
    (h : ∀ σ' k, Ex σ σ' → σ'[k]? = some (.list ((List.range n).map fun i => .bytes (f i))) → K (.loc k) σ') : WC c (.ref 283) [.loc v] σ m K X := by
  refine WCo.wc <| WCo_defc' ["self"] ["self"] std room (fun _ => rfl) (fun _ => rfl) (fun _ => rfl) rfl (by decide) (fun _ => rfl) (by decide) rfl rfl rfl ?_
  intro P σ0 ex0 hcells hl0 rm
  have hself : σ0[σ.length]? = some (.cell (some (.loc v))) := hcells 0 _ rfl
  obtain ⟨hv, hd, hx, hl, hp⟩ := id hw
  refine WS_vb (unstop ?_)
  refine WE_comp rfl rfl (CEs.cons rfl rfl .nil) ?_
  (refine WE_vcall rfl (unstop ?_); refine WE_meth0 ?_; refine WE_cell rfl rfl (by assumption) ?_; refine WM_m mo_count ⟨_, rfl⟩ (by refine Ex.get (by assumption) ?_; assumption) (by refine Ex.get (by assumption) ?_; assumption) rfl ?_)
  refine ct_count (Gl.at_std ..) (rm.mono (by decide)) (hw.ex ex0 (by simp)) ?_
  (refine unstop ?_; refine WC_range1 ?_; refine unstop ?_)
  refine WQ_rangeF (fun i => .bytes (f i)) hn hsz rfl (fun i σ' C hi e1 => ?_) fun σ' e1 => ?_
  · obtain ⟨at', child, rowid, size, loc, e, h1, h2, h3⟩ := hc i hi
    (refine WE_meth ?_; refine WE_cell rfl rfl (by refine Ex.get (by assumption) ?_; assumption) ?_; refine WM_m mo_raw ⟨_, rfl⟩ (by refine Ex.get (by assumption) ?_; refine Ex.get (by assumption) ?_; assumption) (by refine Ex.get (by assumption) ?_; refine Ex.get (by assumption) ?_; assumption) rfl ?_; refine WL_vl rfl (unstop ?_))
    refine ct_raw (comp_std (Gl.at_std ..)) (comp_room (rm.mono (by decide))) (hw.ex (ex0.trans e1) (by simp)) hk h1 h2 fun σ2 e2 => ?_
    rw [h3]
    (repeat refine unstop ?_); exact ⟨rfl, e1.trans e2⟩
  · first | exact h _ _ ((ex0.trans e1).trans (ExB.app _ _ _)) lk_last | exact unstop (h _ _ ((ex0.trans e1).trans (ExB.app _ _ _)) lk_last)
end
end Nv
end
section
open PySem PySem.W PySem.Calls PyProof.Rows PyProof.V PySem.Spec
namespace Nv
section
variable {c : Cx} {σ : List AO} {m : Nm} {K : PV → List AO → Prop} {Kn : Nm → List AO → Prop} {Kr : PV → List AO → Prop} {X : List AO → Prop} {v d x : Nat} {b : List UInt8} {page : Int}
theorem ct_vrowid5 (std : c.Std GG) (room : Room c 6) {i at' N e : Int} (hw : VW σ v b page d x) (hk : knd b page = 5) (hc : CellOk b page i at') (hv : VG b N e 0 0 (at' + 4)) (h : K (.int (sgn N)) σ) : WC c (.ref 290) [.loc v, .int i] σ m K X := by
  refine WCo.wc <| WCo_def (names := ["self", "i"]) std room (fun _ => rfl) (fun _ => rfl) (fun _ _ => rfl) rfl rfl (by decide) rfl rfl rfl ?_
  intro P ok rm
  obtain ⟨hv', hd, hx, hl, hp⟩ := id hw
  (refine WS_vb (unstop ?_); refine WE_meth ?_; refine WE_loc rfl rfl rfl ?_; refine WM_m mo_place ⟨_, rfl⟩ (by assumption) (by assumption) rfl ?_; refine WL_vl rfl (unstop ?_))
  refine ct_place_ok (Gl.at_std ..) (rm.mono (by decide)) hw hc ?_
  (refine unstop ?_; refine WE_meth0 ?_; refine WE_loc rfl rfl rfl ?_; refine WM_m mo_kind ⟨_, rfl⟩ (by assumption) (by assumption) rfl ?_)
  refine ct_kind' (Gl.at_std ..) (rm.mono (by decide)) hw (by rw [hk]; decide) ?_
  (refine unstop ?_; refine mdec (fun _ => ?_) (fun _ => ?_); rotate_left; (exfalso; lia); refine WS_vb (unstop ?_); refine WS1_asgT ?_; refine WE_vcall rfl (unstop ?_); refine WO_fld fo_data ⟨_, rfl⟩ (by assumption) (by assumption) rfl (by intro u hu; cases hu) ?_; refine unstop ?_)
  refine ct_get_varint (Gl.at_std ..) (rm.mono (by decide)) hx (by lia) hv ?_
  (refine unstop ?_; refine ⟨_, rfl, rfl, ?_⟩; refine WA_cons ?_; refine WN_loc rfl rfl ?_; refine WA_cons ?_; refine WN_loc rfl rfl ?_; refine WA_nil ?_; refine unstop ?_)
  refine ct_signed (Gl.at_std ..) (rm.mono (by decide)) ?_
  first | exact h | exact unstop (h)
theorem ct_vrowid13 (std : c.Std GG) (room : Room c 6) {i at' S a1 N e : Int} (hw : VW σ v b page d x) (hk : knd b page = 13) (hc : CellOk b page i at') (hv1 : VG b S a1 0 0 at') (hv : VG b N e 0 0 a1) (h : K (.int (sgn N)) σ) : WC c (.ref 290) [.loc v, .int i] σ m K X := by
  refine WCo.wc <| WCo_def (names := ["self", "i"]) std room (fun _ => rfl) (fun _ => rfl) (fun _ _ => rfl) rfl rfl (by decide) rfl rfl rfl ?_
  intro P ok rm
  obtain ⟨hv', hd, hx, hl, hp⟩ := id hw
  (refine WS_vb (unstop ?_); refine WE_meth ?_; refine WE_loc rfl rfl rfl ?_; refine WM_m mo_place ⟨_, rfl⟩ (by assumption) (by assumption) rfl ?_; refine WL_vl rfl (unstop ?_))
  refine ct_place_ok (Gl.at_std ..) (rm.mono (by decide)) hw hc ?_
  (refine unstop ?_; refine WE_meth0 ?_; refine WE_loc rfl rfl rfl ?_; refine WM_m mo_kind ⟨_, rfl⟩ (by assumption) (by assumption) rfl ?_)
  refine ct_kind' (Gl.at_std ..) (rm.mono (by decide)) hw (by rw [hk]; decide) ?_
  (refine unstop ?_; refine mdec (fun _ => ?_) (fun _ => ?_); (exfalso; lia); refine WS_vb (unstop ?_); refine WS1_asgT ?_; refine WE_vcall rfl (unstop ?_); refine WO_fld fo_data ⟨_, rfl⟩ (by assumption) (by assumption) rfl (by intro u hu; cases hu) ?_; refine unstop ?_)
  refine ct_get_varint (Gl.at_std ..) (rm.mono (by decide)) hx (by lia) hv1 ?_
  (refine unstop ?_; refine ⟨_, rfl, rfl, ?_⟩; refine WA_cons ?_; refine WN_loc rfl rfl ?_; refine WA_cons ?_; refine WN_loc rfl rfl ?_; refine WA_nil ?_; refine unstop ?_; refine WS1_asgT ?_; refine WE_vcall rfl (unstop ?_); refine WO_fld fo_data ⟨_, rfl⟩ (by assumption) (by assumption) rfl (by intro u hu; cases hu) ?_; refine unstop ?_)
  refine ct_get_varint (Gl.at_std ..) (rm.mono (by decide)) hx (by lia) hv ?_
  (refine unstop ?_; refine ⟨_, rfl, rfl, ?_⟩; refine WA_cons ?_; refine WN_loc rfl rfl ?_; refine WA_cons ?_; refine WN_loc rfl rfl ?_; refine WA_nil ?_; refine unstop ?_)
  refine ct_signed (Gl.at_std ..) (rm.mono (by decide)) ?_
  first | exact h | exact unstop (h)
theorem ct_child (std : c.Std GG) (room : Room c 6) {i at' : Int} (hw : VW σ v b page d x) (hc : CellOk b page i at') (h : K (.int (w4 b at')) σ) : WC c (.ref 297) [.loc v, .int i] σ m K X := by
  refine WCo.wc <| WCo_def (names := ["self", "i"]) std room (fun _ => rfl) (fun _ => rfl) (fun _ _ => rfl) rfl rfl (by decide) rfl rfl rfl ?_
  intro P ok rm
  obtain ⟨hv', hd, hx, hl, hp⟩ := id hw
  have h0 : 0 ≤ at' := by rw [← hc.i3]; exact (w2_lt _ _).1
  have h1 := hc.i1
  have h5 := hc.i5
  (refine WS_vb (unstop ?_); refine WE_meth0 ?_; refine WE_loc rfl rfl rfl ?_; refine WM_m mo_count ⟨_, rfl⟩ (by assumption) (by assumption) rfl ?_)
  refine ct_count (Gl.at_std ..) (rm.mono (by decide)) hw ?_
  (refine unstop ?_; refine mdec (fun _ => ?_) (fun _ => ?_); (exfalso; clear hl hp h0; omega); refine WS_vb (unstop ?_); refine WO_fld fo_data ⟨_, rfl⟩ (by assumption) (by assumption) rfl (by intro u hu; cases hu) ?_; refine unstop ?_; refine WE_meth ?_; refine WE_loc rfl rfl rfl ?_; refine WM_m mo_place ⟨_, rfl⟩ (by assumption) (by assumption) rfl ?_; refine WL_vl rfl (unstop ?_))
  refine ct_place_ok (Gl.at_std ..) (rm.mono (by decide)) hw hc ?_
  refine unstop ?_
  refine ct_four_at (Gl.at_std ..) (rm.mono (by decide)) hx (by lia) (by assumption) (by lia) ?_
  first | exact h | exact unstop (h)
theorem ct_child_last (std : c.Std GG) (room : Room c 6) (hw : VW σ v b page d x) (h : K (.int (w4 b (pbase page + 8))) σ) : WC c (.ref 297) [.loc v, .int (cnt b page)] σ m K X := by
  refine WCo.wc <| WCo_def (names := ["self", "i"]) std room (fun _ => rfl) (fun _ => rfl) (fun _ _ => rfl) rfl rfl (by decide) rfl rfl rfl ?_
  intro P ok rm
  obtain ⟨hv', hd, hx, hl, hp⟩ := id hw
  (refine WS_vb (unstop ?_); refine WE_meth0 ?_; refine WE_loc rfl rfl rfl ?_; refine WM_m mo_count ⟨_, rfl⟩ (by assumption) (by assumption) rfl ?_)
  refine ct_count (Gl.at_std ..) (rm.mono (by decide)) hw ?_
  (refine unstop ?_; refine mdec (fun _ => ?_) (fun _ => ?_); rotate_left; (exfalso; lia); refine WS_vb (unstop ?_); refine WE_meth0 ?_; refine WE_loc rfl rfl rfl ?_; refine WM_m mo_right ⟨_, rfl⟩ (by assumption) (by assumption) rfl ?_)
  try rw [show (cnt b page == cnt b page) = true from beq_self_eq_true _]
  refine ct_right (Gl.at_std ..) (rm.mono (by decide)) hw ?_
  first | exact h | exact unstop (h)
theorem ct_children_leaf (std : c.Std GG) (room : Room c 7) (hw : VW σ v b page d x) (hk : knd b page = 13 ∨ knd b page = 10)
    (h : ∀ σ' k, Ex σ σ' → σ'[k]? = some (.list []) → K (.loc k) σ') : WC c (.ref 302) [.loc v] σ m K X := by
  refine WCo.wc <| WCo_defc' ["self"] ["self"] std room (fun _ => rfl) (fun _ => rfl) (fun _ => rfl) rfl (by decide) (fun _ => rfl) (by decide) rfl rfl rfl ?_
  intro P σ0 ex0 hcells hl0 rm
  have hself : σ0[σ.length]? = some (.cell (some (.loc v))) := hcells 0 _ rfl
  have hw0 := hw.ex ex0 (by simp)
  obtain ⟨hv, hd, hx, hl, hp⟩ := id hw0
  (refine WS_vb (unstop ?_); refine WE_meth0 ?_; refine WE_cell rfl rfl (by assumption) ?_; refine WM_m mo_is_leaf ⟨_, rfl⟩ (by assumption) (by assumption) rfl ?_)
  refine ct_vis_leaf (Gl.at_std ..) (rm.mono (by decide)) hw0 (by rcases hk with hk | hk <;> rw [hk] <;> decide) ?_
  have e : (knd b page == 13 || knd b page == 10) = true := by rcases hk with hk | hk <;> rw [hk] <;> decide
  rw [e]
  (refine unstop ?_; refine mtt rfl ?_; refine WS_vb (unstop ?_))
  first | exact h _ _ (ex0.trans (ExB.app _ _ _)) lk_last | exact unstop (h _ _ (ex0.trans (ExB.app _ _ _)) lk_last)
theorem ct_children (std : c.Std GG) (room : Room c 7) {n : Nat} (f : Nat → Int) (hw : VW σ v b page d x) (hk : knd b page = 2 ∨ knd b page = 5) (hn : cnt b page = n) (hsz : n ≤ 900)
    (hc : ∀ i : Nat, i < n → ∃ at', CellOk b page i at' ∧ w4 b at' = f i) (hr : w4 b (pbase page + 8) = f n)
    (h : ∀ σ' k, Ex σ σ' → σ'[k]? = some (.list ((List.range (n + 1)).map fun i => .int (f i))) → K (.loc k) σ') : WC c (.ref 302) [.loc v] σ m K X := by
  refine WCo.wc <| WCo_defc' ["self"] ["self"] std room (fun _ => rfl) (fun _ => rfl) (fun _ => rfl) rfl (by decide) (fun _ => rfl) (by decide) rfl rfl rfl ?_
  intro P σ0 ex0 hcells hl0 rm
  have hself : σ0[σ.length]? = some (.cell (some (.loc v))) := hcells 0 _ rfl
  have hw0 := hw.ex ex0 (by simp)
  obtain ⟨hv, hd, hx, hl, hp⟩ := id hw0
  (refine WS_vb (unstop ?_); refine WE_meth0 ?_; refine WE_cell rfl rfl (by assumption) ?_; refine WM_m mo_is_leaf ⟨_, rfl⟩ (by assumption) (by assumption) rfl ?_)
  refine ct_vis_leaf (Gl.at_std ..) (rm.mono (by decide)) hw0 (by rcases hk with hk | hk <;> rw [hk] <;> decide) ?_
  have e : (knd b page == 13 || knd b page == 10) = false := by rcases hk with hk | hk <;> rw [hk] <;> decide
  rw [e]
  (refine unstop ?_; refine mff rfl ?_; refine WS_vb (unstop ?_))
  refine WE_comp rfl rfl (CEs.cons rfl rfl .nil) ?_
  (refine WE_vcall rfl (unstop ?_); refine WE_meth0 ?_; refine WE_cell rfl rfl (by assumption) ?_; refine WM_m mo_count ⟨_, rfl⟩ (by assumption) (by assumption) rfl ?_)
  refine ct_count (Gl.at_std ..) (rm.mono (by decide)) hw0 ?_
  (refine unstop ?_; refine WC_range1 ?_; refine unstop ?_)
  refine WQ_rangeF (n := n + 1) (fun i => .int (f i)) (by rw [hn]; lia) (by lia) rfl (fun i σ' C hi e1 => ?_) fun σ' e1 => ?_
  · by_cases hlt : i < n
    · obtain ⟨at', h1, h2⟩ := hc i hlt
      (refine WE_meth ?_; refine WE_cell rfl rfl (by refine Ex.get (by assumption) ?_; assumption) ?_; refine WM_m mo_child ⟨_, rfl⟩ (by refine Ex.get (by assumption) ?_; assumption) (by refine Ex.get (by assumption) ?_; assumption) rfl ?_; refine WL_vl rfl (unstop ?_))
      refine ct_child (comp_std (Gl.at_std ..)) (comp_room (rm.mono (by decide))) (hw0.ex e1 (by simp)) h1 ?_
      rw [h2]
      (repeat refine unstop ?_); exact ⟨rfl, e1⟩
    · obtain rfl : i = n := by lia
      (refine WE_meth ?_; refine WE_cell rfl rfl (by refine Ex.get (by assumption) ?_; assumption) ?_; refine WM_m mo_child ⟨_, rfl⟩ (by refine Ex.get (by assumption) ?_; assumption) (by refine Ex.get (by assumption) ?_; assumption) rfl ?_; refine WL_vl rfl (unstop ?_))
      rw [← hn]
      refine ct_child_last (comp_std (Gl.at_std ..)) (comp_room (rm.mono (by decide))) (hw0.ex e1 (by simp)) ?_
      rw [hr]
      (repeat refine unstop ?_); exact ⟨rfl, e1⟩
  · first | exact h _ _ ((ex0.trans e1).trans (ExB.app _ _ _)) lk_last | exact unstop (h _ _ ((ex0.trans e1).trans (ExB.app _ _ _)) lk_last)
end
end Nv
end
section
open PySem PySem.W PySem.Calls PyProof.Rows PyProof.V PySem.Spec
namespace Nv
inductive BLK (b : List UInt8) (ct : Int) (res : Option (List (Int × Int))) : Nat → Int → Int → List (Int × Int) → Prop
  | done {n : Nat} {behind : Int} {acc : List (Int × Int)} : res = some acc → BLK b ct res n 0 behind acc
  | bad1 {n : Nat} {a behind : Int} {acc : List (Int × Int)} : a ≠ 0 → (a < behind ∨ a < ct ∨ 128 < a + 4) → res = none → BLK b ct res n a behind acc
  | bad2 {n : Nat} {a behind : Int} {acc : List (Int × Int)} : a ≠ 0 → 0 ≤ a → ¬ a < behind → ¬ a < ct → ¬ 128 < a + 4 → (w2 b (a + 2) < 4 ∨ 128 < a + w2 b (a + 2)) → res = none → BLK b ct res n a behind acc
  | next {n : Nat} {a behind : Int} {acc : List (Int × Int)} : a ≠ 0 → 0 ≤ a → ¬ a < behind → ¬ a < ct → ¬ 128 < a + 4 → ¬ w2 b (a + 2) < 4 → ¬ 128 < a + w2 b (a + 2) → BLK b ct res n (w2 b a) (a + w2 b (a + 2)) (acc ++ [(a, w2 b (a + 2))]) → BLK b ct res (n + 1) a behind acc
noncomputable def pairPV (p : Int × Int) : PV := .tup [.int p.1, .int p.2]
inductive BInv (σ : List AO) (v : Nat) (b : List UInt8) (ct : Int) (res : Option (List (Int × Int))) (k : Nat) (m' : Nm) (σ' : List AO) : Prop
  | mk (a behind : Int) (acc : List (Int × Int)) (h1 : lkN m' "self" = some (.loc v)) (h2 : lkN m' "found" = some (.loc σ.length)) (h3 : lkN m' "at" = some (.int a)) (h4 : lkN m' "behind" = some (.int behind)) (ex : Ex σ σ') (e : σ'[σ.length]? = some (.list (acc.map pairPV))) (hk : k + acc.length ≤ 100) (hb : BLK b ct res k a behind acc) : BInv σ v b ct res k m' σ'
section
variable {c : Cx} {σ : List AO} {m : Nm} {K : PV → List AO → Prop} {Kn : Nm → List AO → Prop} {Kr : PV → List AO → Prop} {X : List AO → Prop} {v d x : Nat} {b : List UInt8} {page : Int}
theorem ct_blocks (std : c.Std GG) (room : Room c 6) {n : Nat} {res : Option (List (Int × Int))} (hw : VW σ v b page d x) (hn : n ≤ 100) (hb : BLK b (w2 b (pbase page + 5)) res n (w2 b (pbase page + 1)) 0 [])
    (h : ∀ σ' k acc, Ex σ σ' → res = some acc → σ'[k]? = some (.list (acc.map pairPV)) → K (.loc k) σ') (hX : ∀ σ', Ex σ σ' → res = none → X σ') : WC c (.ref 309) [.loc v] σ m K X := by
  refine WCo.wc <| WCo_defb (names := ["self"]) std room (fun _ => rfl) (fun _ => rfl) (fun _ => rfl) rfl rfl (by decide) rfl rfl rfl ?_
  intro P ok rm
  obtain ⟨hv, hd, hx, hl, hp⟩ := id hw
  have hb := pbase_le page
  refine WSb_cons ?_
  refine vS_ok (unstop ?_)
  refine WSb_cons ?_
  (refine vS_ok (unstop ?_); refine WO_fld fo_data ⟨_, rfl⟩ (by refine lk_app ?_; assumption) (by refine lk_app ?_; assumption) rfl (by intro u hu; cases hu) ?_; refine unstop ?_; refine WO_fld fo_data ⟨_, rfl⟩ (by refine lk_app ?_; assumption) (by refine lk_app ?_; assumption) rfl (by intro u hu; cases hu) ?_; refine unstop ?_)
  refine ct_two_at (Gl.at_std ..) (rm.mono (by decide)) (by (refine lk_app ?_; assumption)) (by lia) (by lia) (by lia) ?_
  refine unstop ?_
  refine WSb_cons ?_
  refine vS_ok (unstop ?_)
  refine WSb_while (BInv σ v b (w2 b (pbase page + 5)) res) n ⟨_, _, [], rfl, rfl, rfl, rfl, ExB.app _ _ _, lk_last, by simpa using hn, by assumption⟩ ?_
  rintro k m' σ' ⟨a, behind, acc, h1, h2, h3, h4, ex1, e1, hk, hblk⟩
  (repeat refine unstop ?_); refine ⟨_, Wk.cons h1 (Wk.cons h2 (Wk.cons h3 (Wk.cons h4 (Wk.nil m')))), ?_⟩
  have hw' := hw.ex ex1 (by simp)
  obtain ⟨hv', hd', hx', _, _⟩ := id hw'
  cases hblk with
  | done q1 =>
    refine WB_vcmp rfl (unstop ?_)
    refine WSb.of ?_
    refine WS_vb (unstop ?_)
    first | exact h _ _ _ ex1 q1 e1 | exact unstop (h _ _ _ ex1 q1 e1)
  | bad1 q1 q2 q3 =>
    (refine WB_vcmp rfl (unstop ?_); refine mbne (fun _ => ?_) (fun _ => ?_); rotate_left; (exfalso; lia); refine WS_vb (unstop ?_))
    refine mdec (fun _ => ?_) (fun _ => ?_)
    · (refine unstop ?_; refine mtt rfl ?_; refine WS_vb (unstop ?_); refine WS1_corrupt (Gl.at_std ..) (Room.mono (by assumption) (by decide)) rfl ?_; refine WL_cons ?_; refine WE_joined ?_ (by decide); refine WJ_str (by decide) ?_; refine WJ_fmt ?_; refine WE_vx (unstop ?_); refine WO_fld fo_data ⟨_, rfl⟩ (by assumption) (by assumption) rfl (by intro u hu; cases hu) ?_; refine unstop ?_; refine ⟨_, rfl, by lia, ?_⟩; refine WJ_str (by decide) ?_; refine WJ_nil fun _ => ?_; refine WL_nil ?_; refine ⟨rfl, ?_⟩)
      first | exact hX _ ex1 q3 | exact unstop (hX _ ex1 q3)
    (refine WB_vx (unstop ?_); refine WE_meth0 ?_; refine WE_loc rfl rfl rfl ?_; refine WM_m mo_content ⟨_, rfl⟩ (by assumption) (by assumption) rfl ?_)
    refine ct_content (Gl.at_std ..) (rm.mono (by decide)) hw' ?_
    refine unstop ?_
    refine mdec (fun _ => ?_) (fun _ => ?_)
    · (refine unstop ?_; refine unstop ?_; refine mtt rfl ?_; refine WS_vb (unstop ?_); refine WS1_corrupt (Gl.at_std ..) (Room.mono (by assumption) (by decide)) rfl ?_; refine WL_cons ?_; refine WE_joined ?_ (by decide); refine WJ_str (by decide) ?_; refine WJ_fmt ?_; refine WE_vx (unstop ?_); refine WO_fld fo_data ⟨_, rfl⟩ (by assumption) (by assumption) rfl (by intro u hu; cases hu) ?_; refine unstop ?_; refine ⟨_, rfl, by lia, ?_⟩; refine WJ_str (by decide) ?_; refine WJ_nil fun _ => ?_; refine WL_nil ?_; refine ⟨rfl, ?_⟩)
      first | exact hX _ ex1 q3 | exact unstop (hX _ ex1 q3)
    · (refine WB_vx (unstop ?_); refine WO_fld fo_data ⟨_, rfl⟩ (by assumption) (by assumption) rfl (by intro u hu; cases hu) ?_; refine unstop ?_; refine mdec (fun _ => ?_) (fun _ => ?_); rotate_left; (exfalso; lia); refine unstop ?_; refine unstop ?_; refine unstop ?_; refine mtt rfl ?_; refine WS_vb (unstop ?_); refine WS1_corrupt (Gl.at_std ..) (Room.mono (by assumption) (by decide)) rfl ?_; refine WL_cons ?_; refine WE_joined ?_ (by decide); refine WJ_str (by decide) ?_; refine WJ_fmt ?_; refine WE_vx (unstop ?_); refine WO_fld fo_data ⟨_, rfl⟩ (by assumption) (by assumption) rfl (by intro u hu; cases hu) ?_; refine unstop ?_; refine ⟨_, rfl, by lia, ?_⟩; refine WJ_str (by decide) ?_; refine WJ_nil fun _ => ?_; refine WL_nil ?_; refine ⟨rfl, ?_⟩)
      first | exact hX _ ex1 q3 | exact unstop (hX _ ex1 q3)
  | bad2 q1 q2 q3 q4 q5 q6 q7 =>
    (refine WB_vcmp rfl (unstop ?_); refine mbne (fun _ => ?_) (fun _ => ?_); rotate_left; (exfalso; lia); refine WS_vb (unstop ?_); refine mdec (fun _ => ?_) (fun _ => ?_); (exfalso; clear q2 q4 q5 q6; lia); refine WB_vx (unstop ?_); refine WE_meth0 ?_; refine WE_loc rfl rfl rfl ?_; refine WM_m mo_content ⟨_, rfl⟩ (by assumption) (by assumption) rfl ?_)
    refine ct_content (Gl.at_std ..) (rm.mono (by decide)) hw' ?_
    (refine unstop ?_; refine mdec (fun _ => ?_) (fun _ => ?_); (exfalso; clear hn hk; omega); refine WB_vx (unstop ?_); refine WO_fld fo_data ⟨_, rfl⟩ (by assumption) (by assumption) rfl (by intro u hu; cases hu) ?_; refine unstop ?_; refine mdec (fun _ => ?_) (fun _ => ?_); (exfalso; lia); refine WB_vx (unstop ?_); refine unstop ?_; refine unstop ?_; refine unstop ?_; refine mff rfl ?_; refine WS_vb (unstop ?_); refine WO_fld fo_data ⟨_, rfl⟩ (by assumption) (by assumption) rfl (by intro u hu; cases hu) ?_; refine unstop ?_)
    refine ct_two_at (Gl.at_std ..) (rm.mono (by decide)) (by assumption) (by lia) (by lia) (by lia) ?_
    refine unstop ?_
    refine mdec (fun _ => ?_) (fun _ => ?_)
    · (refine unstop ?_; refine mtt rfl ?_; refine WS_vb (unstop ?_); refine WS1_corrupt (Gl.at_std ..) (Room.mono (by assumption) (by decide)) rfl ?_; refine WL_cons ?_; refine WE_joined ?_ (by decide); refine WJ_str (by decide) ?_; refine WJ_fmt ?_; refine WE_vx (unstop ?_); refine WO_fld fo_data ⟨_, rfl⟩ (by assumption) (by assumption) rfl (by intro u hu; cases hu) ?_; refine unstop ?_; refine ⟨_, rfl, by lia, ?_⟩; refine WJ_str (by decide) ?_; refine WJ_nil fun _ => ?_; refine WL_nil ?_; refine ⟨rfl, ?_⟩)
      first | exact hX _ ex1 q7 | exact unstop (hX _ ex1 q7)
    · (refine WB_vx (unstop ?_); refine WO_fld fo_data ⟨_, rfl⟩ (by assumption) (by assumption) rfl (by intro u hu; cases hu) ?_; refine unstop ?_; refine mdec (fun _ => ?_) (fun _ => ?_); rotate_left; (exfalso; clear hb hk q2; omega); refine unstop ?_; refine unstop ?_; refine mtt rfl ?_; refine WS_vb (unstop ?_); refine WS1_corrupt (Gl.at_std ..) (Room.mono (by assumption) (by decide)) rfl ?_; refine WL_cons ?_; refine WE_joined ?_ (by decide); refine WJ_str (by decide) ?_; refine WJ_fmt ?_; refine WE_vx (unstop ?_); refine WO_fld fo_data ⟨_, rfl⟩ (by assumption) (by assumption) rfl (by intro u hu; cases hu) ?_; refine unstop ?_; refine ⟨_, rfl, by lia, ?_⟩; refine WJ_str (by decide) ?_; refine WJ_nil fun _ => ?_; refine WL_nil ?_; refine ⟨rfl, ?_⟩)
      first | exact hX _ ex1 q7 | exact unstop (hX _ ex1 q7)
  | next q1 q2 q3 q4 q5 q6 q7 q8 =>
    rename_i k
    have hlen : (acc.map pairPV).length ≤ 1000 := by rw [List.length_map]; lia
    (refine WB_vcmp rfl (unstop ?_); refine mbne (fun _ => ?_) (fun _ => ?_); rotate_left; (exfalso; lia); refine WS_vb (unstop ?_); refine mdec (fun _ => ?_) (fun _ => ?_); (exfalso; lia); refine WB_vx (unstop ?_); refine WE_meth0 ?_; refine WE_loc rfl rfl rfl ?_; refine WM_m mo_content ⟨_, rfl⟩ (by assumption) (by assumption) rfl ?_)
    refine ct_content (Gl.at_std ..) (rm.mono (by decide)) hw' ?_
    (refine unstop ?_; refine mdec (fun _ => ?_) (fun _ => ?_); (exfalso; clear hn hk hlen; omega); refine WB_vx (unstop ?_); refine WO_fld fo_data ⟨_, rfl⟩ (by assumption) (by assumption) rfl (by intro u hu; cases hu) ?_; refine unstop ?_; refine mdec (fun _ => ?_) (fun _ => ?_); (exfalso; lia); refine WB_vx (unstop ?_); refine unstop ?_; refine unstop ?_; refine unstop ?_; refine mff rfl ?_; refine WS_vb (unstop ?_); refine WO_fld fo_data ⟨_, rfl⟩ (by assumption) (by assumption) rfl (by intro u hu; cases hu) ?_; refine unstop ?_)
    refine ct_two_at (Gl.at_std ..) (rm.mono (by decide)) (by assumption) (by lia) (by lia) (by lia) ?_
    (refine unstop ?_; refine mdec (fun _ => ?_) (fun _ => ?_); (exfalso; clear hb hk q2 q4 q5 hlen; omega); refine WB_vx (unstop ?_); refine WO_fld fo_data ⟨_, rfl⟩ (by assumption) (by assumption) rfl (by intro u hu; cases hu) ?_; refine unstop ?_; refine mdec (fun _ => ?_) (fun _ => ?_); (exfalso; clear hn hk hlen; omega); refine WB_vx (unstop ?_); refine unstop ?_; refine unstop ?_; refine mff rfl ?_; refine WS_vb (unstop ?_); refine WE_meth ?_; refine WE_loc rfl rfl rfl ?_; refine WM_append (by assumption) ?_; refine ⟨rfl, ?_⟩; refine WL_vl rfl (unstop ?_); refine WC_append (by assumption) (by lia) ?_; refine unstop ?_; refine WO_fld fo_data ⟨_, rfl⟩ (by refine lk_set_ne (by lia) ?_; assumption) (by refine lk_set_ne (by lia) ?_; assumption) rfl (by intro u hu; cases hu) ?_; refine unstop ?_)
    have hx2 : (σ'.set σ.length (.list (acc.map pairPV ++ [.tup [.int a, .int (w2 b (a + 2))]])))[x]? = some (.ba b) := lk_set_ne (by have := lt_of_lk hx; (clear this; lia)) hx'
    have hd2 : (σ'.set σ.length (.list (acc.map pairPV ++ [.tup [.int a, .int (w2 b (a + 2))]])))[d]? = some (.dict (viewFs x page)) := lk_set_ne (by have := lt_of_lk hd; (clear this; lia)) hd'
    have hv2 : (σ'.set σ.length (.list (acc.map pairPV ++ [.tup [.int a, .int (w2 b (a + 2))]])))[v]? = some (.inst 312 d) := lk_set_ne (by have := lt_of_lk hv; (clear this; lia)) hv'
    refine ct_two_at (Gl.at_std ..) (rm.mono (by decide)) hx2 (by lia) (by assumption) (by lia) ?_
    refine unstop ?_
    (repeat refine unstop ?_); refine ⟨k, by exact Nat.le_refl _, _, _, acc ++ [(a, w2 b (a + 2))], rfl, rfl, rfl, rfl, ex1.setNew (Nat.le_refl _), ?_, by rw [List.length_append]; simp; lia, q8⟩
    rw [List.map_append]
    exact lk_set (by exact lt_of_lk (by assumption))
end
end Nv
end
section
open PySem PySem.W PySem.Calls PyProof.Rows PyProof.V PySem.Spec
namespace Nv
noncomputable def WSI (c : Cx) (pv ov iv : PV) (σ : List AO) (m : Nm) (Kn : Nm → List AO → Prop) : Prop := ∃ n l k, ov = .loc n ∧ iv = .int k ∧ σ[n]? = some (.list l) ∧ 0 ≤ k ∧ k < l.length ∧ k < 2 ^ 60 ∧ Kn m (σ.set n (.list (l.set k.toNat pv)))
theorem WSI_intro {c : Cx} {pv : PV} {σ : List AO} {m : Nm} {Kn : Nm → List AO → Prop} {n : Nat} {l : List PV} {k : Int} (e : σ[n]? = some (.list l)) (h0 : 0 ≤ k) (h1 : k < l.length) (h2 : k < 2 ^ 60) (h : Kn m (σ.set n (.list (l.set k.toNat pv)))) : WSI c pv (.loc n) (.int k) σ m Kn := ⟨_, _, _, rfl, rfl, e, h0, h1, h2, h⟩
noncomputable abbrev jI3 (c : Cx) (pv ov : PV) (m : List (Str × PV)) (Kn : Nm → List AO → Prop) (iv : PV) (σ : List AO) : Prop := WSI c pv ov iv σ m Kn
noncomputable abbrev jI2 (c : Cx) (pv : PV) (i : Expr) (m : List (Str × PV)) (Kn : Nm → List AO → Prop) (X : List AO → Prop) (ov : PV) (σ : List AO) : Prop := WE c i σ m (jI3 c pv ov m Kn) X
noncomputable abbrev jI1 (c : Cx) (o i : Expr) (m : List (Str × PV)) (Kn : Nm → List AO → Prop) (X : List AO → Prop) (pv : PV) (σ : List AO) : Prop := WE c o σ m (jI2 c pv i m Kn X) X
theorem WS1_asgI' {c : Cx} {σ : List AO} {m : Nm} {Kn : Nm → List AO → Prop} {Kr : PV → List AO → Prop} {X : List AO → Prop} {o i : Expr} {p pos} {e : Expr}
    (h : WE c e σ m (jI1 c o i m Kn X) X)
    (hs : swapsWith e (some (.Subscript o i p)) pos.line c.env = pure false := by rfl) : WS1 c (.Assign [.Subscript o i p] e pos) σ m Kn Kr X := WS1_asgI h hs
end Nv
end
section
open PySem PySem.W PySem.Calls PyProof.Rows PyProof.V PySem.Spec
namespace Nv
section
variable {c : Cx} {σ : List AO} {m : Nm} {K : PV → List AO → Prop} {Kn : Nm → List AO → Prop} {Kr : PV → List AO → Prop} {X : List AO → Prop}
noncomputable def Src (σ : List AO) (n : Nat) : Prop := ∃ A B : Int, σ[n]? = some (.list [.int A, .int B]) ∧ 0 ≤ A ∧ 0 ≤ B ∧ B < 2147483647
theorem fmod_b {a b : Int} (h : 0 < b) : 0 ≤ a.fmod b ∧ a.fmod b < b := ⟨Int.fmod_nonneg_of_pos a h, Int.fmod_lt_of_pos a h⟩
theorem ct_take (std : c.Std GG) (room : Room c 1) {n : Nat} {top : Int} (hs : Src σ n) (h0 : 0 < top) (h1 : top < 2 ^ 40) (h : ∀ r σ', 0 ≤ r → r < top → ExB [n] σ σ' → Src σ' n → K (.int r) σ') : WC c (.ref 330) [.loc n, .int top] σ m K X := by
  refine WCo.wc <| WCo_def (names := ["source", "top"]) std room (fun _ => rfl) (fun _ => rfl) (fun _ _ => rfl) rfl rfl (by decide) rfl rfl rfl ?_
  intro P ok rm
  obtain ⟨A, B, e, a0, b0, b1⟩ := hs
  (refine WS_vb (unstop ?_); refine WG_list (by assumption) (by decide) (by decide) rfl ?_; refine unstop ?_)
  refine mdec (fun _ => ?_) (fun _ => ?_)
  · (refine WS_vb (unstop ?_); refine WG_list (by assumption) (by decide) (by decide) rfl ?_; refine unstop ?_; refine WC_intI ?_; refine unstop ?_; refine WO_mod (by lia) ?_; refine unstop ?_; refine WS1_asgI' ?_; refine WE_vx (unstop ?_); refine WG_list (by assumption) (by decide) (by decide) rfl ?_; refine unstop ?_; refine WO_fdiv (by lia) (by omega) ?_; refine unstop ?_; refine WE_loc rfl rfl rfl ?_; refine WE_vx (unstop ?_); refine WSI_intro (by assumption) (by decide) (by simp only [List.length_cons, List.length_nil, List.length_set, List.length_map, List.length_append, List.length_range, List.length_replicate]; decide) (by decide) ?_; (try rw [List.set_set]); refine unstop ?_)
    have hf := fmod_b (a := A) h0
    first | exact h _ _ hf.1 hf.2 (ExB.set (.head _)) ⟨_, _, lk_set (lt_of_lk e), Int.fdiv_nonneg a0 (by lia), b0, b1⟩ | exact unstop (h _ _ hf.1 hf.2 (ExB.set (.head _)) ⟨_, _, lk_set (lt_of_lk e), Int.fdiv_nonneg a0 (by skip), b0, b1⟩)
  · (refine WS_vb (unstop ?_); refine WS1_asgI' ?_; refine WE_vx (unstop ?_); refine WG_list (by assumption) (by decide) (by decide) rfl ?_; refine unstop ?_; refine WO_mul (mulOk64 (by lia) (by decide)) ?_; refine unstop ?_; refine WC_intI ?_; refine unstop ?_; refine WO_mod (by decide) ?_; refine unstop ?_; refine WE_loc rfl rfl rfl ?_; refine WE_vx (unstop ?_); refine WSI_intro (by assumption) (by decide) (by simp only [List.length_cons, List.length_nil, List.length_set, List.length_map, List.length_append, List.length_range, List.length_replicate]; decide) (by decide) ?_; (try rw [List.set_set]); refine unstop ?_; refine WG_list (by exact lk_set (by exact lt_of_lk (by assumption))) (by decide) (by decide) rfl ?_; refine unstop ?_; refine WG_list (by exact lk_set (by exact lt_of_lk (by assumption))) (by decide) (by decide) rfl ?_; refine unstop ?_; refine WO_mul (mulOk64 (by lia) (by lia)) ?_; refine unstop ?_; refine WC_intI ?_; refine unstop ?_; refine WO_mod (by decide) ?_; refine unstop ?_; refine WO_fdiv (by decide) (by decide) ?_; refine unstop ?_; refine WC_intI ?_; refine unstop ?_; refine WO_mod (by lia) ?_; refine unstop ?_)
    have hf := fmod_b (a := B * 39373 + 7) (b := 2147483647) (by decide)
    have hg := fmod_b (a := ((((B * 39373 + 7).fmod 2147483647) * ((B * 39373 + 7).fmod 2147483647)).fmod 2147483629).fdiv 32) h0
    first | exact h _ _ hg.1 hg.2 (ExB.set (.head _)) ⟨_, _, lk_set (lt_of_lk e), a0, hf.1, hf.2⟩ | exact unstop (h _ _ hg.1 hg.2 (ExB.set (.head _)) ⟨_, _, lk_set (lt_of_lk e), a0, hf.1, hf.2⟩)
theorem ct_one (std : c.Std GG) (room : Room c 2) {n k : Nat} {l : List PV} (hs : Src σ n) (e : σ[k]? = some (.list l)) (hkn : k ≠ n) (hl : l ≠ []) (hl2 : l.length ≤ 1000) (h : ∀ (i : Nat) pv σ', l[i]? = some pv → ExB [n] σ σ' → Src σ' n → K pv σ') : WC c (.ref 337) [.loc n, .loc k] σ m K X := by
  refine WCo.wc <| WCo_def (names := ["source", "things"]) std room (fun _ => rfl) (fun _ => rfl) (fun _ _ => rfl) rfl rfl (by decide) rfl rfl rfl ?_
  intro P ok rm
  have hl0 : 0 < l.length := List.length_pos_iff.mpr hl
  (refine WS_vb (unstop ?_); refine WC_lenL (by assumption) (by lia) ?_; refine unstop ?_)
  refine ct_take (Gl.at_std ..) (rm.mono (by decide)) hs (by lia) (by lia) fun r σ' r0 r1 ex hs' => ?_
  have hlt : r.toNat < l.length := by lia
  refine unstop ?_; refine WG_list (ex.get (by simpa using hkn) e) r0 (by lia) (List.getElem?_eq_getElem hlt) ?_
  first | exact h _ _ _ (List.getElem?_eq_getElem hlt) ex hs' | exact unstop (h _ _ _ (List.getElem?_eq_getElem hlt) ex hs')
end
end Nv
end
section
open PySem PySem.W PySem.Calls PyProof.Rows PyProof.V PySem.Spec
namespace Nv
section
variable {c : Cx} {σ : List AO} {m : Nm} {K : PV → List AO → Prop} {Kn : Nm → List AO → Prop} {Kr : PV → List AO → Prop} {X : List AO → Prop}
noncomputable def tw (n : Int) : List UInt8 := [toB (n.fdiv 256), toB (n.fmod 256)]
theorem ct_two (std : c.Std GG) (room : Room c 1) {n : Int} (h0 : 0 ≤ n) (h1 : n < 65536) (h : ∀ σ', Ex σ σ' → K (.bytes (tw n)) σ') : WC c (.ref 344) [.int n] σ m K X := by
  refine WCo.wc <| WCo_def (names := ["number"]) std room (fun _ => rfl) (fun _ => rfl) (fun _ => rfl) rfl rfl (by decide) rfl rfl rfl ?_
  intro P ok rm
  (refine WS_vb (unstop ?_); refine WO_fdiv (by decide) (by decide) ?_; refine unstop ?_; refine WO_mod (by decide) ?_; refine unstop ?_)
  have q1 : n.fdiv 256 = n / 256 := Int.fdiv_eq_ediv_of_nonneg n (by decide)
  have q2 := fmod_b (a := n) (b := 256) (by decide)
  refine WC_bytesL (ns := [n.fdiv 256, n.fmod 256]) (by exact lk_last) (fun x hx => ?_) (Nat.le_of_ble_eq_true rfl) ?_
  · simp only [List.mem_cons, List.mem_nil_iff, or_false] at hx
    rcases hx with rfl | rfl <;> (first | (clear q2; lia) | (assumption))
  · first | exact h _ (ExB.app _ _ _) | exact unstop (h _ (ExB.app _ _ _))
noncomputable def vloop : Nat → Int → List Int → Option (List Int)
  | 0, _, _ => none
  | f + 1, r, acc => if 0 < r then vloop f (r.fdiv 128) ((128 + r.fmod 128) :: acc) else some acc
noncomputable def lvar (n : Int) : Option (List Int) := if (2 : Int) ^ Int.toNat 56 ≤ n.fmod (2 ^ Int.toNat 64) then vloop 12 ((n.fmod (2 ^ Int.toNat 64)).fdiv 256) [(n.fmod (2 ^ Int.toNat 64)).fmod 256] else vloop 12 ((n.fmod (2 ^ Int.toNat 64)).fdiv 128) [(n.fmod (2 ^ Int.toNat 64)).fmod 128]
theorem ct_varint (std : c.Std GG) (room : Room c 1) {n : Int} {l : List Int} (hv : lvar n = some l) (hr : ∀ x ∈ l, 0 ≤ x ∧ x < 256) (hl : l.length ≤ 100) (h : ∀ σ', Ex σ σ' → K (.bytes (l.map toB)) σ') : WC c (.ref 351) [.int n] σ m K X := by
  refine WCo.wc <| WCo_def (names := ["number"]) std room (fun _ => rfl) (fun _ => rfl) (fun _ => rfl) rfl rfl (by decide) rfl rfl rfl ?_
  intro P ok rm
  (refine WS_vb (unstop ?_); refine WO_pow (by decide) (by decide) (by decide) ?_; refine unstop ?_; refine WO_mod (by decide) ?_; refine unstop ?_; refine WO_pow (by decide) (by decide) (by decide) ?_; refine unstop ?_)
  refine mdec (fun _ => ?_) (fun _ => ?_) <;> (first | (refine WE_vx (unstop ?_); refine WO_mod (by decide) ?_; refine unstop ?_; refine unstop ?_; refine WO_pow (by decide) (by decide) (by decide) ?_; refine unstop ?_; refine mdec (fun _ => ?_) (fun _ => ?_); rotate_left; (exfalso; omega); refine WE_vx (unstop ?_); refine WO_fdiv (by decide) (by decide) ?_; refine unstop ?_; refine unstop ?_) | (refine WE_vx (unstop ?_); refine WO_mod (by decide) ?_; refine unstop ?_; refine unstop ?_; refine WO_pow (by decide) (by decide) (by decide) ?_; refine unstop ?_; refine mdec (fun _ => ?_) (fun _ => ?_); (exfalso; omega); refine WE_vx (unstop ?_); refine WO_fdiv (by decide) (by decide) ?_; refine unstop ?_; refine unstop ?_))
  · rename_i hb
    rw [lvar, if_pos hb] at hv
    refine WS1_while (fun f m' σ' => ∃ r acc k, lkN m' "rest" = some (.int r) ∧ lkN m' "found" = some (.loc k) ∧ Ex σ σ' ∧ σ'[k]? = some (.list (acc.map .int)) ∧ vloop f r acc = some l ∧ acc.length + f ≤ 20) 12 ⟨_, [_], _, rfl, rfl, ExB.app _ _ _, lk_last, hv, Nat.le_of_ble_eq_true rfl⟩ ?_
    rintro f m' σ' ⟨r, acc, k, h1, h2, ex1, e1, hv', hlen⟩
    (repeat refine unstop ?_); refine ⟨_, Wk.cons h1 (Wk.cons h2 (Wk.nil m')), ?_⟩
    have hlen2 : (acc.map PV.int).length = acc.length := List.length_map _
    cases f with
    | zero => cases hv'
    | succ f =>
    unfold vloop at hv'
    by_cases hr0 : 0 < r
    · rw [if_pos hr0] at hv'
      (refine WB_vcmp rfl (unstop ?_); refine mdec (fun _ => ?_) (fun _ => ?_); rotate_left; (exfalso; clear hv'; lia); refine WS_vb (unstop ?_); refine WO_mod (by decide) ?_; refine unstop ?_; refine WO_addL (by exact lk_last) (by refine lk_app ?_; assumption) (by simp only [List.length_cons, List.length_nil, List.length_set, List.length_map, List.length_append, List.length_range, List.length_replicate]; lia) ?_; refine unstop ?_; refine WO_fdiv (by decide) (by decide) ?_; refine unstop ?_)
      (repeat refine unstop ?_); refine ⟨f, by exact Nat.le_refl _, _, (128 + r.fmod 128) :: acc, _, rfl, rfl, ex1.trans ((ExB.app _ _ _).trans (ExB.app _ _ _)), ?_, hv', by rw [List.length_cons]; lia⟩
      exact lk_last
    · rw [if_neg hr0] at hv'
      cases hv'
      (refine WB_vcmp rfl (unstop ?_); refine mdec (fun _ => ?_) (fun _ => ?_); (exfalso; lia); refine unstop ?_)
      refine WC_bytesL (ns := l) e1 hr (by lia) ?_
      first | exact h _ ex1 | exact unstop (h _ ex1)
  · rename_i hb
    rw [lvar, if_neg hb] at hv
    refine WS1_while (fun f m' σ' => ∃ r acc k, lkN m' "rest" = some (.int r) ∧ lkN m' "found" = some (.loc k) ∧ Ex σ σ' ∧ σ'[k]? = some (.list (acc.map .int)) ∧ vloop f r acc = some l ∧ acc.length + f ≤ 20) 12 ⟨_, [_], _, rfl, rfl, ExB.app _ _ _, lk_last, hv, Nat.le_of_ble_eq_true rfl⟩ ?_
    rintro f m' σ' ⟨r, acc, k, h1, h2, ex1, e1, hv', hlen⟩
    (repeat refine unstop ?_); refine ⟨_, Wk.cons h1 (Wk.cons h2 (Wk.nil m')), ?_⟩
    have hlen2 : (acc.map PV.int).length = acc.length := List.length_map _
    cases f with
    | zero => cases hv'
    | succ f =>
    unfold vloop at hv'
    by_cases hr0 : 0 < r
    · rw [if_pos hr0] at hv'
      (refine WB_vcmp rfl (unstop ?_); refine mdec (fun _ => ?_) (fun _ => ?_); rotate_left; (exfalso; lia); refine WS_vb (unstop ?_); refine WO_mod (by decide) ?_; refine unstop ?_; refine WO_addL (by exact lk_last) (by refine lk_app ?_; assumption) (by simp only [List.length_cons, List.length_nil, List.length_set, List.length_map, List.length_append, List.length_range, List.length_replicate]; lia) ?_; refine unstop ?_; refine WO_fdiv (by decide) (by decide) ?_; refine unstop ?_)
      (repeat refine unstop ?_); refine ⟨f, by exact Nat.le_refl _, _, (128 + r.fmod 128) :: acc, _, rfl, rfl, ex1.trans ((ExB.app _ _ _).trans (ExB.app _ _ _)), ?_, hv', by rw [List.length_cons]; lia⟩
      exact lk_last
    · rw [if_neg hr0] at hv'
      cases hv'
      (refine WB_vcmp rfl (unstop ?_); refine mdec (fun _ => ?_) (fun _ => ?_); (exfalso; lia); refine unstop ?_)
      refine WC_bytesL (ns := l) e1 hr (by lia) ?_
      first | exact h _ ex1 | exact unstop (h _ ex1)
noncomputable def putN (pl : List Int) (a : Nat) : List UInt8 → List Int
  | [] => pl
  | x :: r => putN (pl.set a (x.toNat : Int)) (a + 1) r
theorem putN_snoc : ∀ (b : List UInt8) (pl : List Int) (a : Nat) (x : UInt8), putN pl a (b ++ [x]) = (putN pl a b).set (a + b.length) (x.toNat : Int)
  | [], pl, a, x => rfl
  | y :: r, pl, a, x => by
    show putN (pl.set a _) (a + 1) (r ++ [x]) = _
    rw [putN_snoc r, List.length_cons, show a + 1 + r.length = a + (r.length + 1) by lia]
    rfl
theorem putN_len : ∀ (b : List UInt8) (pl : List Int) (a : Nat), (putN pl a b).length = pl.length
  | [], pl, a => rfl
  | y :: r, pl, a => by
    show (putN (pl.set a _) (a + 1) r).length = _
    rw [putN_len r, List.length_set]
theorem ct_put (std : c.Std GG) (room : Room c 1) {p : Nat} {pl : List Int} {a : Int} {b : List UInt8} (e : σ[p]? = some (.list (pl.map .int))) (h0 : 0 ≤ a) (h1 : a + b.length ≤ pl.length) (h2 : pl.length ≤ 1000)
    (h : ∀ σ', ExB [p] σ σ' → σ'[p]? = some (.list ((putN pl a.toNat b).map .int)) → K .none σ') : WC c (.ref 370) [.loc p, .int a, .bytes b] σ m K X := by
  refine WCo.wc <| WCo_def (names := ["page", "at", "octets"]) std room (fun _ => rfl) (fun _ => rfl) (fun _ _ _ => rfl) rfl rfl (by decide) rfl rfl rfl ?_
  intro P ok rm
  (refine WS_vb (unstop ?_); refine WS1_for ?_; refine WE_vcall rfl (unstop ?_); refine WC_lenB (by lia) ?_; refine unstop ?_; refine WC_range1 ?_; refine unstop ?_)
  refine WI_range (n := b.length) (Or.inl (by lia)) (by decide) (by omega) rfl (fun i m' σ' => lkN m' "page" = some (.loc p) ∧ lkN m' "at" = some (.int a) ∧ lkN m' "octets" = some (.bytes b) ∧ ExB [p] σ σ' ∧ σ'[p]? = some (.list ((putN pl a.toNat (b.take i)).map .int))) ⟨rfl, rfl, rfl, ExB.refl _ _, e⟩ ?_ ?_
  · rintro i m' σ' hi ⟨g1, g2, g3, ex1, e1⟩
    have hwk := Wk.cons g1 (Wk.cons g2 (Wk.cons g3 (Wk.nil m')))
    have hl : ((putN pl a.toNat (b.take i)).map PV.int).length = pl.length := by rw [List.length_map, putN_len]
    have hb : b.length ≤ 100000 := by lia
    (refine WTg.wk (by assumption) ?_; refine WTg_name ?_; refine WN_loc rfl rfl ?_; refine WS_vb (unstop ?_); refine WS1_asgI' ?_; refine WE_vsub rfl (unstop ?_))
    refine WG_bytes hb (by lia) (by lia) ?_
    (refine unstop ?_; refine WE_loc rfl rfl rfl ?_; refine WE_vx (unstop ?_); refine WSI_intro (by assumption) (by lia) (by lia) (by lia) ?_; (try rw [List.set_set]); refine unstop ?_)
    (repeat refine unstop ?_); refine ⟨rfl, rfl, rfl, ex1.trans (ExB.set (.head _)), ?_⟩
    rw [lk_set (lt_of_lk e1)]
    congr 2
    have ht : b.take (i + 1) = b.take i ++ [b.getD i 0] := by
      rw [List.take_add_one, List.getD_eq_getElem?_getD, List.getElem?_eq_getElem hi]; rfl
    rw [ht, putN_snoc, List.map_set, List.length_take, Nat.min_eq_left (by lia)]
    rw [show (a + (0 + (i : Int))).toNat = a.toNat + i by lia, show (0 + (i : Int)).toNat = i by lia]
  · rintro m' σ' ⟨g1, g2, g3, ex1, e1⟩
    rw [List.take_length] at e1
    refine unstop ?_
    first | exact h _ ex1 e1 | exact unstop (h _ ex1 e1)
end
end Nv
end
section
open PySem PySem.W PySem.Calls PyProof.Rows PyProof.V PySem.Spec
namespace Nv
section
variable {c : Cx} {σ : List AO} {m : Nm} {K : PV → List AO → Prop} {Kn : Nm → List AO → Prop} {Kr : PV → List AO → Prop} {X : List AO → Prop}
theorem ct_pool (std : c.Std GG) (room : Room c 1) {s : Nat} {ob : Obj} {ns : List Int} {k : Int} (e : σ[s]? = some (.fix ob)) (hfx : FixL ob ns) (hns : ns.length ≤ 1000) (hbits : ∀ x ∈ ns, Builtin.Int.intBits x ≤ 2 ^ 21) (h0 : 0 ≤ k) (h1 : k < 1000)
    (h : ∀ σ' n, Ex σ σ' → σ.length ≤ n → n < σ'.length → Src σ' n → K (.loc n) σ') : WC c (.ref 323) [.loc s, .int k] σ m K X := by
  have main : ∀ (x : Int), Builtin.Int.intBits x ≤ 2 ^ 21 → IntMulOk (max x (-1 - x)) (if decide ((10 : Int) ^ Int.toNat 18 ≤ max x (-1 - x)) then 1 else 0) ∧ 0 ≤ max x (-1 - x) * (if decide ((10 : Int) ^ Int.toNat 18 ≤ max x (-1 - x)) then 1 else 0) := fun x hx => by
    have hx2 : Builtin.Int.intBits (-1 - x) ≤ 2 ^ 21 + 1 := Nat.le_trans (PySem.intBits_sub_le (m := 1) (n := 2 ^ 21) (by decide) hx) (by decide)
    (repeat refine unstop ?_); refine ⟨mulOk_of_bits (m := 2 ^ 21 + 1) (n := 1) ?_ ?_ (by decide), ?_⟩
    · rcases Int.max_def x (-1 - x) with hm
      rw [hm]; split
      · exact hx2
      · exact Nat.le_trans hx (by decide)
    · split <;> decide
    · refine Int.mul_nonneg (by (clear hns hx hx2; omega)) (by split <;> decide)
  refine WCo.wc <| WCo_def (names := ["script", "k"]) std room (fun _ => rfl) (fun _ => rfl) (fun _ _ => rfl) rfl rfl (by decide) rfl rfl rfl ?_
  intro P ok rm
  have q0 : 0 ≤ 7919 * k * k := Int.mul_nonneg (by lia) h0
  have q1 : 7919 * k * k ≤ 7919000 * 1000 := Int.mul_le_mul (by lia) (by lia) h0 (by decide)
  refine WS_vb (unstop ?_)
  refine WC_lenX e hfx (by lia) ?_
  refine unstop ?_
  refine mdec (fun _ => ?_) (fun _ => ?_) <;> (first | (refine WS_vb (unstop ?_); refine WC_intI ?_; refine unstop ?_; refine WC_intI ?_; refine unstop ?_; refine WC_max2 ?_; refine unstop ?_; refine WC_intI ?_; refine unstop ?_; refine WO_mod (by decide) ?_; refine unstop ?_; refine WO_mul (mulOk64 (by decide) (by lia)) ?_; refine unstop ?_; refine WO_mul (mulOk64 (by lia) (by lia)) ?_; refine unstop ?_; refine WO_mul (mulOk64 (by decide) (by lia)) ?_; refine unstop ?_; refine WO_mul (mulOk64 (by lia) (by decide)) ?_; refine unstop ?_; refine WC_intI ?_; refine unstop ?_; refine WO_mod (by decide) ?_; refine unstop ?_; refine WO_pow (by decide) (by decide) (by decide) ?_; refine unstop ?_; refine WC_intB ?_; refine unstop ?_; refine WO_mul (mulOk64 (by decide) (by decide)) ?_; refine unstop ?_) | (refine WS_vb (unstop ?_)))
  · have hk : k.toNat < ns.length := by (clear h1; omega)
    refine WG_fixX e hfx h0 (by (clear hns; lia)) (pv := .int ns[k.toNat]) (by rw [List.getElem?_map, List.getElem?_eq_getElem hk]; rfl) ?_
    obtain ⟨m1, m2⟩ := main ns[k.toNat] (hbits _ (List.getElem_mem hk))
    generalize ns[k.toNat] = x at *
    (refine unstop ?_; refine WC_intI ?_; refine unstop ?_; refine WC_intI ?_; refine unstop ?_; refine WC_max2 ?_; refine unstop ?_; refine WC_intI ?_; refine unstop ?_; refine WO_mod (by decide) ?_; refine unstop ?_; refine WO_mul (mulOk64 (by decide) (by clear hns; lia)) ?_; refine unstop ?_; refine WO_mul (mulOk64 (by clear hns; lia) (by clear hns; lia)) ?_; refine unstop ?_; refine WO_mul (mulOk64 (by decide) (by clear hns; lia)) ?_; refine unstop ?_; refine WO_mul (mulOk64 (by clear hk m2 hns; lia) (by decide)) ?_; refine unstop ?_; refine WC_intI ?_; refine unstop ?_; refine WO_mod (by decide) ?_; refine unstop ?_; refine WO_pow (by decide) (by decide) (by decide) ?_; refine unstop ?_; refine WC_intB ?_; refine unstop ?_)
    refine WO_mul m1 ?_
    have hg := fmod_b (a := ((max x (-1 - x)).fmod 2147483629 + 7919 * k * k + 31 * k + 17) * 48271) (b := 2147483647) (by decide)
    refine unstop ?_
    first | exact h _ _ (ExB.app _ _ _) (Nat.le_refl _) lt_last ⟨_, _, lk_last, m2, hg.1, hg.2⟩ | exact unstop (h _ _ (ExB.app _ _ _) (Nat.le_refl _) lt_last ⟨_, _, lk_last, m2, hg.1, hg.2⟩)
  · obtain ⟨m1, m2⟩ := main 0 (by decide)
    have hg := fmod_b (a := ((max (0:Int) (-1 - 0)).fmod 2147483629 + 7919 * k * k + 31 * k + 17) * 48271) (b := 2147483647) (by decide)
    first | exact h _ _ (ExB.app _ _ _) (Nat.le_refl _) lt_last ⟨_, _, lk_last, by decide, hg.1, hg.2⟩ | exact unstop (h _ _ (ExB.app _ _ _) (Nat.le_refl _) lt_last ⟨_, _, lk_last, by decide, hg.1, hg.2⟩)
end
end Nv
end
section
open PySem PySem.W PySem.Calls PyProof.Rows PyProof.V PySem.Spec
namespace Nv
section
variable {c : Cx} {σ : List AO} {m : Nm} {K : PV → List AO → Prop} {Kn : Nm → List AO → Prop} {Kr : PV → List AO → Prop} {X : List AO → Prop}
theorem Src.lt {n} (h : Src σ n) : n < σ.length := let ⟨_, _, e, _⟩ := h; lt_of_lk e
theorem Src.ex {σ σ' n} {S : List Nat} (h : Src σ n) (e : ExB S σ σ') (hn : n ∉ S) : Src σ' n := let ⟨A, B, e1, r⟩ := h; ⟨A, B, e.get hn e1, r⟩
noncomputable def rowids : List Int := [0, 1, 127, 128, -1, 70000, 9223372036854775807, -9223372036854775808]
noncomputable def u4 (n : Int) : List UInt8 := (List.range 4).map fun (i : Nat) => toB ((n.fdiv (256 ^ (3 - (i : Int)).toNat)).fmod 256)
theorem lvar_ok (r : Int) (hr : r ∈ rowids) : ∃ vl, lvar r = some vl ∧ (∀ x ∈ vl, 0 ≤ x ∧ x < 256) ∧ vl.length ≤ 9 := by
  have key : ∀ r ∈ rowids, (lvar r).isSome = true ∧ ((lvar r).getD []).all (fun x => decide (0 ≤ x ∧ x < 256)) = true ∧ ((lvar r).getD []).length ≤ 9 := by decide +kernel
  obtain ⟨k1, k2, k3⟩ := key r hr
  cases e : lvar r with
  | none => rw [e] at k1; cases k1
  | some vl =>
    rw [e] at k2 k3
    (repeat refine unstop ?_); exact ⟨vl, rfl, fun x hx => by simpa using List.all_eq_true.mp k2 x hx, k3⟩
structure CellSpec (kind : Int) (oc : List UInt8) (child : Int) (rowid : PV) (size : Int) (loc : List UInt8) : Prop where
  c0 : 0 ≤ child
  c1 : child < 4294967296
  l5 : loc.length ≤ 5
  sh : (kind = 5 ∧ ∃ r vl, r ∈ rowids ∧ lvar r = some vl ∧ oc = u4 child ++ vl.map toB ∧ rowid = .int r ∧ size = 0 ∧ loc = []) ∨
    (kind = 2 ∧ oc = u4 child ++ [toB loc.length] ++ loc ∧ rowid = .none ∧ size = loc.length) ∨
    (kind = 13 ∧ ∃ r vl, r ∈ rowids ∧ lvar r = some vl ∧ oc = [toB loc.length] ++ vl.map toB ++ loc ∧ child = 0 ∧ rowid = .int r ∧ size = loc.length) ∨
    (kind = 10 ∧ oc = [toB loc.length] ++ loc ∧ child = 0 ∧ rowid = .none ∧ size = loc.length)
theorem ct_cellmake (std : c.Std GG) (room : Room c 4) {n : Nat} {kind : Int} (hk : kind = 2 ∨ kind = 5 ∨ kind = 10 ∨ kind = 13) (hs : Src σ n)
    (h : ∀ σ' oc child rowid size loc, CellSpec kind oc child rowid size loc → ExB [n] σ σ' → Src σ' n → K (.tup [.bytes oc, .int child, rowid, .int size, .bytes loc]) σ') : WC c (.ref 356) [.loc n, .int kind] σ m K X := by
  refine WCo.wc <| WCo_defc' ["source", "kind"] ["child", "source"] std room (fun _ => rfl) (fun _ => rfl) (fun _ _ => rfl) rfl (by decide) (fun _ => rfl) (by decide) rfl rfl rfl ?_
  intro P σ0 ex0 hcells hl0 rm
  have hc0 : σ0[σ.length]? = some (.cell none) := hcells 0 _ rfl
  have hc1 : σ0[σ.length + 1]? = some (.cell (some (.loc n))) := hcells 1 _ rfl
  have hlt := hs.lt
  clear hcells
  have hs0 : Src σ0 n := hs.ex ex0 (by simp)
  (refine WS_vb (unstop ?_); refine WS1_asgT ?_; refine WE_vx (unstop ?_); refine WE_cell rfl rfl (by assumption) ?_; refine unstop ?_)
  refine ct_take (Gl.at_std ..) (rm.mono (by decide)) hs0 (by decide) (by decide) fun child0 σ1 c0 c1 ex1 hs1 => ?_
  (refine unstop ?_; refine WE_cell rfl rfl (by refine ExB.get (by assumption) (by simp only [List.mem_cons, List.not_mem_nil, or_false, not_or, not_false_eq_true]; lia) ?_; assumption) ?_; refine unstop ?_)
  refine ct_take (Gl.at_std ..) (rm.mono (by decide)) hs1 (by decide) (by decide) fun many σ2 m0 m1 ex2 hs2 => ?_
  (refine unstop ?_; refine ⟨_, rfl, rfl, ?_⟩; refine WA_cons ?_; refine WN_cell (p0 := ?pv1) rfl rfl ?hv1 ?_; (case hv1 => refine ExB.get (by assumption) (by simp only [List.mem_cons, List.not_mem_nil, or_false, not_or, not_false_eq_true]; lia) ?_; refine ExB.get (by assumption) (by simp only [List.mem_cons, List.not_mem_nil, or_false, not_or, not_false_eq_true]; lia) ?_; assumption); refine WA_cons ?_; refine WN_loc rfl rfl ?_; refine WA_nil ?_; refine unstop ?_; refine WE_cell rfl rfl (by exact lk_set (by refine lt_ex (by assumption) ?_; refine lt_ex (by assumption) ?_; exact lt_of_lk (by assumption))) ?_; refine unstop ?_; refine WO_mod (by decide) ?_; refine unstop ?_)
  have hsd : Src (σ2.set σ.length (.cell (some (.int child0)))) n := hs2.ex (ExB.set (S := [σ.length]) (.head _)) (by simp; lia)
  have hcd : (σ2.set σ.length (AO.cell (some (.int child0))))[σ.length]? = some (.cell (some (.int child0))) := lk_set (by (refine lt_ex (by assumption) ?_; refine lt_ex (by assumption) ?_; exact lt_of_lk (by assumption)))
  have hce : (σ2.set σ.length (AO.cell (some (.int child0))))[σ.length + 1]? = some (.cell (some (.loc n))) := by (refine lk_set_ne (by lia) ?_; refine ExB.get (by assumption) (by simp only [List.mem_cons, List.not_mem_nil, or_false, not_or, not_false_eq_true]; lia) ?_; refine ExB.get (by assumption) (by simp only [List.mem_cons, List.not_mem_nil, or_false, not_or, not_false_eq_true]; lia) ?_; assumption)
  have exd : ExB [n] σ (σ2.set σ.length (.cell (some (.int child0)))) := ((ex0.to.trans ex1).trans ex2).setNew (Nat.le_refl _)
  generalize σ2.set σ.length (AO.cell (some (.int child0))) = σ3 at *
  clear ex1 ex2 hs1 hs2 hs0 hc0 hc1 ex0 hl0
  refine WE_selj (fun pv => ∃ ch : Int, pv = .int ch ∧ 0 ≤ ch ∧ ch < 4294967296) (fun hb => ?_) (fun hb => ?_) ?_
  · (refine WE_vx (unstop ?_); refine WE_cell rfl rfl (by assumption) ?_; refine unstop ?_; refine WO_mul (mulOk64 (by clear hb; lia) (by decide)) ?_; refine unstop ?_)
    (repeat refine unstop ?_); exact ⟨rfl, _, rfl, by (clear hb; lia), by (clear hb; lia)⟩
  · refine WE_cell rfl rfl (by assumption) ?_
    (repeat refine unstop ?_); exact ⟨rfl, _, rfl, by assumption, by (clear hb; lia)⟩
  rintro _ ⟨child, rfl, d0, d1⟩
  (refine unstop ?_; refine WN_cell (p0 := ?pv2) rfl rfl ?hv2 ?_; (case hv2 => assumption); refine unstop ?_; refine WE_call ?_; refine WE_nm rfl (unstop ?_); refine ⟨_, rfl, rfl, ?_⟩; refine WL_cons ?_)
  have hsd' := hsd.ex (ExB.set (S := [σ.length]) (k := σ.length) (ao := .cell (some (.int child))) (.head _)) (by simp; lia)
  have hcd' : (σ3.set σ.length (AO.cell (some (.int child))))[σ.length]? = some (.cell (some (.int child))) := lk_set (by exact lt_of_lk (by assumption))
  have hce' : (σ3.set σ.length (AO.cell (some (.int child))))[σ.length + 1]? = some (.cell (some (.loc n))) := by (refine lk_set_ne (by lia) ?_; assumption)
  have exd' : ExB [n] σ (σ3.set σ.length (.cell (some (.int child)))) := exd.setNew (Nat.le_refl _)
  generalize σ3.set σ.length (AO.cell (some (.int child))) = σ3 at *
  clear hsd hcd hce exd
  refine WE_comp rfl rfl (CEs.cons rfl rfl .nil) ?_
  (refine WE_vcall rfl (unstop ?_); refine WC_range1 ?_; refine unstop ?_)
  refine WQ_range (n := many.toNat) (by lia) (by lia) rfl (fun i ys σ' => ∃ ns : List Int, ys = ns.map PV.int ∧ (∀ x, x ∈ ns → 0 ≤ x ∧ x < 256) ∧ ns.length = i ∧ ExB [n] σ3 σ' ∧ Src σ' n) ⟨[], rfl, (fun x hx => by cases hx), rfl, ExB.refl _ _, hsd'⟩ ?_ ?_
  · rintro i ys σ' C hi ⟨ns, rfl, g1, g2, g3, g4⟩
    show WE _ _ _ _ _ _
    have := g4.lt
    (refine WE_vcall rfl (unstop ?_); refine WE_cell rfl rfl (by refine ExB.get (by assumption) (by simp only [List.mem_cons, List.not_mem_nil, or_false, not_or, not_false_eq_true]; lia) ?_; assumption) ?_; refine unstop ?_)
    refine ct_one (comp_std (Gl.at_std ..)) (comp_room (rm.mono (by decide))) (l := [.int 0, .int 7, .int 255]) (g4.ex (ExB.app [] _ _) (by simp)) lk_last (by lia) (by simp) (by simp) fun j pv σ4 hj ex4 hs4 => ?_
    obtain ⟨x, rfl, hx⟩ : ∃ x : Int, pv = .int x ∧ 0 ≤ x ∧ x < 256 := by
      match j, hj with
      | 0, hj => cases hj; exact ⟨_, rfl, by decide, by decide⟩
      | 1, hj => cases hj; exact ⟨_, rfl, by decide, by decide⟩
      | 2, hj => cases hj; exact ⟨_, rfl, by decide, by decide⟩
    refine unstop ?_
    (repeat refine unstop ?_); exact ⟨ns ++ [x], by rw [List.map_append]; rfl, fun y hy => by
      rcases List.mem_append.mp hy with hy | hy
      · exact g1 y hy
      · rw [List.mem_singleton.mp hy]; exact hx, by rw [List.length_append, g2]; rfl, (g3.trans (ExB.app _ _ _)).trans ex4, hs4⟩
  rintro ys σ' ⟨ns, rfl, g1, g2, g3, g4⟩
  refine WL_nil ?_
  refine WC_bytesL (ns := ns) lk_last g1 (by lia) ?_
  have l5 : (ns.map toB).length ≤ 5 := by rw [List.length_map]; lia
  have ex4 := g3.trans (ExB.app [n] σ' [.list (ns.map PV.int)])
  have hs4 := g4.ex (ExB.app [] σ' [.list (ns.map PV.int)]) (by simp)
  generalize σ' ++ [.list (ns.map PV.int)] = σ4 at *
  generalize ns.map toB = loc at *
  have := hs4.lt
  (refine unstop ?_; refine WE_cell rfl rfl (by refine ExB.get (by assumption) (by simp only [List.mem_cons, List.not_mem_nil, or_false, not_or, not_false_eq_true]; lia) ?_; assumption) ?_; refine unstop ?_; refine WO_pow (by decide) (by decide) (by decide) ?_; refine unstop ?_; refine WO_pow (by decide) (by decide) (by decide) ?_; refine unstop ?_)
  refine ct_one (Gl.at_std ..) (rm.mono (by decide)) (hs4.ex (ExB.app [] _ _) (by simp)) lk_last (by lia) (by simp) (Nat.le_of_ble_eq_true rfl) fun j pv σ5 hj ex5 hs5 => ?_
  obtain ⟨r, rfl, hr⟩ : ∃ x : Int, pv = .int x ∧ x ∈ rowids := by
    match j, hj with
    | 0, hj => cases hj; exact ⟨_, rfl, by decide⟩
    | 1, hj => cases hj; exact ⟨_, rfl, by decide⟩
    | 2, hj => cases hj; exact ⟨_, rfl, by decide⟩
    | 3, hj => cases hj; exact ⟨_, rfl, by decide⟩
    | 4, hj => cases hj; exact ⟨_, rfl, by decide⟩
    | 5, hj => cases hj; exact ⟨_, rfl, by decide⟩
    | 6, hj => cases hj; exact ⟨_, rfl, by decide⟩
    | 7, hj => cases hj; exact ⟨_, rfl, by decide⟩
  (refine unstop ?_; refine WE_call ?_; refine WE_nm rfl (unstop ?_); refine ⟨_, rfl, rfl, ?_⟩; refine WL_cons ?_)
  refine WE_comp rfl rfl (CEs.cons rfl rfl .nil) ?_
  (refine WE_vcall rfl (unstop ?_); refine WC_range1 ?_; refine unstop ?_)
  refine WQ_rangeF (n := 4) (fun i : Nat => PV.int ((child.fdiv (256 ^ (3 - (i : Int)).toNat)).fmod 256)) rfl (by decide) rfl (fun i σ' C hi e1 => ?_) fun σ' e1 => ?_
  · have hp : ((256 : Int) ^ (3 - (i : Int)).toNat) ≠ 0 ∧ ((256 : Int) ^ (3 - (i : Int)).toNat).natAbs < 2 ^ 64 := by
      match i, hi with
      | 0, _ => exact ⟨by decide, by decide⟩
      | 1, _ => exact ⟨by decide, by decide⟩
      | 2, _ => exact ⟨by decide, by decide⟩
      | 3, _ => exact ⟨by decide, by decide⟩
    (refine WE_vx (unstop ?_); refine WE_cell rfl rfl (by refine Ex.get (by assumption) ?_; refine ExB.get (by assumption) (by simp only [List.mem_cons, List.not_mem_nil, or_false, not_or, not_false_eq_true]; lia) ?_; refine lk_app ?_; refine ExB.get (by assumption) (by simp only [List.mem_cons, List.not_mem_nil, or_false, not_or, not_false_eq_true]; lia) ?_; assumption) ?_; refine unstop ?_; refine WO_pow (by lia) (by lia) (by decide) ?_; refine unstop ?_; refine WO_fdiv (by lia) (by clear hlt m0 m1 d0 d1 g2 l5 this; omega) ?_; refine unstop ?_; refine WO_mod (by decide) ?_; refine unstop ?_)
    (repeat refine unstop ?_); exact ⟨rfl, e1⟩
  refine WL_nil ?_
  refine WC_bytesL (ns := (List.range 4).map fun i : Nat => (child.fdiv (256 ^ (3 - (i : Int)).toNat)).fmod 256) (by rw [List.map_map]; exact lk_last) (fun x hx => ?_) (by simp) ?_
  · obtain ⟨i, _, rfl⟩ := List.mem_map.mp hx
    exact fmod_b (by decide)
  rw [List.map_map, show (List.range 4).map (toB ∘ fun i : Nat => (child.fdiv (256 ^ (3 - (i : Int)).toNat)).fmod 256) = u4 child from rfl]
  have ex6 : Ex σ5 (σ' ++ [.list ((List.range 4).map fun i : Nat => PV.int ((child.fdiv (256 ^ (3 - (i : Int)).toNat)).fmod 256))]) := e1.trans (ExB.app [] σ' [.list ((List.range 4).map fun i : Nat => PV.int ((child.fdiv (256 ^ (3 - (i : Int)).toNat)).fmod 256))])
  generalize σ' ++ [.list ((List.range 4).map fun i : Nat => PV.int ((child.fdiv (256 ^ (3 - (i : Int)).toNat)).fmod 256))] = σ6 at *
  have hs6 := hs5.ex ex6 (by simp)
  have exf : ExB [n] σ σ6 := ((exd'.trans ex4).trans ((ExB.app _ _ _).trans ex5)).trans ex6.to
  have hc6 : σ6[σ.length]? = some (.cell (some (.int child))) := by (refine Ex.get (by assumption) ?_; refine ExB.get (by assumption) (by simp only [List.mem_cons, List.not_mem_nil, or_false, not_or, not_false_eq_true]; lia) ?_; refine lk_app ?_; refine ExB.get (by assumption) (by simp only [List.mem_cons, List.not_mem_nil, or_false, not_or, not_false_eq_true]; lia) ?_; assumption)
  have hu4 : (u4 child).length = 4 := by unfold u4; rw [List.length_map]; rfl
  clear hcd' hce' exd' hsd' ex4 ex5 ex6 hs4 hs5
  rcases hk with rfl | rfl | rfl | rfl
  · (refine unstop ?_; refine mff rfl ?_; refine WS_vb (unstop ?_); refine mtt rfl ?_; refine WS_vb (unstop ?_); refine WC_lenB (by lia) ?_; refine unstop ?_)
    refine WC_bytesL (ns := [(loc.length : Int)]) lk_last (fun x hx => by rw [List.mem_singleton.mp hx]; lia) (Nat.le_of_ble_eq_true rfl) ?_
    have q1 : (([(loc.length : Int)]).map toB).length = 1 := rfl
    (refine unstop ?_; refine WO_addB (by lia) ?_; refine unstop ?_; refine WO_addB (by simp only [List.length_cons, List.length_nil, List.length_set, List.length_map, List.length_append, List.length_range, List.length_replicate]; lia) ?_; refine unstop ?_; refine WE_cell rfl rfl (by refine lk_app ?_; assumption) ?_; refine unstop ?_; refine WC_lenB (by lia) ?_; refine unstop ?_)
    first | exact h _ _ _ _ _ _ ⟨d0, d1, l5, .inr (.inl ⟨rfl, rfl, rfl, rfl⟩)⟩ (exf.trans (ExB.app _ _ _)) (hs6.ex (ExB.app [] _ _) (by simp)) | exact unstop (h _ _ _ _ _ _ ⟨d0, d1, l5, .inr (.inl ⟨rfl, rfl, rfl, rfl⟩)⟩ (exf.trans (ExB.app _ _ _)) (hs6.ex (ExB.app [] _ _) (by simp)))
  · obtain ⟨vl, v1, v2, v3⟩ := lvar_ok r hr
    have q1 : (vl.map toB).length ≤ 9 := by rw [List.length_map]; exact v3
    (refine unstop ?_; refine mtt rfl ?_; refine WS_vb (unstop ?_))
    refine ct_varint (Gl.at_std ..) (rm.mono (by decide)) v1 v2 (by lia) fun σ7 ex7 => ?_
    (refine unstop ?_; refine WO_addB (by lia) ?_; refine unstop ?_; refine WE_cell rfl rfl (by refine Ex.get (by assumption) ?_; assumption) ?_; refine unstop ?_)
    first | exact h _ _ _ _ _ _ ⟨d0, d1, by decide, .inl ⟨rfl, r, vl, hr, v1, rfl, rfl, rfl, rfl⟩⟩ (exf.trans ex7.to) (hs6.ex ex7 (by simp)) | exact unstop (h _ _ _ _ _ _ ⟨d0, d1, by decide, .inl ⟨rfl, r, vl, hr, v1, rfl, rfl, rfl, rfl⟩⟩ (exf.trans ex7.to) (hs6.ex ex7 (by simp)))
  · (refine unstop ?_; refine mff rfl ?_; refine WS_vb (unstop ?_); refine mff rfl ?_; refine WS_vb (unstop ?_); refine mff rfl ?_; refine WS_vb (unstop ?_); refine WC_lenB (by lia) ?_; refine unstop ?_)
    refine WC_bytesL (ns := [(loc.length : Int)]) lk_last (fun x hx => by rw [List.mem_singleton.mp hx]; lia) (Nat.le_of_ble_eq_true rfl) ?_
    have q1 : (([(loc.length : Int)]).map toB).length = 1 := rfl
    (refine unstop ?_; refine WO_addB (by lia) ?_; refine unstop ?_; refine WC_lenB (by lia) ?_; refine unstop ?_)
    first | exact h _ _ _ _ _ _ ⟨by decide, by decide, l5, .inr (.inr (.inr ⟨rfl, rfl, rfl, rfl, rfl⟩))⟩ (exf.trans (ExB.app _ _ _)) (hs6.ex (ExB.app [] _ _) (by simp)) | exact unstop (h _ _ _ _ _ _ ⟨by decide, by decide, l5, .inr (.inr (.inr ⟨rfl, rfl, rfl, rfl, rfl⟩))⟩ (exf.trans (ExB.app _ _ _)) (hs6.ex (ExB.app [] _ _) (by simp)))
  · obtain ⟨vl, v1, v2, v3⟩ := lvar_ok r hr
    have q1 : (vl.map toB).length ≤ 9 := by rw [List.length_map]; exact v3
    (refine unstop ?_; refine mff rfl ?_; refine WS_vb (unstop ?_); refine mff rfl ?_; refine WS_vb (unstop ?_); refine mtt rfl ?_; refine WS_vb (unstop ?_); refine WC_lenB (by lia) ?_; refine unstop ?_)
    refine WC_bytesL (ns := [(loc.length : Int)]) lk_last (fun x hx => by rw [List.mem_singleton.mp hx]; lia) (Nat.le_of_ble_eq_true rfl) ?_
    have q2 : (([(loc.length : Int)]).map toB).length = 1 := rfl
    refine unstop ?_
    refine ct_varint (Gl.at_std ..) (rm.mono (by decide)) v1 v2 (by lia) fun σ7 ex7 => ?_
    (refine unstop ?_; refine WO_addB (by lia) ?_; refine unstop ?_; refine WO_addB (by simp only [List.length_cons, List.length_nil, List.length_set, List.length_map, List.length_append, List.length_range, List.length_replicate]; lia) ?_; refine unstop ?_; refine WC_lenB (by lia) ?_; refine unstop ?_)
    first | exact h _ _ _ _ _ _ ⟨by decide, by decide, l5, .inr (.inr (.inl ⟨rfl, r, vl, hr, v1, rfl, rfl, rfl, rfl⟩))⟩ ((exf.trans (ExB.app _ _ _)).trans ex7.to) ((hs6.ex (ExB.app [] _ _) (by simp)).ex ex7 (by simp)) | exact unstop (h _ _ _ _ _ _ ⟨by decide, by decide, l5, .inr (.inr (.inl ⟨rfl, r, vl, hr, v1, rfl, rfl, rfl, rfl⟩))⟩ ((exf.trans (ExB.app _ _ _)).trans ex7.to) ((hs6.ex (ExB.app [] _ _) (by simp)).ex ex7 (by simp)))
end
end Nv
end
section
open PySem PySem.W PySem.Calls PyProof.Rows PyProof.V PySem.Spec
namespace Nv
structure CD where
  oc : List UInt8
  child : Int
  rowid : PV
  size : Int
  loc : List UInt8
noncomputable def CD.pv (c : CD) : PV := .tup [.bytes c.oc, .int c.child, c.rowid, .int c.size, .bytes c.loc]
noncomputable def CDok (kind : Int) (c : CD) : Prop := CellSpec kind c.oc c.child c.rowid c.size c.loc
theorem CDok.len {kind c} (h : CDok kind c) : c.oc.length ≤ 15 := by
  obtain ⟨c0, c1, l5, sh⟩ := h
  have hu4 : ∀ n, (u4 n).length = 4 := fun n => by unfold u4; rw [List.length_map]; rfl
  rcases sh with ⟨_, r, vl, h1, h2, h3, _⟩ | ⟨_, h3, _⟩ | ⟨_, r, vl, h1, h2, h3, _⟩ | ⟨_, h3, _⟩ <;> rw [h3]
  · obtain ⟨vl', e1, _, e3⟩ := lvar_ok r h1
    rw [h2] at e1; cases e1
    rw [List.length_append, hu4, List.length_map]; lia
  · rw [List.length_append, List.length_append, hu4]; simp; lia
  · obtain ⟨vl', e1, _, e3⟩ := lvar_ok r h1
    rw [h2] at e1; cases e1
    rw [List.length_append, List.length_append, List.length_map]; simp; lia
  · rw [List.length_append]; simp; lia
noncomputable def spotPV : Option Nat → PV
  | none => .none
  | some i => .int i
noncomputable def partPV (p : Option Nat × Nat) : PV := .tup [spotPV p.1, .int p.2]
noncomputable def psum (ps : List (Option Nat × Nat)) : Nat := (ps.map (·.2)).sum
structure PartsOk (cs : List CD) (ps : List (Option Nat × Nat)) : Prop where
  perm : (ps.filterMap (·.1)).Perm (List.range cs.length)
  size : ∀ p ∈ ps, (∀ i, p.1 = some i → ∃ c, cs[i]? = some c ∧ p.2 = max 4 c.oc.length) ∧ (p.1 = none → p.2 ≤ 7)
  sum : psum ps ≤ 22 * cs.length + 5
  num : ps.length ≤ 2 * cs.length + 1
theorem pick_int {l : List PV} {zs : List Int} {j : Nat} {pv : PV} (hl : l = zs.map .int) (h : l[j]? = some pv) : ∃ z ∈ zs, pv = .int z := by
  subst hl
  rw [List.getElem?_map] at h
  obtain ⟨z, h1, h2⟩ := Option.map_eq_some_iff.mp h
  (repeat refine unstop ?_); exact ⟨z, List.mem_of_getElem? h1, h2.symm⟩
theorem clipAt_in {n : Nat} {i : Int} (h0 : 0 ≤ i) (h1 : i ≤ n) : clipAt n i = i.toNat := by
  have := clipAt_cast n i
  rw [if_neg (by lia)] at this
  lia
theorem cut_to {α : Type} {l : List α} {i : Int} (h0 : 0 ≤ i) (h1 : i ≤ l.length) : Nv.cut l .none (.int i) = l.take i.toNat := by
  unfold Nv.cut clipO
  simp only
  rw [clipAt_in h0 h1, List.drop_zero, Nat.sub_zero]
theorem cut_from {α : Type} {l : List α} {i : Int} (h0 : 0 ≤ i) (h1 : i ≤ l.length) : Nv.cut l (.int i) .none = l.drop i.toNat := by
  unfold Nv.cut clipO
  simp only
  rw [clipAt_in h0 h1]
  exact List.take_of_length_le (by rw [List.length_drop]; exact Nat.le_refl _)
section
variable {c : Cx} {σ : List AO} {m : Nm} {K : PV → List AO → Prop} {Kn : Nm → List AO → Prop} {Kr : PV → List AO → Prop} {X : List AO → Prop}
noncomputable abbrev ipv (i : Nat) : PV := PV.int (i : Int)
inductive PInv1 (σ : List AO) (n kc : Nat) (cs : List CD) (k : Nat) (m' : Nm) (σ' : List AO) : Prop
  | mk (ls : List Nat) (ps : List (Option Nat × Nat)) (kl kp : Nat) (g1 : lkN m' "source" = some (.loc n)) (g2 : lkN m' "cells" = some (.loc kc)) (g3 : lkN m' "left" = some (.loc kl)) (g4 : lkN m' "parts" = some (.loc kp))
    (hs : Src σ' n) (ex : ExB [n] σ σ') (hkl : σ.length ≤ kl) (hkp : σ.length ≤ kp) (hne : kl ≠ kp) (el : σ'[kl]? = some (.list (ls.map ipv))) (ep : σ'[kp]? = some (.list (ps.map partPV))) (hk : k = ls.length) (hperm : (ps.filterMap (·.1) ++ ls).Perm (List.range cs.length))
    (hsz : ∀ p ∈ ps, (∀ i, p.1 = some i → ∃ c, cs[i]? = some c ∧ p.2 = max 4 c.oc.length) ∧ (p.1 = none → p.2 ≤ 7)) (hsum : psum ps + 22 * ls.length ≤ 22 * cs.length) (hnum : ps.length + 2 * ls.length ≤ 2 * cs.length) : PInv1 σ n kc cs k m' σ'
theorem ct_parts (std : c.Std GG) (room : Room c 3) {n kc : Nat} {cs : List CD} (hs : Src σ n) (ec : σ[kc]? = some (.list (cs.map CD.pv))) (hkn : kc ≠ n) (hcs : cs.length ≤ 3) (hlen : ∀ c ∈ cs, c.oc.length ≤ 15)
    (h : ∀ σ' k ps, PartsOk cs ps → ExB [n] σ σ' → Src σ' n → σ.length ≤ k → σ'[k]? = some (.list (ps.map partPV)) → K (.loc k) σ') : WC c (.ref 363) [.loc n, .loc kc] σ m K X := by
  refine WCo.wc <| WCo_def (names := ["source", "cells"]) std room (fun _ => rfl) (fun _ => rfl) (fun _ _ => rfl) rfl rfl (by decide) rfl rfl rfl ?_
  intro P ok rm
  have hl0 : (cs.map CD.pv).length = cs.length := List.length_map _
  have hlt := hs.lt
  have hltc := lt_of_lk ec
  (refine WS_vb (unstop ?_); refine WS1_asgS ?_; refine WE_vx (unstop ?_); refine WC_lenL (by assumption) (by lia) ?_; refine unstop ?_; refine WC_range1 ?_; refine unstop ?_)
  refine WC_listR (by (clear hcs; lia)) (by lia) ?_
  (refine unstop ?_; refine ⟨_, rfl, rfl, ?_⟩; refine WAn_cons ?_; refine WN_loc rfl rfl ?_; refine WAn_cons ?_; refine WN_loc rfl rfl ?_; refine WAn_nil ?_; refine unstop ?_)
  refine WS1_while (PInv1 σ n kc cs) cs.length ?_ ?_
  · have hrg : (List.range ((cs.map CD.pv).length : Int).toNat).map (fun i : Nat => PV.int (i : Int)) = (List.range cs.length).map ipv := by rw [Int.toNat_natCast, hl0]
    rw [hrg]
    (repeat refine unstop ?_); refine ⟨List.range cs.length, [], σ.length, _, rfl, rfl, rfl, rfl, (hs.ex (ExB.app [] _ _) (by simp)).ex (ExB.app [] _ _) (by simp), (ExB.app _ _ _).trans (ExB.app _ _ _), Nat.le_refl _, by rw [List.length_append]; lia, by rw [List.length_append]; simp, by (refine lk_app ?_; exact lk_last), lk_last, by rw [List.length_range], by simp, by simp, by simp [psum], by simp⟩
  · rintro k m' σ' ⟨ls, ps, kl, kp, g1, g2, g3, g4, hs', ex, hkl, hkp, hne, el, ep, rfl, hperm, hsz, hsum, hnum⟩
    (repeat refine unstop ?_); refine ⟨_, Wk.cons g1 (Wk.cons g2 (Wk.cons g3 (Wk.cons g4 (Wk.nil m')))), ?_⟩
    have hru := rm.u
    have hlt' := hs'.lt
    have hll : (ls.map ipv).length = ls.length := List.length_map _
    have hlp : (ps.map partPV).length = ps.length := List.length_map _
    refine WB_vcmp rfl (unstop ?_)
    cases ls with
    | nil =>
      refine WO_neL (n := 0) (l := []) (k := []) (by (refine lk_app ?_; assumption)) lk_last (.nil _) (by lia) ?_
      (refine unstop ?_; refine unstop ?_)
      have hs2 := hs'.ex (ExB.app [] σ' [AO.list []]) (by simp)
      have hs3 := hs2.ex (ExB.app [] _ [AO.list [.int 0, .int 1, .int 5]]) (by simp)
      refine ct_one (Gl.at_std ..) (rm.mono (by decide)) hs3 lk_last (by rw [List.length_append]; lia) (by simp) (Nat.le_of_ble_eq_true rfl) fun j pv σ5 hj ex5 hs5 => ?_
      obtain ⟨z, hz, rfl⟩ := pick_int (zs := [0, 1, 5]) rfl hj
      have hz2 : 0 ≤ z ∧ z ≤ 5 := by simp at hz; lia
      (refine unstop ?_; refine WO_addL (by refine lk_app ?_; refine ExB.get (by assumption) (by simp only [List.mem_cons, List.not_mem_nil, or_false, not_or, not_false_eq_true]; lia) ?_; refine lk_app ?_; refine lk_app ?_; assumption) (by exact lk_last) (by simp only [List.length_cons, List.length_nil, List.length_set, List.length_map, List.length_append, List.length_range, List.length_replicate]; lia) ?_; refine unstop ?_)
      have ep5 : σ5[kp]? = some (.list (ps.map partPV)) := ex5.get (by simp; lia) (lk_app (lk_app ep))
      have hcat : ps.map partPV ++ [PV.tup [.none, .int z]] = (ps ++ [(none, z.toNat)]).map partPV := by
        rw [List.map_append]
        have : partPV (none, z.toNat) = PV.tup [.none, .int z] := by show PV.tup [.none, .int (z.toNat : Int)] = _; rw [Int.toNat_of_nonneg hz2.1]
        rw [← this]; rfl
      rw [hcat]
      refine h _ _ (ps ++ [(none, z.toNat)]) ⟨?_, ?_, ?_, ?_⟩ ((ex.trans ((ExB.app _ _ _).trans (ExB.app _ _ _))).trans (ex5.trans ((ExB.app _ _ _).trans (ExB.app _ _ _)))) ((hs5.ex (ExB.app [] _ _) (by simp)).ex (ExB.app [] _ _) (by simp)) ?_ lk_last
      · rw [List.filterMap_append]
        simpa using hperm
      · intro p hp
        rcases List.mem_append.mp hp with hp | hp
        · exact hsz p hp
        · rw [List.mem_singleton.mp hp]
          (repeat refine unstop ?_); exact ⟨(fun i hi => by cases hi), fun _ => by show z.toNat ≤ 7; lia⟩
      · have : psum (ps ++ [(none, z.toNat)]) = psum ps + z.toNat := by unfold psum; rw [List.map_append, List.sum_append]; simp
        simp only [List.length_nil] at hsum
        lia
      · rw [List.length_append]; simp only [List.length_nil, List.length_cons] at hnum ⊢; lia
      · rw [List.length_append]; have := ex.1; have := ex5.1; simp only [List.length_append] at this; lia
    | cons i0 ls' =>
      refine WO_neLen (l := (i0 :: ls').map ipv) (k := []) (by (refine lk_app ?_; assumption)) lk_last (by simp) (by lia) ?_
      (refine unstop ?_; refine WS_vb (unstop ?_); refine WE_meth ?_; refine WE_loc rfl rfl rfl ?_; refine WM_append (by refine lk_app ?_; assumption) ?_; refine ⟨rfl, ?_⟩; refine WL_vl rfl (unstop ?_))
      have hs2 := (hs'.ex (ExB.app [] σ' [AO.list []]) (by simp)).ex (ExB.app [] _ [AO.list [.int 0, .int 0, .int 2, .int 3, .int 4, .int 7]]) (by simp)
      refine ct_one (Gl.at_std ..) (rm.mono (by decide)) hs2 lk_last (by rw [List.length_append]; lia) (by simp) (Nat.le_of_ble_eq_true rfl) fun j pv σ5 hj ex5 hs5 => ?_
      obtain ⟨z, hz, rfl⟩ := pick_int (zs := [0, 0, 2, 3, 4, 7]) rfl hj
      have hz2 : 0 ≤ z ∧ z ≤ 7 := by simp at hz; lia
      have hlt5 := hs5.lt
      (refine unstop ?_; refine WC_append (by refine ExB.get (by assumption) (by simp only [List.mem_cons, List.not_mem_nil, or_false, not_or, not_false_eq_true]; lia) ?_; refine lk_app ?_; refine lk_app ?_; assumption) (by lia) ?_; refine unstop ?_; refine WC_lenL (by refine lk_set_ne (by clear hkp; lia) ?_; refine ExB.get (by assumption) (by simp only [List.mem_cons, List.not_mem_nil, or_false, not_or, not_false_eq_true]; lia) ?_; refine lk_app ?_; refine lk_app ?_; assumption) (by lia) ?_; refine unstop ?_)
      have hs6 := hs5.ex (ExB.set (S := [kp]) (k := kp) (ao := .list (ps.map partPV ++ [.tup [.none, .int z]])) (.head _)) (by simp; lia)
      have hpos : 0 < (i0 :: ls').length := Nat.succ_pos _
      refine ct_take (Gl.at_std ..) (rm.mono (by decide)) hs6 (by lia) (by lia) fun r σ7 r0 r1 ex7 hs7 => ?_
      have hrl : r.toNat < (i0 :: ls').length := by lia
      have hmem : (i0 :: ls')[r.toNat] ∈ List.range cs.length := hperm.mem_iff.mp (List.mem_append_right _ (List.getElem_mem hrl))
      have hi : (i0 :: ls')[r.toNat] < cs.length := List.mem_range.mp hmem
      obtain ⟨i, hii⟩ : ∃ i, i = (i0 :: ls')[r.toNat] := ⟨_, rfl⟩
      rw [← hii] at hi
      have hic : cs[i]? = some cs[i] := List.getElem?_eq_getElem hi
      have hoc := hlen cs[i] (List.getElem_mem hi)
      have hget : ((i0 :: ls').map ipv)[r.toNat]? = some (.int (i : Int)) := by rw [List.getElem?_map, List.getElem?_eq_getElem hrl, ← hii]; rfl
      have hcget : (cs.map CD.pv)[((i : Int)).toNat]? = some (cs[i]).pv := by rw [Int.toNat_natCast, List.getElem?_map, hic]; rfl
      (refine unstop ?_; refine WE_meth ?_; refine WE_loc rfl rfl rfl ?_; refine WM_append (by refine ExB.get (by assumption) (by simp only [List.mem_cons, List.not_mem_nil, or_false, not_or, not_false_eq_true]; lia) ?_; exact lk_set (by refine lt_ex (by assumption) ?_; refine lt_app ?_; refine lt_app ?_; exact lt_of_lk (by assumption))) ?_; refine ⟨rfl, ?_⟩; refine WL_vl rfl (unstop ?_))
      refine WG_list (by (refine ExB.get (by assumption) (by simp only [List.mem_cons, List.not_mem_nil, or_false, not_or, not_false_eq_true]; lia) ?_; refine lk_set_ne (by lia) ?_; refine ExB.get (by assumption) (by simp only [List.mem_cons, List.not_mem_nil, or_false, not_or, not_false_eq_true]; lia) ?_; refine lk_app ?_; refine lk_app ?_; assumption)) r0 (by lia) hget ?_
      refine unstop ?_
      refine WG_list (by (refine ExB.get (by assumption) (by simp only [List.mem_cons, List.not_mem_nil, or_false, not_or, not_false_eq_true]; lia) ?_; refine lk_set_ne (by lia) ?_; refine ExB.get (by assumption) (by simp only [List.mem_cons, List.not_mem_nil, or_false, not_or, not_false_eq_true]; lia) ?_; refine lk_app ?_; refine lk_app ?_; assumption)) r0 (by lia) hget ?_
      refine unstop ?_; refine WG_list (by (refine ExB.get (by assumption) (by simp only [List.mem_cons, List.not_mem_nil, or_false, not_or, not_false_eq_true]; assumption) ?_; refine lk_set_ne (by lia) ?_; refine ExB.get (by assumption) (by simp only [List.mem_cons, List.not_mem_nil, or_false, not_or, not_false_eq_true]; assumption) ?_; refine lk_app ?_; refine lk_app ?_; refine ExB.get (by assumption) (by simp only [List.mem_cons, List.not_mem_nil, or_false, not_or, not_false_eq_true]; assumption) ?_; assumption)) (by lia) (by lia) hcget ?_
      refine unstop ?_
      refine WG_tup (by decide) (by decide) rfl ?_
      (refine unstop ?_; refine WC_lenB (by lia) ?_; refine unstop ?_; refine WC_max2 ?_; refine unstop ?_; refine WC_append (by refine ExB.get (by assumption) (by simp only [List.mem_cons, List.not_mem_nil, or_false, not_or, not_false_eq_true]; lia) ?_; exact lk_set (by refine lt_ex (by assumption) ?_; refine lt_app ?_; refine lt_app ?_; exact lt_of_lk (by assumption))) (by simp only [List.length_cons, List.length_nil, List.length_set, List.length_map, List.length_append, List.length_range, List.length_replicate]; lia) ?_; refine unstop ?_; refine WE_slice ?_; refine WE_loc rfl rfl rfl ?_; refine WPart_some ?_; refine WE_loc rfl rfl rfl ?_; refine WGs_list (by refine lk_set_ne (by lia) ?_; refine ExB.get (by assumption) (by simp only [List.mem_cons, List.not_mem_nil, or_false, not_or, not_false_eq_true]; lia) ?_; refine lk_set_ne (by lia) ?_; refine ExB.get (by assumption) (by simp only [List.mem_cons, List.not_mem_nil, or_false, not_or, not_false_eq_true]; lia) ?_; refine lk_app ?_; refine lk_app ?_; assumption) (by lia) rfl rfl ?_; refine unstop ?_; refine WE_slice ?_; refine WE_loc rfl rfl rfl ?_; refine WPart_some ?_; refine WE_vx (unstop ?_); refine WPart_none ?_; refine WGs_list (by refine lk_app ?_; refine lk_set_ne (by lia) ?_; refine ExB.get (by assumption) (by simp only [List.mem_cons, List.not_mem_nil, or_false, not_or, not_false_eq_true]; lia) ?_; refine lk_set_ne (by lia) ?_; refine ExB.get (by assumption) (by simp only [List.mem_cons, List.not_mem_nil, or_false, not_or, not_false_eq_true]; lia) ?_; refine lk_app ?_; refine lk_app ?_; assumption) (by lia) rfl rfl ?_; refine unstop ?_)
      rw [cut_to r0 (by (clear hsum hnum hpos r0; lia)), cut_from (by lia) (by assumption)]
      refine WO_addL (by (refine lk_app ?_; exact lk_last)) lk_last (by rw [List.length_take, List.length_drop]; (clear hlt hltc hkl hkp hru hlt' hz2 hlt5 hii hoc; omega)) ?_
      refine unstop ?_
      have hnew : ((i0 :: ls').map ipv).take r.toNat ++ ((i0 :: ls').map ipv).drop (r + 1).toNat = ((i0 :: ls').take r.toNat ++ (i0 :: ls').drop (r.toNat + 1)).map ipv := by
        rw [List.map_append, List.map_take, List.map_drop, show (r + 1).toNat = r.toNat + 1 by lia]
      have hsplit : i0 :: ls' = (i0 :: ls').take r.toNat ++ i :: (i0 :: ls').drop (r.toNat + 1) := by
        rw [hii, List.getElem_cons_drop, List.take_append_drop]
      have hps2 : ps.map partPV ++ [PV.tup [.none, .int z]] ++ [PV.tup [.int i, .int (max 4 (cs[i].oc.length : Int))]] = (ps ++ [(none, z.toNat), (some i, max 4 cs[i].oc.length)]).map partPV := by
        have e1 : partPV (none, z.toNat) = PV.tup [.none, .int z] := by show PV.tup [.none, .int (z.toNat : Int)] = _; rw [Int.toNat_of_nonneg hz2.1]
        have e2 : partPV (some i, max 4 cs[i].oc.length) = PV.tup [.int i, .int (max 4 (cs[i].oc.length : Int))] := by
          show PV.tup [.int i, .int ((max 4 cs[i].oc.length : Nat) : Int)] = _
          rw [show ((max 4 cs[i].oc.length : Nat) : Int) = max 4 (cs[i].oc.length : Int) by lia]
        rw [List.map_append, List.append_assoc, ← e1, ← e2]; rfl
      rw [hnew, hps2]
      have hl3 : ((i0 :: ls').take r.toNat ++ (i0 :: ls').drop (r.toNat + 1)).length + 1 = (i0 :: ls').length := by
        have := congrArg List.length hsplit
        rw [List.length_append] at this
        have h9 : (i :: (i0 :: ls').drop (r.toNat + 1)).length = ((i0 :: ls').drop (r.toNat + 1)).length + 1 := rfl
        rw [List.length_append]; lia
      have x1 := ex.1
      have x5 := ex5.1
      have x7 := ex7.1
      have xp := lt_of_lk ep
      simp only [List.length_append, List.length_set, List.length_cons, List.length_nil] at x5 x7
      (repeat refine unstop ?_); refine ⟨_, ?_, (i0 :: ls').take r.toNat ++ (i0 :: ls').drop (r.toNat + 1), ps ++ [(none, z.toNat), (some i, max 4 cs[i].oc.length)], _, kp, rfl, rfl, rfl, rfl, ?_, ?_, ?_, hkp, ?_, lk_last, ?_, rfl, ?_, ?_, ?_, ?_⟩
      · lia
      · (refine Src.ex ?_ (ExB.app [] _ _) List.not_mem_nil; refine Src.ex ?_ (ExB.app [] _ _) List.not_mem_nil; refine Src.ex ?_ (ExB.app [] _ _) List.not_mem_nil; refine Src.ex ?_ (ExB.set (S := [_]) (.head _)) (by simp only [List.mem_cons, List.not_mem_nil, or_false, not_or, not_false_eq_true]; lia); assumption)
      · (refine ExB.trans ?_ (ExB.app _ _ _); refine ExB.trans ?_ (ExB.app _ _ _); refine ExB.trans ?_ (ExB.app _ _ _); refine ExB.setNew ?_ (by assumption); refine ExB.trans ?_ (by assumption); refine ExB.setNew ?_ (by assumption); refine ExB.trans ?_ (by assumption); refine ExB.trans ?_ (ExB.app _ _ _); refine ExB.trans ?_ (ExB.app _ _ _); assumption)
      · simp only [List.length_append, List.length_set]; (clear hkp; lia)
      · simp only [List.length_append, List.length_set]; lia
      · (refine lk_app ?_; refine lk_app ?_; refine lk_app ?_; exact lk_set (by refine lt_ex (by assumption) ?_; refine lt_set ?_; refine lt_ex (by assumption) ?_; refine lt_app ?_; refine lt_app ?_; assumption))
      · rw [List.filterMap_append]
        refine List.Perm.trans ?_ hperm
        have e3 : ([(none, z.toNat), (some i, max 4 cs[i].oc.length)] : List (Option Nat × Nat)).filterMap (·.1) = [i] := rfl
        rw [e3, List.append_assoc]
        refine List.Perm.append_left _ ?_
        rw [show ([i] ++ ((i0 :: ls').take r.toNat ++ (i0 :: ls').drop (r.toNat + 1))) = i :: ((i0 :: ls').take r.toNat ++ (i0 :: ls').drop (r.toNat + 1)) from rfl]
        have : ((i0 :: ls').take r.toNat ++ i :: (i0 :: ls').drop (r.toNat + 1)).Perm (i :: ((i0 :: ls').take r.toNat ++ (i0 :: ls').drop (r.toNat + 1))) := List.perm_middle
        rw [← hsplit] at this
        exact this.symm
      · intro p hp
        rcases List.mem_append.mp hp with hp | hp
        · exact hsz p hp
        · rcases List.mem_cons.mp hp with rfl | hp
          · (repeat refine unstop ?_); exact ⟨(fun i hi => by cases hi), fun _ => by show z.toNat ≤ 7; lia⟩
          · rw [List.mem_singleton.mp hp]
            (repeat refine unstop ?_); exact ⟨(fun i' hi' => by cases hi'; exact ⟨_, hic, rfl⟩), fun hn => by cases hn⟩
      · have : psum (ps ++ [(none, z.toNat), (some i, max 4 cs[i].oc.length)]) = psum ps + (z.toNat + max 4 cs[i].oc.length) := by unfold psum; rw [List.map_append, List.sum_append]; simp
        (clear hl0 hlt hltc hkl hkp hru hlt' hlp hll hlt5 r1 hii x1 xp x5 x7; omega)
      · rw [List.length_append]; show ps.length + 2 + _ ≤ _; lia
end
end Nv
end
section
open PySem PySem.W PySem.Calls PyProof.Rows PyProof.V PySem.Spec
namespace Nv
noncomputable def RdI (pl : List Int) (a : Nat) (bs : List UInt8) : Prop := ∀ j, j < bs.length → pl[a + j]? = some ((bs.getD j 0).toNat : Int)
theorem putN_get : ∀ (bs : List UInt8) (pl : List Int) (a k : Nat), (putN pl a bs)[k]? = if a ≤ k ∧ k < a + bs.length ∧ k < pl.length then some ((bs.getD (k - a) 0).toNat : Int) else pl[k]?
  | [], pl, a, k => by
    have : ¬ (a ≤ k ∧ k < a + ([] : List UInt8).length ∧ k < pl.length) := by simp only [List.length_nil]; lia
    rw [if_neg this]; rfl
  | x :: r, pl, a, k => by
    show (putN (pl.set a _) (a + 1) r)[k]? = _
    rw [putN_get r, List.length_set, List.length_cons]
    by_cases hk : a = k
    · subst hk
      rw [if_neg (by lia)]
      by_cases hl : a < pl.length
      · rw [if_pos ⟨Nat.le_refl _, by lia, hl⟩, List.getElem?_set_self hl, Nat.sub_self]; rfl
      · rw [if_neg (by lia), List.getElem?_eq_none (by rw [List.length_set]; lia), List.getElem?_eq_none (by lia)]
    · by_cases hc : a + 1 ≤ k ∧ k < a + 1 + r.length ∧ k < pl.length
      · rw [if_pos hc, if_pos (by lia)]
        obtain ⟨j, rfl⟩ : ∃ j, k = a + 1 + j := ⟨k - (a + 1), by omega⟩
        rw [show a + 1 + j - (a + 1) = j by lia, show a + 1 + j - a = j + 1 by lia]; rfl
      · rw [if_neg hc, if_neg (by lia), List.getElem?_set_ne hk]
theorem RdI.put_self {pl : List Int} {a : Nat} {bs : List UInt8} (h : a + bs.length ≤ pl.length) : RdI (putN pl a bs) a bs := fun j hj => by
  rw [putN_get, if_pos (by lia), Nat.add_sub_cancel_left]
theorem RdI.put_other {pl : List Int} {a a' : Nat} {bs bs' : List UInt8} (h : RdI pl a bs) (hd : a + bs.length ≤ a' ∨ a' + bs'.length ≤ a) : RdI (putN pl a' bs') a bs := fun j hj => by
  rw [putN_get, if_neg (by lia)]; exact h j hj
theorem RdI.left {pl : List Int} {a : Nat} {bs cs : List UInt8} (h : RdI pl a (bs ++ cs)) : RdI pl a bs := fun j hj => by
  rw [h j (by rw [List.length_append]; lia), List.getD_eq_getElem?_getD, List.getD_eq_getElem?_getD, List.getElem?_append_left hj]
theorem RdI.right {pl : List Int} {a : Nat} {bs cs : List UInt8} (h : RdI pl a (bs ++ cs)) : RdI pl (a + bs.length) cs := fun j hj => by
  have := h (bs.length + j) (by rw [List.length_append]; lia)
  rw [← Nat.add_assoc] at this
  rw [this, List.getD_eq_getElem?_getD, List.getD_eq_getElem?_getD, List.getElem?_append_right (Nat.le_add_right _ _), Nat.add_sub_cancel_left]
noncomputable def Oct (pl : List Int) : Prop := ∀ x ∈ pl, 0 ≤ x ∧ x < 256
theorem Oct.set {pl : List Int} (h : Oct pl) {a : Nat} {x : Int} (hx : 0 ≤ x ∧ x < 256) : Oct (pl.set a x) := fun y hy => by
  rcases List.mem_or_eq_of_mem_set hy with h1 | rfl
  · exact h y h1
  · exact hx
theorem Oct.put : ∀ {bs : List UInt8} {pl : List Int} {a : Nat}, Oct pl → Oct (putN pl a bs)
  | [], _, _, h => h
  | x :: r, pl, a, h => Oct.put (bs := r) (h.set ⟨by lia, by have := x.toNat_lt; lia⟩)
noncomputable def Rd (b : List UInt8) (a : Nat) (bs : List UInt8) : Prop := ∀ j, j < bs.length → b[a + j]? = some (bs.getD j 0)
theorem toB_nat (x : UInt8) : toB (x.toNat : Int) = x := by
  unfold toB
  rw [Int.toNat_natCast]
  exact UInt8.ofNat_toNat
theorem RdI.rd {pl : List Int} {a : Nat} {bs : List UInt8} (h : RdI pl a bs) : Rd (pl.map toB) a bs := fun j hj => by
  rw [List.getElem?_map, h j hj]
  show some (toB _) = _
  rw [toB_nat]
theorem Rd.left {b : List UInt8} {a : Nat} {bs cs : List UInt8} (h : Rd b a (bs ++ cs)) : Rd b a bs := fun j hj => by
  rw [h j (by rw [List.length_append]; lia), List.getD_eq_getElem?_getD, List.getD_eq_getElem?_getD, List.getElem?_append_left hj]
theorem Rd.right {b : List UInt8} {a : Nat} {bs cs : List UInt8} (h : Rd b a (bs ++ cs)) : Rd b (a + bs.length) cs := fun j hj => by
  have := h (bs.length + j) (by rw [List.length_append]; lia)
  rw [← Nat.add_assoc] at this
  rw [this, List.getD_eq_getElem?_getD, List.getD_eq_getElem?_getD, List.getElem?_append_right (Nat.le_add_right _ _), Nat.add_sub_cancel_left]
theorem Rd.by8 {b : List UInt8} {a : Nat} {bs : List UInt8} (h : Rd b a bs) {j : Nat} (hj : j < bs.length) {i : Int} (hi : i = a + j) : by8 b i = ((bs.getD j 0).toNat : Int) := by
  subst hi
  unfold Nv.by8
  rw [show ((a : Int) + (j : Int)).toNat = a + j by lia, List.getD_eq_getElem?_getD, h j hj]; rfl
theorem toB_toNat {n : Int} (h0 : 0 ≤ n) (h1 : n < 256) : ((toB n).toNat : Int) = n := by
  unfold toB
  have : n.toNat < 256 := by lia
  have e : (n.toNat.toUInt8).toNat = n.toNat := by
    show (UInt8.ofNat n.toNat).toNat = _
    rw [UInt8.toNat_ofNat']; exact Nat.mod_eq_of_lt this
  rw [e]; lia
theorem Rd.tw {b : List UInt8} {a : Nat} {n : Int} (h : Rd b a (tw n)) (h0 : 0 ≤ n) (h1 : n < 65536) : w2 b a = n := by
  have e1 := h.by8 (j := 0) (by show 0 < 2; decide) (i := a) (by lia)
  have e2 := h.by8 (j := 1) (by show 1 < 2; decide) (i := a + 1) (by lia)
  unfold w2
  rw [e1, e2]
  show ((toB (n.fdiv 256)).toNat : Int) * 256 + ((toB (n.fmod 256)).toNat : Int) = n
  have q1 : n.fdiv 256 = n / 256 := Int.fdiv_eq_ediv_of_nonneg n (by decide)
  have q2 : n.fmod 256 = n % 256 := Int.fmod_eq_emod_of_nonneg n (by decide)
  rw [q1, q2, toB_toNat (by lia) (by lia), toB_toNat (by (clear h0 h1; lia)) (by (clear h0 h1; lia))]
  lia
end Nv
end
section
open PySem PySem.W PySem.Calls PyProof.Rows PyProof.V PySem.Spec
namespace Nv
theorem ar_le {a b : Int} {n : Nat} (ha : 0 ≤ a) (h : a + n ≤ b) : a.toNat + n ≤ b.toNat := by omega
theorem ar_mx {p b : Int} {n : Nat} (h : p + max 4 (n : Int) ≤ b) : p + n ≤ b := Int.le_trans (Int.add_le_add_left (Int.le_max_right ..) _) h
theorem ar_mxc {n : Nat} : ((max 4 n : Nat) : Int) = max 4 (n : Int) := by omega
theorem ar_mx' {p b : Int} {n : Nat} (h : p + ((max 4 n : Nat) : Int) ≤ b) : p + n ≤ b := ar_mx (ar_mxc ▸ h)
structure L1 (cs : List CD) (ps : List (Option Nat × Nat)) (content : Int) (i : Nat) (pl plc : List Int) (bl : List (Int × Int)) (lost a : Int) : Prop where
  n : pl.length = 128
  oct : Oct pl
  nc : plc.length = cs.length
  at' : a = content + psum (ps.take i)
  cells : ∀ j c, some j ∈ (ps.take i).map (·.1) → cs[j]? = some c → ∃ p : Int, plc[j]? = some p ∧ content ≤ p ∧ p + max 4 c.oc.length ≤ a ∧ RdI pl p.toNat c.oc
  blk : ∀ q ∈ bl, content ≤ q.1 ∧ 4 ≤ q.2 ∧ q.2 ≤ 7 ∧ q.1 + q.2 ≤ a
  asc : bl.Pairwise fun p q => p.1 + p.2 ≤ q.1
  dis : ∀ j c p, some j ∈ (ps.take i).map (·.1) → cs[j]? = some c → plc[j]? = some p → ∀ q ∈ bl, p + max 4 c.oc.length ≤ q.1 ∨ q.1 + q.2 ≤ p
  lost0 : 0 ≤ lost
  lost1 : lost ≤ 3 * i
  nb : bl.length ≤ i
theorem psum_take {ps : List (Option Nat × Nat)} {i : Nat} {s : Option Nat} {z : Nat} (h : ps[i]? = some (s, z)) : psum (ps.take (i + 1)) = psum (ps.take i) + z := by
  unfold psum
  rw [List.take_add_one, h, List.map_append, List.sum_append]; simp
theorem psum_le {ps : List (Option Nat × Nat)} (i : Nat) : psum (ps.take i) ≤ psum ps := by
  have : psum ps = psum (ps.take i) + psum (ps.drop i) := by
    unfold psum
    rw [← List.sum_append, ← List.map_append, List.take_append_drop]
  lia
theorem take_spots {ps : List (Option Nat × Nat)} {i : Nat} {s : Option Nat} {z : Nat} (h : ps[i]? = some (s, z)) : (ps.take (i + 1)).map (·.1) = (ps.take i).map (·.1) ++ [s] := by
  rw [List.take_add_one, h, List.map_append]; rfl
theorem PartsOk.nodup {cs ps} (h : PartsOk cs ps) : (ps.filterMap (·.1)).Nodup := h.perm.nodup_iff.mpr List.nodup_range
theorem spot_once {ps : List (Option Nat × Nat)} (hn : (ps.filterMap (·.1)).Nodup) {i j : Nat} {z : Nat} (h : ps[i]? = some (some j, z)) : some j ∉ (ps.take i).map (·.1) := by
  intro hm
  obtain ⟨q, hq, he⟩ := List.mem_map.mp hm
  have hi : i < ps.length := (List.getElem?_eq_some_iff.mp h).1
  have hsp : ps = ps.take i ++ (some j, z) :: ps.drop (i + 1) := by
    have : ps[i] = (some j, z) := by rw [List.getElem?_eq_getElem hi] at h; exact Option.some.inj h
    rw [← this, List.getElem_cons_drop, List.take_append_drop]
  rw [hsp, List.filterMap_append, List.nodup_append] at hn
  refine hn.2.2 j (List.mem_filterMap.mpr ⟨q, hq, he⟩) j ?_ rfl
  exact List.mem_filterMap.mpr ⟨(some j, z), .head _, rfl⟩
theorem L1.cell {cs ps content i pl plc bl lost a} (h : L1 cs ps content i pl plc bl lost a) (pk : PartsOk cs ps) (hc0 : 0 ≤ content) {j z : Nat} (e : ps[i]? = some (some j, z)) {c : CD} (ec : cs[j]? = some c) (ha : a + z ≤ 128) (hz : z = max 4 c.oc.length) :
    L1 cs ps content (i + 1) (putN pl a.toNat c.oc) (plc.set j a) bl lost (a + z) := by
  have hj : j < plc.length := by rw [h.nc]; exact (List.getElem?_eq_some_iff.mp ec).1
  have hnew := spot_once pk.nodup e
  have ha0 : content ≤ a := by rw [h.at']; lia
  have hne : ∀ j', some j' ∈ (ps.take i).map (·.1) → j' ≠ j := fun j' hm he => hnew (he ▸ hm)
  refine ⟨by rw [putN_len]; exact h.n, h.oct.put, by rw [List.length_set]; exact h.nc, by rw [psum_take e, h.at']; lia, fun j' c' hm ec' => ?_, fun q hq => ?_, h.asc, fun j' c' p hm ec' ep q hq => ?_, h.lost0, by have := h.lost1; lia, by have := h.nb; lia⟩
  · rw [take_spots e] at hm
    rcases List.mem_append.mp hm with hm | hm
    · obtain ⟨p, e1, e2, e3, e4⟩ := h.cells j' c' hm ec'
      refine ⟨p, by rw [List.getElem?_set_ne (Ne.symm (hne j' hm))]; exact e1, e2, by lia, e4.put_other (.inl (ar_le (Int.le_trans hc0 e2) (ar_mx e3)))⟩
    · cases List.mem_singleton.mp hm
      rw [ec] at ec'; cases ec'
      refine ⟨a, List.getElem?_set_self hj, ha0, by lia, RdI.put_self (by rw [h.n]; lia)⟩
  · have := h.blk q hq; exact ⟨this.1, this.2.1, this.2.2.1, Int.le_trans this.2.2.2 (Int.le_add_of_nonneg_right (Int.natCast_nonneg _))⟩
  · rw [take_spots e] at hm
    rcases List.mem_append.mp hm with hm | hm
    · rw [List.getElem?_set_ne (Ne.symm (hne j' hm))] at ep
      exact h.dis j' c' p hm ec' ep q hq
    · cases List.mem_singleton.mp hm
      rw [List.getElem?_set_self hj] at ep; cases ep
      have := h.blk q hq; right; lia
theorem L1.block {cs ps content i pl plc bl lost a} (h : L1 cs ps content i pl plc bl lost a) {z : Nat} (e : ps[i]? = some (none, z)) (h4 : 4 ≤ z) (h7 : z ≤ 7) :
    L1 cs ps content (i + 1) pl plc (bl ++ [(a, (z : Int))]) lost (a + z) := by
  have ha0 : content ≤ a := by rw [h.at']; lia
  have hm' : ∀ j', some j' ∈ (ps.take (i + 1)).map (·.1) → some j' ∈ (ps.take i).map (·.1) := fun j' hm => by
    rw [take_spots e] at hm
    rcases List.mem_append.mp hm with hm | hm
    · exact hm
    · cases List.mem_singleton.mp hm
  refine ⟨h.n, h.oct, h.nc, by rw [psum_take e, h.at']; lia, fun j' c' hm ec' => ?_, fun q hq => ?_, ?_, fun j' c' p hm ec' ep q hq => ?_, h.lost0, by have := h.lost1; lia, by rw [List.length_append]; have := h.nb; simp; assumption⟩
  · obtain ⟨p, e1, e2, e3, e4⟩ := h.cells j' c' (hm' _ hm) ec'
    exact ⟨p, e1, e2, by (clear h4; lia), e4⟩
  · rcases List.mem_append.mp hq with hq | hq
    · have := h.blk q hq; (clear h4; lia)
    · rw [List.mem_singleton.mp hq]; simp only; lia
  · rw [List.pairwise_append]
    refine ⟨h.asc, List.pairwise_singleton _ _, fun p hp q hq => ?_⟩
    rw [List.mem_singleton.mp hq]
    exact (h.blk p hp).2.2.2
  · rcases List.mem_append.mp hq with hq | hq
    · exact h.dis j' c' p (hm' _ hm) ec' ep q hq
    · rw [List.mem_singleton.mp hq]
      obtain ⟨p', e1, e2, e3, e4⟩ := h.cells j' c' (hm' _ hm) ec'
      rw [ep] at e1; cases e1
      left; exact e3
theorem L1.gap {cs ps content i pl plc bl lost a} (h : L1 cs ps content i pl plc bl lost a) {z : Nat} (e : ps[i]? = some (none, z)) (h4 : z < 4) :
    L1 cs ps content (i + 1) pl plc bl (lost + z) (a + z) := by
  have hm' : ∀ j', some j' ∈ (ps.take (i + 1)).map (·.1) → some j' ∈ (ps.take i).map (·.1) := fun j' hm => by
    rw [take_spots e] at hm
    rcases List.mem_append.mp hm with hm | hm
    · exact hm
    · cases List.mem_singleton.mp hm
  refine ⟨h.n, h.oct, h.nc, by rw [psum_take e, h.at']; lia, fun j' c' hm ec' => ?_, fun q hq => by have := h.blk q hq; lia, h.asc, fun j' c' p hm ec' ep q hq => h.dis j' c' p (hm' _ hm) ec' ep q hq, by have := h.lost0; lia, by have := h.lost1; lia, by have := h.nb; lia⟩
  obtain ⟨p, e1, e2, e3, e4⟩ := h.cells j' c' (hm' _ hm) ec'
  exact ⟨p, e1, e2, by lia, e4⟩
theorem L1.start {cs : List CD} {ps : List (Option Nat × Nat)} (content : Int) : L1 cs ps content 0 (List.replicate 128 170) (List.replicate cs.length 0) [] 0 content :=
  ⟨List.length_replicate .., (fun x hx => by rw [List.eq_of_mem_replicate hx]; decide), List.length_replicate .., by simp [psum], (fun j c hm => by simp at hm), (fun q hq => by cases hq), List.Pairwise.nil, (fun j c p hm => by simp at hm), by decide, by simp, by simp⟩
noncomputable def nextOf (bl : List (Int × Int)) (k : Nat) : Int := ((bl.map Prod.fst) ++ [0]).getD (k + 1) 0
structure L2 (cs : List CD) (content : Int) (plc : List Int) (bl : List (Int × Int)) (k : Nat) (pl : List Int) : Prop where
  n : pl.length = 128
  oct : Oct pl
  cells : ∀ (j : Nat) (c : CD), cs[j]? = some c → ∃ p : Int, plc[j]? = some p ∧ content ≤ p ∧ p + max 4 c.oc.length ≤ 128 ∧ RdI pl p.toNat c.oc
  dis : ∀ (j : Nat) (c : CD) (p : Int), cs[j]? = some c → plc[j]? = some p → ∀ q ∈ bl, p + max 4 c.oc.length ≤ q.1 ∨ q.1 + q.2 ≤ p
  blk : ∀ q ∈ bl, content ≤ q.1 ∧ 4 ≤ q.2 ∧ q.2 ≤ 7 ∧ q.1 + q.2 ≤ 128
  asc : bl.Pairwise fun p q => p.1 + p.2 ≤ q.1
  wr : ∀ (k' : Nat) (q : Int × Int), k' < k → bl[k']? = some q → RdI pl q.1.toNat (tw (nextOf bl k') ++ tw q.2)
theorem L1.done {cs ps content pl plc bl lost a} (h : L1 cs ps content ps.length pl plc bl lost a) (pk : PartsOk cs ps) (hc : content + psum ps = 128) : L2 cs content plc bl 0 pl := by
  have ha : a = 128 := by rw [h.at', List.take_length]; exact hc
  have hall : ∀ (j : Nat) (c : CD), cs[j]? = some c → some j ∈ (ps.take ps.length).map (·.1) := fun j c ec => by
    rw [List.take_length]
    have : j ∈ ps.filterMap (·.1) := pk.perm.mem_iff.mpr (List.mem_range.mpr (List.getElem?_eq_some_iff.mp ec).1)
    obtain ⟨q, hq, he⟩ := List.mem_filterMap.mp this
    exact List.mem_map.mpr ⟨q, hq, he⟩
  refine ⟨h.n, h.oct, fun j c ec => ?_, fun j c p ec ep q hq => ar_mxc ▸ h.dis j c p (hall j c ec) ec ep q hq, fun q hq => ha ▸ h.blk q hq, h.asc, fun k' q hk => absurd hk (Nat.not_lt_zero _)⟩
  obtain ⟨p, e1, e2, e3, e4⟩ := h.cells j c (hall j c ec) ec
  exact ⟨p, e1, e2, by (clear e2; lia), e4⟩
theorem asc_lt {bl : List (Int × Int)} (h : bl.Pairwise fun p q => p.1 + p.2 ≤ q.1) {i j : Nat} {p q : Int × Int} (ei : bl[i]? = some p) (ej : bl[j]? = some q) (hij : i < j) : p.1 + p.2 ≤ q.1 := by
  obtain ⟨hi, e1⟩ := List.getElem?_eq_some_iff.mp ei
  obtain ⟨hj, e2⟩ := List.getElem?_eq_some_iff.mp ej
  rw [← e1, ← e2]
  exact List.pairwise_iff_getElem.mp h i j hi hj hij
theorem tw_len (n : Int) : (tw n).length = 2 := rfl
theorem L2.step {cs content plc bl k pl} (h : L2 cs content plc bl k pl) (hc0 : 0 ≤ content) {q : Int × Int} (e : bl[k]? = some q) : L2 cs content plc bl (k + 1) (putN pl q.1.toNat (tw (nextOf bl k) ++ tw q.2)) := by
  have hq := h.blk q (List.mem_of_getElem? e)
  have hl : (tw (nextOf bl k) ++ tw q.2).length = 4 := rfl
  refine ⟨by rw [putN_len]; exact h.n, h.oct.put, fun j c ec => ?_, h.dis, h.blk, h.asc, fun k' q' hk e' => ?_⟩
  · obtain ⟨p, e1, e2, e3, e4⟩ := h.cells j c ec
    refine ⟨p, e1, e2, e3, e4.put_other ?_⟩
    have := h.dis j c p ec e1 q (List.mem_of_getElem? e)
    rw [hl]
    exact this.imp (fun t => ar_le (Int.le_trans hc0 e2) (ar_mx' t)) fun t => ar_le (n := 4) (Int.le_trans hc0 hq.1) (Int.le_trans (Int.add_le_add_left hq.2.1 _) t)
  · by_cases hk' : k' < k
    · have hq' := h.blk q' (List.mem_of_getElem? e')
      have := asc_lt h.asc e' e hk'
      refine (h.wr k' q' hk' e').put_other (.inl ?_)
      exact ar_le (n := 4) (Int.le_trans hc0 hq'.1) (Int.le_trans (Int.add_le_add_left hq'.2.1 _) this)
    · obtain rfl : k' = k := by lia
      rw [e] at e'; cases e'
      refine RdI.put_self ?_
      rw [hl, h.n]; lia
noncomputable def toldOf (kind right n content lost : Int) (bl : List (Int × Int)) : List UInt8 :=
  [toB kind] ++ tw (((bl.map Prod.fst) ++ [0]).getD 0 0) ++ tw n ++ tw content ++ [toB lost] ++ (if kind < 10 then [toB 0, toB 0] ++ tw right else [])
structure Laid (number kind right : Int) (cs : List CD) (b : List UInt8) (content : Int) (plc : List Int) (bl : List (Int × Int)) (lost : Int) : Prop where
  len : b.length = 128
  ct0 : 57 ≤ content
  ct1 : content ≤ 128
  lost0 : 0 ≤ lost
  lost1 : lost < 256
  np : plc.length = cs.length
  n3 : cs.length ≤ 3
  hdr : Rd b (if number = 1 then 32 else 0) (toldOf kind right cs.length content lost bl ++ (plc.map tw).flatten)
  cells : ∀ (j : Nat) (c : CD), cs[j]? = some c → ∃ p : Int, plc[j]? = some p ∧ content ≤ p ∧ p + 4 ≤ 128 ∧ p + c.oc.length ≤ 128 ∧ Rd b p.toNat c.oc
  blk : ∀ q ∈ bl, content ≤ q.1 ∧ 4 ≤ q.2 ∧ q.2 ≤ 7 ∧ q.1 + q.2 ≤ 128
  asc : bl.Pairwise fun p q => p.1 + p.2 ≤ q.1
  wr : ∀ (k : Nat) (q : Int × Int), bl[k]? = some q → Rd b q.1.toNat (tw (nextOf bl k) ++ tw q.2)
theorem tws_len : ∀ l : List Int, ((l.map tw).flatten).length = 2 * l.length
  | [] => rfl
  | x :: r => by rw [List.map_cons, List.flatten_cons, List.length_append, tws_len r, tw_len, List.length_cons]; lia
theorem told_len (kind right n content lost bl) : (toldOf kind right n content lost bl).length ≤ 12 := by
  unfold toldOf
  split <;> simp [tw_len]
theorem L2.laid {number kind right lost content : Int} {cs plc bl pl} (h : L2 cs content plc bl bl.length pl) (h0 : 57 ≤ content) (h1 : content ≤ 128) (l0 : 0 ≤ lost) (l1 : lost < 256) (np : plc.length = cs.length) (n3 : cs.length ≤ 3) :
    Laid number kind right cs ((putN pl (if number = 1 then 32 else 0) (toldOf kind right cs.length content lost bl ++ (plc.map tw).flatten)).map toB) content plc bl lost := by
  have hb : (if number = 1 then 32 else 0 : Nat) ≤ 32 := by split <;> (first | (exact Nat.le_refl _) | (exact Nat.zero_le _))
  have hlen : (toldOf kind right cs.length content lost bl ++ (plc.map tw).flatten).length ≤ 18 := by
    rw [List.length_append, tws_len]
    have := told_len kind right cs.length content lost bl
    lia
  refine ⟨by rw [List.length_map, putN_len]; exact h.n, h0, h1, l0, l1, np, n3, (RdI.put_self (by rw [h.n]; lia)).rd, fun j c ec => ?_, h.blk, h.asc, fun k q e => ?_⟩
  · obtain ⟨p, e1, e2, e3, e4⟩ := h.cells j c ec
    exact ⟨p, e1, e2, by lia, by lia, (e4.put_other (.inr (by lia))).rd⟩
  · have hq := h.blk q (List.mem_of_getElem? e)
    exact ((h.wr k q (List.getElem?_eq_some_iff.mp e).1 e).put_other (.inr (by lia))).rd
end Nv
end
section
open PySem PySem.W PySem.Calls PyProof.Rows PyProof.V PySem.Spec
namespace Nv
theorem Rd.tw' {b : List UInt8} {a : Nat} {n i : Int} (h : Rd b a (Nv.tw n)) (hi : i = a) (h0 : 0 ≤ n) (h1 : n < 65536) : w2 b i = n := by rw [hi]; exact h.tw h0 h1
theorem u4_eq (n : Int) : Nv.u4 n = [toB ((n.fdiv 16777216).fmod 256), toB ((n.fdiv 65536).fmod 256), toB ((n.fdiv 256).fmod 256), toB ((n.fdiv 1).fmod 256)] := rfl
theorem Rd.u4 {b : List UInt8} {a : Nat} {n i : Int} (h : Rd b a (Nv.u4 n)) (hi : i = a) (h0 : 0 ≤ n) (h1 : n < 4294967296) : w4 b i = n := by
  subst hi
  rw [u4_eq] at h
  have e0 := h.by8 (j := 0) (by show 0 < 4; decide) (i := a) (by lia)
  have e1 := h.by8 (j := 1) (by show 1 < 4; decide) (i := a + 1) (by lia)
  have e2 := h.by8 (j := 2) (by show 2 < 4; decide) (i := a + 2) (by lia)
  have e3 := h.by8 (j := 3) (by show 3 < 4; decide) (i := a + 2 + 1) (by lia)
  unfold w4 w2
  rw [e0, e1, e2, e3]
  show (((toB ((n.fdiv 16777216).fmod 256)).toNat : Int) * 256 + ((toB ((n.fdiv 65536).fmod 256)).toNat : Int)) * 65536 + (((toB ((n.fdiv 256).fmod 256)).toNat : Int) * 256 + ((toB ((n.fdiv 1).fmod 256)).toNat : Int)) = n
  have hf : ∀ x : Int, 0 ≤ x.fmod 256 ∧ x.fmod 256 < 256 := fun x => fmod_b (by decide)
  rw [toB_toNat (hf _).1 (hf _).2, toB_toNat (hf _).1 (hf _).2, toB_toNat (hf _).1 (hf _).2, toB_toNat (hf _).1 (hf _).2]
  rw [Int.fmod_eq_emod_of_nonneg _ (by decide), Int.fmod_eq_emod_of_nonneg _ (by decide), Int.fmod_eq_emod_of_nonneg _ (by decide), Int.fmod_eq_emod_of_nonneg _ (by decide),
    Int.fdiv_eq_ediv_of_nonneg _ (by decide), Int.fdiv_eq_ediv_of_nonneg _ (by decide), Int.fdiv_eq_ediv_of_nonneg _ (by decide), Int.fdiv_eq_ediv_of_nonneg _ (by decide)]
  lia
noncomputable def vrun : Nat → Int → List Int → Option Int
  | _, _, [] => none
  | t, n, x :: r => if ¬ (n.natAbs < 2 ^ 64 ∧ 0 ≤ x ∧ x < 256) then none else if t = 8 then (if r = [] then some (Builtin.bitOr (n * 2 ^ 8) x) else none) else if x < 128 then (if r = [] then some (Builtin.bitOr (n * 2 ^ 7) (Builtin.bitAnd x 127)) else none) else
      if t < 8 then vrun (t + 1) (Builtin.bitOr (n * 2 ^ 7) (Builtin.bitAnd x 127)) r else none
theorem vg_of {b : List UInt8} : ∀ {l : List Int} {t : Nat} {n N : Int} {a : Nat}, Rd b a (l.map toB) → vrun t n l = some N → t ≤ 8 → VG b N ((a : Int) + l.length) t n a
  | [], t, n, N, a, h, e, ht => by cases e
  | x :: r, t, n, N, a, h, e, ht => by
    unfold vrun at e
    by_cases hx : n.natAbs < 2 ^ 64 ∧ 0 ≤ x ∧ x < 256
    · rw [if_neg (by simpa using hx)] at e
      have h0 := h 0 (by simp)
      have hlt : a < b.length := (List.getElem?_eq_some_iff.mp h0).1
      have hb : by8 b a = x := by
        rw [h.by8 (j := 0) (by simp) (i := a) (by lia)]
        exact toB_toNat hx.2.1 hx.2.2
      by_cases h8 : t = 8
      · rw [if_pos h8] at e
        by_cases hr : r = []
        · rw [if_pos hr] at e
          cases e
          subst h8 hr
          refine .last (by lia) (by lia) hx.1 (by rw [hb]) rfl
        · rw [if_neg hr] at e; cases e
      · rw [if_neg h8] at e
        by_cases h128 : x < 128
        · rw [if_pos h128] at e
          by_cases hr : r = []
          · rw [if_pos hr] at e
            cases e
            subst hr
            refine .stop (by lia) (by lia) (by lia) hx.1 (by rw [hb]; exact h128) (by rw [hb]) rfl
          · rw [if_neg hr] at e; cases e
        · rw [if_neg h128, if_pos (by lia)] at e
          have hr : Rd b (a + 1) (r.map toB) := Rd.right (bs := [toB x]) h
          have := vg_of hr e (by lia)
          refine .next (by lia) (by lia) (by lia) hx.1 (by rw [hb]; exact h128) ?_
          rw [hb]
          rw [show ((a : Int) + ((x :: r).length : Int)) = ((a + 1 : Nat) : Int) + (r.length : Int) by rw [List.length_cons]; lia, show (a : Int) + 1 = ((a + 1 : Nat) : Int) by lia]
          exact this
    · rw [if_pos (by simpa using hx)] at e; cases e
theorem vg_rowid {b : List UInt8} {r : Int} (hr : r ∈ rowids) {vl : List Int} (hv : lvar r = some vl) {a : Nat} (h : Rd b a (vl.map toB)) : ∃ N, VG b N ((a : Int) + vl.length) 0 0 a ∧ sgn N = r := by
  have key : ∀ r ∈ rowids, ((lvar r).bind (vrun 0 0)).map sgn = some r := by decide +kernel
  have k := key r hr
  rw [hv] at k
  simp only [Option.bind_some] at k
  cases e : vrun 0 0 vl with
  | none => rw [e] at k; cases k
  | some N =>
    rw [e] at k
    exact ⟨N, vg_of h e (by decide), Option.some.inj k⟩
theorem vg_size {b : List UInt8} {n : Nat} (hn : n ≤ 5) {a : Nat} (h : Rd b a [toB n]) : VG b n ((a : Int) + 1) 0 0 a := by
  have key : ∀ n : Nat, n ≤ 5 → vrun 0 0 [(n : Int)] = some (n : Int) := by
    intro n hn
    match n, hn with
    | 0, _ => decide +kernel
    | 1, _ => decide +kernel
    | 2, _ => decide +kernel
    | 3, _ => decide +kernel
    | 4, _ => decide +kernel
    | 5, _ => decide +kernel
  exact vg_of (l := [(n : Int)]) h (key n hn) (by decide)
theorem Rd.cut {b : List UInt8} {a : Nat} {bs : List UInt8} (h : Rd b a bs) {i e : Int} (hi : i = a) (he : e = (a : Int) + bs.length) (hle : a + bs.length ≤ b.length) : Nv.cut b (.int i) (.int e) = bs := by
  subst hi he
  unfold Nv.cut clipO
  simp only
  rw [clipAt_in (by lia) (by lia), clipAt_in (by lia) (by lia)]
  apply List.ext_getElem?
  intro j
  rw [List.getElem?_take]
  split
  · rename_i hj
    rw [List.getElem?_drop, show (a : Int).toNat = a by lia, h j (by omega), List.getD_eq_getElem?_getD, List.getElem?_eq_getElem (by omega)]; rfl
  · rename_i hj
    rw [List.getElem?_eq_none (by lia)]
theorem Rd.le {b : List UInt8} {a : Nat} {bs : List UInt8} (h : Rd b a bs) (hne : 0 < bs.length) : a + bs.length ≤ b.length := by
  have := h (bs.length - 1) (by omega)
  have := (List.getElem?_eq_some_iff.mp this).1
  lia
theorem cellAt_of {b : List UInt8} {kind : Int} {c : CD} (hc : CDok kind c) {a : Nat} (h : Rd b a c.oc) (hle : a + c.oc.length ≤ b.length) : CellAt b kind a c.child c.rowid c.size c.loc ((a : Int) + c.oc.length) := by
  obtain ⟨c0, c1, l5, sh⟩ := hc
  have hu4 : ∀ n, (Nv.u4 n).length = 4 := fun n => by unfold Nv.u4; rw [List.length_map]; rfl
  refine ⟨by lia, by lia, ?_⟩
  rcases sh with ⟨rfl, r, vl, h1, h2, h3, h4, h5, h6⟩ | ⟨rfl, h3, h4, h5⟩ | ⟨rfl, r, vl, h1, h2, h3, h4, h5, h6⟩ | ⟨rfl, h3, h4, h5, h6⟩
  · left
    rw [h3] at h hle ⊢
    rw [List.length_append, hu4, List.length_map] at hle
    obtain ⟨N, g1, g2⟩ := vg_rowid h1 h2 h.right
    refine ⟨rfl, N, by lia, (h.left.u4 rfl c0 c1).symm, ?_, by rw [h4, g2], h5, h6⟩
    rw [hu4] at g1
    rw [List.length_append, hu4, List.length_map, show ((a : Int) + ((4 + vl.length : Nat) : Int)) = ((a + 4 : Nat) : Int) + (vl.length : Int) by lia, show (a : Int) + 4 = ((a + 4 : Nat) : Int) by lia]
    exact g1
  · right; left
    rw [h3] at h hle ⊢
    have hl : (Nv.u4 c.child ++ [toB c.loc.length] ++ c.loc).length = 5 + c.loc.length := by rw [List.length_append, List.length_append, hu4]; rfl
    rw [hl] at hle ⊢
    have g1 : Rd b (a + 4) [toB c.loc.length] := by have := h.left.right; rw [hu4] at this; exact this
    have g2 : Rd b (a + 5) c.loc := by have := h.right; rw [List.length_append, hu4] at this; exact this
    refine ⟨rfl, ((a + 4 : Nat) : Int) + 1, by lia, (h.left.left.u4 rfl c0 c1).symm, ?_, h4, by rw [h5]; lia, by rw [h5]; lia, by rw [h5]; lia, ?_⟩
    · rw [h5, show (a : Int) + 4 = ((a + 4 : Nat) : Int) by lia]
      exact vg_size l5 g1
    · exact (g2.cut (by lia) (by lia) (by lia)).symm
  · right; right; left
    rw [h3] at h hle ⊢
    have hl : ([toB c.loc.length] ++ vl.map toB ++ c.loc).length = 1 + vl.length + c.loc.length := by rw [List.length_append, List.length_append, List.length_map]; rfl
    rw [hl] at hle ⊢
    have g0 : Rd b a [toB c.loc.length] := h.left.left
    have g1 : Rd b (a + 1) (vl.map toB) := h.left.right
    have g2 : Rd b (a + (1 + vl.length)) c.loc := by have := h.right; rw [List.length_append, List.length_map] at this; exact this
    obtain ⟨N, z1, z2⟩ := vg_rowid h1 h2 g1
    refine ⟨rfl, ((a + 1 : Nat) : Int), ((a + 1 : Nat) : Int) + vl.length, N, h4, ?_, z1, by rw [h5, z2], by rw [h6]; lia, by rw [h6]; lia, by rw [h6]; lia, ?_⟩
    · rw [h6]; exact vg_size l5 g0
    · exact (g2.cut (by lia) (by lia) (by lia)).symm
  · right; right; right
    rw [h3] at h hle ⊢
    have hl : ([toB c.loc.length] ++ c.loc).length = 1 + c.loc.length := by rw [List.length_append]; rfl
    rw [hl] at hle ⊢
    refine ⟨rfl, ((a + 1 : Nat) : Int), h4, ?_, h5, by rw [h6]; lia, by rw [h6]; lia, by rw [h6]; lia, ?_⟩
    · rw [h6]; exact vg_size l5 h.left
    · exact (h.right.cut (by simp) (by simp; lia) (by simp; lia)).symm
end Nv
end
section
open PySem PySem.W PySem.Calls PyProof.Rows PyProof.V PySem.Spec
namespace Nv
theorem Rd.tws {b : List UInt8} : ∀ {l : List Int} {a : Nat}, Rd b a ((l.map Nv.tw).flatten) → ∀ {i : Nat} {p : Int}, l[i]? = some p → Rd b (a + 2 * i) (Nv.tw p)
  | [], a, h, i, p, e => by simp at e
  | x :: r, a, h, 0, p, e => by
    simp only [List.getElem?_cons_zero, Option.some.injEq] at e
    subst e
    rw [List.map_cons, List.flatten_cons] at h
    exact h.left
  | x :: r, a, h, i + 1, p, e => by
    simp only [List.getElem?_cons_succ] at e
    rw [List.map_cons, List.flatten_cons] at h
    have := Rd.tws (Rd.right (bs := Nv.tw x) h) e
    rw [tw_len] at this
    rw [show a + 2 * (i + 1) = a + 2 + 2 * i by lia]
    exact this
structure Hd (number kind right : Int) (b : List UInt8) (content : Int) (plc : List Int) (bl : List (Int × Int)) (lost : Int) : Prop where
  k : knd b number = kind
  n : cnt b number = plc.length
  f : w2 b (pbase number + 1) = (bl.map Prod.fst ++ [0]).getD 0 0
  c : w2 b (pbase number + 5) = content
  l : by8 b (pbase number + 7) = lost
  r : kind < 10 → w4 b (pbase number + 8) = right
  p : ∀ (i : Nat) (p : Int), plc[i]? = some p → w2 b (ptr b number + 2 * i) = p
theorem Laid.nn {number kind right cs b content plc bl lost} (h : Laid number kind right cs b content plc bl lost) : ∀ k, 0 ≤ (bl.map Prod.fst ++ [0]).getD k 0 ∧ (bl.map Prod.fst ++ [0]).getD k 0 < 65536 := fun k => by
  rw [List.getD_eq_getElem?_getD]
  cases e : (bl.map Prod.fst ++ [0])[k]? with
  | none => exact ⟨by decide, by decide⟩
  | some x =>
    have hm := List.mem_of_getElem? e
    rcases List.mem_append.mp hm with hm | hm
    · obtain ⟨q, hq, rfl⟩ := List.mem_map.mp hm
      have := h.blk q hq
      have := h.ct0
      show 0 ≤ q.1 ∧ q.1 < 65536
      lia
    · rw [List.mem_singleton.mp hm]; exact ⟨by decide, by decide⟩
theorem Laid.pl {number kind right cs b content plc bl lost} (h : Laid number kind right cs b content plc bl lost) {i : Nat} {p : Int} (e : plc[i]? = some p) : ∃ c, cs[i]? = some c ∧ content ≤ p ∧ p + 4 ≤ 128 ∧ p + c.oc.length ≤ 128 ∧ Rd b p.toNat c.oc := by
  have hi : i < cs.length := by rw [← h.np]; exact (List.getElem?_eq_some_iff.mp e).1
  obtain ⟨p', z1, z2⟩ := h.cells i cs[i] (List.getElem?_eq_getElem hi)
  rw [e] at z1; cases z1
  exact ⟨_, List.getElem?_eq_getElem hi, z2⟩
theorem Laid.hd {number kind right : Int} {cs b content plc bl lost} (h : Laid number kind right cs b content plc bl lost) (hk : kind = 2 ∨ kind = 5 ∨ kind = 10 ∨ kind = 13) (hr0 : 0 ≤ right) (hr1 : right < 65536) : Hd number kind right b content plc bl lost := by
  obtain ⟨B, hB⟩ : ∃ B : Nat, B = if number = 1 then 32 else 0 := ⟨_, rfl⟩
  have hp : pbase number = (B : Int) := by unfold pbase; rw [hB]; split <;> rfl
  have hB32 : B ≤ 32 := by rw [hB]; split <;> (first | (exact Nat.le_refl _) | (exact Nat.zero_le _))
  have hh := h.hdr
  rw [← hB] at hh
  have ht := hh.left
  have hptr := hh.right
  unfold toldOf at ht
  have h8 := ht.left
  have htail := ht.right
  have hlost := h8.right
  have hct := h8.left.right
  have hn := h8.left.left.right
  have hf := h8.left.left.left.right
  have hkd := h8.left.left.left.left
  have n3 := h.n3
  have np := h.np
  have c0 := h.ct0
  have c1 := h.ct1
  have kk : by8 b (pbase number) = kind := by
    rw [hp, hkd.by8 (j := 0) (by simp) (i := B) (by lia)]
    exact toB_toNat (by lia) (by lia)
  have pp : ptr b number = ((B + (if kind < 10 then 12 else 8) : Nat) : Int) := by
    unfold ptr
    rw [kk, hp]
    rcases hk with rfl | rfl | rfl | rfl
    · rw [if_neg (by decide), if_pos (by decide)]; lia
    · rw [if_neg (by decide), if_pos (by decide)]; lia
    · rw [if_pos (by decide), if_neg (by decide)]; lia
    · rw [if_pos (by decide), if_neg (by decide)]; lia
  have tl : (toldOf kind right cs.length content lost bl).length = if kind < 10 then 12 else 8 := by
    unfold toldOf
    split <;> simp [tw_len]
  refine ⟨kk, ?_, ?_, ?_, ?_, fun hk10 => ?_, fun i p e => ?_⟩
  · rw [cnt, hn.tw' (by rw [hp]; simp [tw_len]) (by lia) (by lia)]
    lia
  · exact hf.tw' (by rw [hp]; simp) (h.nn 0).1 (h.nn 0).2
  · exact hct.tw' (by rw [hp]; simp [tw_len]) (by lia) (by lia)
  · rw [hlost.by8 (j := 0) (by simp) (i := pbase number + 7) (by rw [hp]; simp [tw_len])]
    exact toB_toNat h.lost0 h.lost1
  · rw [if_pos hk10] at htail
    have hl8 : ([toB kind] ++ Nv.tw ((bl.map Prod.fst ++ [0]).getD 0 0) ++ Nv.tw (cs.length : Int) ++ Nv.tw content ++ [toB lost]).length = 8 := rfl
    rw [hl8] at htail
    have z1 : w2 b (pbase number + 8) = 0 := (show Rd b (B + 8) (Nv.tw 0) from htail.left).tw' (by rw [hp]; lia) (by decide) (by decide)
    have z2 : w2 b (pbase number + 8 + 2) = right := (show Rd b (B + 8 + 2) (Nv.tw right) from htail.right).tw' (by rw [hp]; lia) hr0 hr1
    rw [w4, z1, z2]; lia
  · rw [tl] at hptr
    have hpl := h.pl e
    obtain ⟨c, _, q1, q2, _⟩ := hpl
    exact (hptr.tws e).tw' (by rw [pp]; lia) (by lia) (by lia)
theorem ptr_of {b number kind} (hk : knd b number = kind) (h4 : kind = 2 ∨ kind = 5 ∨ kind = 10 ∨ kind = 13) : ptr b number = pbase number + (if kind < 10 then 12 else 8) := by
  unfold ptr
  have hk' : by8 b (pbase number) = kind := hk
  rw [hk']
  rcases h4 with rfl | rfl | rfl | rfl
  · rw [if_neg (by decide), if_pos (by decide)]
  · rw [if_neg (by decide), if_pos (by decide)]
  · rw [if_pos (by decide), if_neg (by decide)]
  · rw [if_pos (by decide), if_neg (by decide)]
theorem Hd.cellOk {number kind right : Int} {cs b content plc bl lost} (h : Hd number kind right b content plc bl lost) (hl : Laid number kind right cs b content plc bl lost) {i : Nat} {p : Int} (e : plc[i]? = some p) : CellOk b number i p := by
  have hq := ptr_le b number
  have hi := (List.getElem?_eq_some_iff.mp e).1
  obtain ⟨c, _, q1, q2, _⟩ := hl.pl e
  have := hl.n3
  have := hl.np
  have := hl.ct0
  refine ⟨by lia, by rw [h.n]; lia, by lia, h.p i p e, by rw [h.n]; lia, q2⟩
theorem isKind_of {kind : Int} (h4 : kind = 2 ∨ kind = 5 ∨ kind = 10 ∨ kind = 13) : isKind kind = true := by
  rcases h4 with rfl | rfl | rfl | rfl <;> decide
theorem blk_from {b : List UInt8} {ct : Int} {bl : List (Int × Int)} (hblk : ∀ q ∈ bl, ct ≤ q.1 ∧ 4 ≤ q.2 ∧ q.2 ≤ 7 ∧ q.1 + q.2 ≤ 128) (h0 : 0 < ct) (asc : bl.Pairwise fun p q => p.1 + p.2 ≤ q.1)
    (wr : ∀ (k : Nat) (q : Int × Int), bl[k]? = some q → w2 b q.1 = nextOf bl k ∧ w2 b (q.1 + 2) = q.2) :
    ∀ (n k : Nat) (behind : Int), k + n = bl.length → (∀ q, bl[k]? = some q → behind ≤ q.1) → BLK b ct (some bl) n ((bl.map Prod.fst ++ [0]).getD k 0) behind (bl.take k)
  | 0, k, behind, hk, hb => by
    have : (bl.map Prod.fst ++ [0]).getD k 0 = 0 := by
      rw [List.getD_eq_getElem?_getD, List.getElem?_append_right (by rw [List.length_map]; lia), List.length_map, show k - bl.length = 0 by lia]; rfl
    rw [this]
    exact .done (by rw [List.take_of_length_le (by lia)])
  | n + 1, k, behind, hk, hb => by
    have hkl : k < bl.length := by lia
    have e : bl[k]? = some bl[k] := List.getElem?_eq_getElem hkl
    have q := hblk _ (List.getElem_mem hkl)
    have hd : (bl.map Prod.fst ++ [0]).getD k 0 = bl[k].1 := by
      rw [List.getD_eq_getElem?_getD, List.getElem?_append_left (by rw [List.length_map]; exact hkl), List.getElem?_map, e]; rfl
    obtain ⟨w1, w2'⟩ := wr k _ e
    have hbk := hb _ e
    rw [hd]
    refine .next (by (clear hd w1 w2' hbk; omega)) (by lia) (by lia) (by (clear hd w1 w2' hbk; omega)) (by lia) (by rw [w2']; lia) (by rw [w2']; (clear hk hd w1 w2'; omega)) ?_
    rw [w1, w2']
    have ht : bl.take k ++ [(bl[k].1, bl[k].2)] = bl.take (k + 1) := by rw [List.take_add_one, e]; rfl
    rw [ht]
    exact blk_from hblk h0 asc wr n (k + 1) _ (by lia) fun q' e' => asc_lt asc e e' (Nat.lt_succ_self _)
theorem Laid.wrs {number kind right cs b content plc bl lost} (h : Laid number kind right cs b content plc bl lost) (k : Nat) (q : Int × Int) (e : bl[k]? = some q) : w2 b q.1 = nextOf bl k ∧ w2 b (q.1 + 2) = q.2 := by
  have hr := h.wr k q e
  have hq := h.blk q (List.mem_of_getElem? e)
  have := h.ct0
  exact ⟨hr.left.tw' (by lia) (h.nn (k + 1)).1 (h.nn (k + 1)).2, (Rd.right (bs := Nv.tw (nextOf bl k)) hr).tw' (by rw [tw_len]; lia) (by lia) (by omega)⟩
theorem Laid.blocks {number kind right : Int} {cs b content plc bl lost} (hl : Laid number kind right cs b content plc bl lost) (h : Hd number kind right b content plc bl lost) : BLK b (w2 b (pbase number + 5)) (some bl) bl.length (w2 b (pbase number + 1)) 0 [] := by
  rw [h.c, h.f]
  have := hl.ct0
  exact blk_from hl.blk (by lia) hl.asc hl.wrs bl.length 0 0 (by lia) fun q e => by have := hl.blk q (List.mem_of_getElem? e); omega
theorem Laid.nbl {number kind right cs b content plc bl lost} (h : Laid number kind right cs b content plc bl lost) : bl.length ≤ 100 := by
  have key : ∀ (l : List (Int × Int)) (lo : Int), (∀ q ∈ l, lo ≤ q.1 ∧ 4 ≤ q.2 ∧ q.1 + q.2 ≤ 128) → l.Pairwise (fun p q => p.1 + p.2 ≤ q.1) → lo + 4 * l.length ≤ 128 ∨ l = [] := by
    intro l
    induction l with
    | nil => intro _ _ _; exact .inr rfl
    | cons x r ih =>
      intro lo hq hp
      left
      rw [List.pairwise_cons] at hp
      have hx := hq x (.head _)
      rcases ih (x.1 + x.2) (fun q hm => by have := hq q (List.mem_cons_of_mem _ hm); have := hp.1 q hm; lia) hp.2 with h1 | rfl
      · rw [List.length_cons]; lia
      · simp only [List.length_cons, List.length_nil]; lia
  rcases key bl content (fun q hq => by have := h.blk q hq; omega) h.asc with h1 | rfl
  · have := h.ct0; lia
  · simp
end Nv
end
section
open PySem PySem.W PySem.Calls PyProof.Rows PyProof.V PySem.Spec
namespace Nv
noncomputable def sub (b : List UInt8) (x : Nat) (bs : List UInt8) : List UInt8 := b.take x ++ bs ++ b.drop (x + bs.length)
theorem sub_len {b : List UInt8} {x : Nat} {bs : List UInt8} (h : x + bs.length ≤ b.length) : (sub b x bs).length = b.length := by
  unfold sub
  rw [List.length_append, List.length_append, List.length_take, List.length_drop]; lia
theorem sub_rd {b : List UInt8} {x : Nat} {bs : List UInt8} (h : x + bs.length ≤ b.length) : Rd (sub b x bs) x bs := fun j hj => by
  unfold sub
  have hl : (b.take x).length = x := by rw [List.length_take]; (clear hj; lia)
  rw [List.append_assoc, List.getElem?_append_right (by lia), hl, Nat.add_sub_cancel_left, List.getElem?_append_left hj, List.getD_eq_getElem?_getD, List.getElem?_eq_getElem hj]; rfl
theorem sub_by8 {b : List UInt8} {x : Nat} {bs : List UInt8} (h : x + bs.length ≤ b.length) {i : Int} (h0 : 0 ≤ i) (hi : i < x ∨ (x : Int) + bs.length ≤ i) : by8 (sub b x bs) i = by8 b i := by
  have hl : (b.take x).length = x := by rw [List.length_take]; lia
  have key : (sub b x bs)[i.toNat]? = b[i.toNat]? := by
    unfold sub
    rcases hi with hi | hi
    · rw [List.append_assoc, List.getElem?_append_left (by lia), List.getElem?_take, if_pos (by lia)]
    · rw [List.getElem?_append_right (by rw [List.length_append]; (clear h0; lia)), List.length_append, hl, List.getElem?_drop]
      congr 1
      (clear h; omega)
  unfold by8
  rw [List.getD_eq_getElem?_getD, List.getD_eq_getElem?_getD, key]
theorem sub_w2 {b : List UInt8} {x : Nat} {bs : List UInt8} (h : x + bs.length ≤ b.length) {i : Int} (h0 : 0 ≤ i) (hi : i + 2 ≤ x ∨ (x : Int) + bs.length ≤ i) : w2 (sub b x bs) i = w2 b i := by
  unfold w2
  rw [sub_by8 h h0 (by lia), sub_by8 h (by lia) (by lia)]
theorem sub_ptr {b : List UInt8} {x : Nat} {bs : List UInt8} {number : Int} (h : x + bs.length ≤ b.length) (hi : pbase number + 5 ≤ x) : knd (sub b x bs) number = knd b number ∧ cnt (sub b x bs) number = cnt b number ∧ ptr (sub b x bs) number = ptr b number := by
  have hb := pbase_le number
  have hk : by8 (sub b x bs) (pbase number) = by8 b (pbase number) := sub_by8 h hb.1 (.inl (by lia))
  refine ⟨hk, sub_w2 h (by lia) (.inl (by lia)), ?_⟩
  unfold ptr
  rw [hk]
theorem blk_spoilt {b' : List UInt8} {ct : Int} {bl : List (Int × Int)} (hblk : ∀ q ∈ bl, ct ≤ q.1 ∧ 4 ≤ q.2 ∧ q.2 ≤ 7 ∧ q.1 + q.2 ≤ 128) (h0 : 0 < ct) (asc : bl.Pairwise fun p q => p.1 + p.2 ≤ q.1)
    {k : Nat} {q : Int × Int} (ek : bl[k]? = some q) (wr : ∀ (j : Nat) (q : Int × Int), j < k → bl[j]? = some q → w2 b' q.1 = nextOf bl j ∧ w2 b' (q.1 + 2) = q.2)
    (hk : ∀ behind acc, behind ≤ q.1 → BLK b' ct none 2 q.1 behind acc) :
    ∀ (n j : Nat) (behind : Int), j + n = k → (∀ q, bl[j]? = some q → behind ≤ q.1) → BLK b' ct none (n + 2) ((bl.map Prod.fst ++ [0]).getD j 0) behind (bl.take j)
  | 0, j, behind, hj, hb => by
    obtain rfl : j = k := by assumption
    have hl := (List.getElem?_eq_some_iff.mp ek).1
    have hd : (bl.map Prod.fst ++ [0]).getD j 0 = q.1 := by
      rw [List.getD_eq_getElem?_getD, List.getElem?_append_left (by rw [List.length_map]; exact hl), List.getElem?_map, ek]; rfl
    rw [hd]
    exact hk _ _ (hb _ ek)
  | n + 1, j, behind, hj, hb => by
    have hl := (List.getElem?_eq_some_iff.mp ek).1
    have hjl : j < bl.length := by lia
    have e : bl[j]? = some bl[j] := List.getElem?_eq_getElem hjl
    have q' := hblk _ (List.getElem_mem hjl)
    have hd : (bl.map Prod.fst ++ [0]).getD j 0 = bl[j].1 := by
      rw [List.getD_eq_getElem?_getD, List.getElem?_append_left (by rw [List.length_map]; exact hjl), List.getElem?_map, e]; rfl
    obtain ⟨w1, w2'⟩ := wr j _ (by lia) e
    have hbk := hb _ e
    rw [hd]
    refine .next (by (clear hj hd w1 w2' hbk; omega)) (by lia) (by lia) (by (clear hj hd w1 w2' hbk; omega)) (by lia) (by rw [w2']; lia) (by rw [w2']; (clear hj hl hd w1 w2'; omega)) ?_
    rw [w1, w2']
    have ht : bl.take j ++ [(bl[j].1, bl[j].2)] = bl.take (j + 1) := by rw [List.take_add_one, e]; rfl
    rw [ht]
    exact blk_spoilt hblk h0 asc ek wr hk n (j + 1) _ (by lia) fun q' e' => asc_lt asc e e' (Nat.lt_succ_self _)
theorem Laid.bentFirst {number kind right : Int} {cs b content plc bl lost} (hl : Laid number kind right cs b content plc bl lost) (h : Hd number kind right b content plc bl lost) {y : Int} {B : Nat} (hB : pbase number = B) (y0 : 0 < y) (y1 : y < 65536) (hy : y < content ∨ 128 < y + 4) :
    BLK (sub b (B + 1) (tw y)) (w2 (sub b (B + 1) (tw y)) (pbase number + 5)) none 1 (w2 (sub b (B + 1) (tw y)) (pbase number + 1)) 0 [] := by
  have hb := pbase_le number
  have hs : B + 1 + (tw y).length ≤ b.length := by rw [tw_len, hl.len]; lia
  rw [sub_w2 hs (by lia) (.inr (by rw [tw_len]; lia)), h.c, (sub_rd hs).tw' (by lia) (by lia) y1]
  exact .bad1 (by lia) (by lia) rfl
theorem Laid.spoilt {number kind right : Int} {cs b content plc bl lost} (hl : Laid number kind right cs b content plc bl lost) (h : Hd number kind right b content plc bl lost) {k : Nat} {q : Int × Int} (ek : bl[k]? = some q) {f o : Int}
    (hfo : (f = q.1 ∧ o = q.2) ∨ (f = 0 ∧ o = 3) ∨ (f = 0 ∧ o = 129 - q.1)) :
    ∃ n, n ≤ 100 ∧ BLK (sub b q.1.toNat (tw f ++ tw o)) (w2 (sub b q.1.toNat (tw f ++ tw o)) (pbase number + 5)) none n (w2 (sub b q.1.toNat (tw f ++ tw o)) (pbase number + 1)) 0 [] := by
  have hb := pbase_le number
  have hq := hl.blk q (List.mem_of_getElem? ek)
  have c0 := hl.ct0
  have hl4 : (tw f ++ tw o).length = 4 := rfl
  have hs : q.1.toNat + (tw f ++ tw o).length ≤ b.length := by rw [hl4, hl.len]; (clear hfo; lia)
  have hrd := sub_rd hs
  have w1 : w2 (sub b q.1.toNat (tw f ++ tw o)) q.1 = f := hrd.left.tw' (by (clear hfo; lia)) (by lia) (by lia)
  have w2' : w2 (sub b q.1.toNat (tw f ++ tw o)) (q.1 + 2) = o := (Rd.right (bs := tw f) hrd).tw' (by rw [tw_len]; lia) (by lia) (by (clear hl4 hs w1; omega))
  rw [sub_w2 hs (by lia) (.inl (by omega)), sub_w2 hs (by lia) (.inl (by omega)), h.c, h.f]
  have hnb := hl.nbl
  have hkl := (List.getElem?_eq_some_iff.mp ek).1
  by_cases hk98 : k + 2 ≤ 100
  · refine ⟨k + 2, hk98, blk_spoilt hl.blk (by lia) hl.asc ek (fun j q' hj e' => ?_) (fun behind acc hbh => ?_) k 0 0 (by lia) fun q e => by have := hl.blk q (List.mem_of_getElem? e); lia⟩
    · obtain ⟨z1, z2⟩ := hl.wrs j q' e'
      have hq' := hl.blk q' (List.mem_of_getElem? e')
      have := asc_lt hl.asc e' ek hj
      rw [sub_w2 hs (by lia) (.inl (by (clear hfo hq w2' z1 z2; lia))), sub_w2 hs (by lia) (.inl (by (clear hfo hq w2' z1 z2; lia)))]
      exact ⟨z1, z2⟩
    · rcases hfo with ⟨rfl, rfl⟩ | ⟨rfl, rfl⟩ | ⟨rfl, rfl⟩
      · refine .next (by (clear hb hnb hkl hk98 hl4 hs w1 w2'; omega)) (by (clear hq; lia)) (by lia) (by (clear hb hnb hkl hk98 hl4 hs w1 w2'; omega)) (by lia) (by rw [w2']; lia) (by rw [w2']; (clear hb hnb hkl hbh hl4 hs w1 w2'; omega)) ?_
        rw [w1, w2']
        exact .bad1 (by (clear hb hnb hkl hk98 hs w1 w2'; omega)) (.inl (by lia)) rfl
      · exact .bad2 (by (clear hb hnb hkl hk98 hs w1 w2'; omega)) (by lia) (by lia) (by (clear hb hnb hkl hk98 hs w1 w2'; omega)) (by lia) (.inl (by rw [w2']; decide)) rfl
      · exact .bad2 (by (clear hb hnb hkl hk98 hs w1 w2'; omega)) (by lia) (by lia) (by (clear hb hnb hkl hk98 hs w1 w2'; omega)) (by lia) (.inr (by rw [w2']; lia)) rfl
  · exfalso
    have key : ∀ (l : List (Int × Int)) (lo : Int), (∀ q ∈ l, lo ≤ q.1 ∧ 4 ≤ q.2 ∧ q.1 + q.2 ≤ 128) → l.Pairwise (fun p q => p.1 + p.2 ≤ q.1) → lo + 4 * l.length ≤ 128 ∨ l = [] := by
      intro l
      induction l with
      | nil => intro _ _ _; exact .inr rfl
      | cons x r ih =>
        intro lo hq hp
        left
        rw [List.pairwise_cons] at hp
        have hx := hq x (.head _)
        rcases ih (x.1 + x.2) (fun q hm => by have := hq q (List.mem_cons_of_mem _ hm); have := hp.1 q hm; (clear hfo; lia)) hp.2 with h1 | rfl
        · rw [List.length_cons]; lia
        · simp only [List.length_cons, List.length_nil]; lia
    rcases key bl content (fun q hq => by have := hl.blk q hq; (clear hl4 hs w1 w2' hnb hkl hk98; omega)) hl.asc with h1 | rfl
    · lia
    · simp at hkl
end Nv
end
section
open PySem PySem.W PySem.Calls PyProof.Rows PyProof.V PySem.Spec
namespace Nv
section
variable {c : Cx} {σ : List AO} {m : Nm} {K : PV → List AO → Prop} {X : List AO → Prop} {scope : Scope} {cl : List (Str × Addr)} {ce : List (Str × Nat)} {elt : Expr} {ifs : List Expr} {x : Str} {p : Pos} {KQ : List PV → List AO → Prop}
theorem WQ_mapN {α : Type} {k : Nat} {xs : List α} {g : α → PV} (f : α → PV) (e : σ[k]? = some (.list (xs.map g))) (hsz : xs.length ≤ 1000) (hx : scope.names.lookup x = some .local)
    (hstep : ∀ a σ' C, a ∈ xs → Ex σ σ' → WE (c.comp scope cl C ce [(x, g a)]) elt σ' m (fun y σ3 => y = f a ∧ Ex σ σ3) (fun _ => False)) (hend : ∀ σ', Ex σ σ' → KQ (xs.map f) σ') : WQ c scope cl ce elt (.Name x p) [] (.loc k) σ m KQ := by
  have hl : (xs.map g).length = xs.length := List.length_map _
  refine WQ_list e (by lia) hx (fun i ys σ' => ys = (xs.take i).map f ∧ Ex σ σ') ⟨by simp, ExB.refl _ _⟩ (fun i ys σ' hI => hI.2.get e) (fun i pv ys σ' C hi ⟨e1, e2⟩ => ?_) fun ys σ' ⟨e1, e2⟩ => by rw [e1, hl, List.take_length]; exact hend σ' e2
  rw [List.getElem?_map] at hi
  obtain ⟨a, ha, rfl⟩ := Option.map_eq_some_iff.mp hi
  refine (hstep a σ' C (List.mem_of_getElem? ha) e2).mono fun y σ3 ⟨h1, h2⟩ => ⟨?_, h2⟩
  rw [e1, h1, List.take_add_one, ha, List.map_append]; rfl
theorem WQ_mapT {α : Type} {k : Nat} {xs : List α} {elts : List Expr} {kk : Nat} {names : List Str} (g : α → List PV) (f : α → PV) (e : σ[k]? = some (.list (xs.map fun a => .tup (g a)))) (hsz : xs.length ≤ 1000) (hxs : tgtNames elts = some names) (hx : ∀ x ∈ names, scope.names.lookup x = some .local) (hlen : ∀ a, names.length = (g a).length)
    (hstep : ∀ a σ' C, a ∈ xs → Ex σ σ' → WE (c.comp scope cl C ce (names.zip (g a)).reverse) elt σ' m (fun y σ3 => y = f a ∧ Ex σ σ3) (fun _ => False)) (hend : ∀ σ', Ex σ σ' → KQ (xs.map f) σ') : WQ c scope cl ce elt (.Tuple elts kk p) [] (.loc k) σ m KQ := by
  have hl : (xs.map fun a => PV.tup (g a)).length = xs.length := List.length_map _
  refine WQ_listT e (by lia) hxs hx (fun pv hpv => by obtain ⟨a, _, rfl⟩ := List.mem_map.mp hpv; exact ⟨_, rfl, hlen a⟩) (fun i ys σ' => ys = (xs.take i).map f ∧ Ex σ σ') ⟨by simp, ExB.refl _ _⟩ (fun i ys σ' hI => hI.2.get e) (fun i li ys σ' C hi ⟨e1, e2⟩ => ?_) fun ys σ' ⟨e1, e2⟩ => by rw [e1, hl, List.take_length]; exact hend σ' e2
  rw [List.getElem?_map] at hi
  obtain ⟨a, ha, hli⟩ := Option.map_eq_some_iff.mp hi
  cases hli
  refine (hstep a σ' C (List.mem_of_getElem? ha) e2).mono fun y σ3 ⟨h1, h2⟩ => ⟨?_, h2⟩
  rw [e1, h1, List.take_add_one, ha, List.map_append]; rfl
end
structure LSt (σ : List AO) (number kind right ct : Int) (kc : Nat) (m' : Nm) (σ' : List AO) (pl plc : List Int) (bl : List (Int × Int)) (lost : Int) (kpg kpl kb : Nat) : Prop where
  n1 : lkN m' "number" = some (.int number)
  n2 : lkN m' "kind" = some (.int kind)
  n3 : lkN m' "cells" = some (.loc kc)
  n4 : lkN m' "right" = some (.int right)
  n5 : lkN m' "content" = some (.int ct)
  n6 : lkN m' "page" = some (.loc kpg)
  n7 : lkN m' "places" = some (.loc kpl)
  n8 : lkN m' "blocks" = some (.loc kb)
  n9 : lkN m' "lost" = some (.int lost)
  ex : Ex σ σ'
  k1 : σ.length ≤ kpg
  k2 : σ.length ≤ kpl
  k3 : σ.length ≤ kb
  d1 : kpg ≠ kpl
  d2 : kpg ≠ kb
  d3 : kpl ≠ kb
  e1 : σ'[kpg]? = some (.list (pl.map .int))
  e2 : σ'[kpl]? = some (.list (plc.map .int))
  e3 : σ'[kb]? = some (.list (bl.map pairPV))
inductive LI1 (σ : List AO) (number kind right ct : Int) (kc : Nat) (cs : List CD) (ps : List (Option Nat × Nat)) (i : Nat) (m' : Nm) (σ' : List AO) : Prop
  | mk (pl plc : List Int) (bl : List (Int × Int)) (lost a : Int) (kpg kpl kb : Nat) (st : LSt σ number kind right ct kc m' σ' pl plc bl lost kpg kpl kb) (ha : lkN m' "at" = some (.int a)) (h1 : L1 cs ps ct i pl plc bl lost a) : LI1 σ number kind right ct kc cs ps i m' σ'
inductive LI2 (σ : List AO) (number kind right ct : Int) (kc : Nat) (cs : List CD) (plc : List Int) (bl : List (Int × Int)) (lost : Int) (kpg kpl kb : Nat) (k : Nat) (m' : Nm) (σ' : List AO) : Prop
  | mk (pl : List Int) (kch : Nat) (st : LSt σ number kind right ct kc m' σ' pl plc bl lost kpg kpl kb) (hc : lkN m' "chain" = some (.loc kch)) (hn : kch ≠ kpg) (e : σ'[kch]? = some (.list ((bl.map Prod.fst ++ [0]).map PV.int))) (h2 : L2 cs ct plc bl k pl) : LI2 σ number kind right ct kc cs plc bl lost kpg kpl kb k m' σ'
section
variable {c : Cx} {σ : List AO} {m : Nm} {K : PV → List AO → Prop} {Kn : Nm → List AO → Prop} {Kr : PV → List AO → Prop} {X : List AO → Prop}
theorem ct_laid (std : c.Std GG) (room : Room c 4) {kc kp : Nat} {number kind right : Int} {cs : List CD} {ps : List (Option Nat × Nat)} (ec : σ[kc]? = some (.list (cs.map CD.pv))) (ep : σ[kp]? = some (.list (ps.map partPV))) (hcs : cs.length ≤ 3) (pk : PartsOk cs ps)
    (hk0 : 0 ≤ kind) (hk1 : kind < 256) (hr0 : 0 ≤ right) (hr1 : right < 65536)
    (h : ∀ σ' b content plc bl lost kpl kb, Laid number kind right cs b content plc bl lost → Ex σ σ' → σ'[kpl]? = some (.list (plc.map .int)) → σ'[kb]? = some (.list (bl.map pairPV)) → σ.length ≤ kpl ∧ σ.length ≤ kb → K (.tup [.bytes b, .int content, .loc kpl, .loc kb, .int lost]) σ') :
    WC c (.ref 375) [.int number, .int kind, .loc kc, .int right, .loc kp] σ m K X := by
  refine WCo.wc <| WCo_def (names := ["number", "kind", "cells", "right", "parts"]) std room (fun _ => rfl) (fun _ => rfl) (fun _ _ _ _ _ => rfl) rfl rfl (by decide) rfl rfl rfl ?_
  intro P ok rm
  have hlp : (ps.map partPV).length = ps.length := List.length_map _
  have hlc : (cs.map CD.pv).length = cs.length := List.length_map _
  have hsum := pk.sum
  have hnum := pk.num
  refine WS_cons ?_
  (refine WS1_asgS ?_; refine WE_vx (unstop ?_); refine WE_call ?_; refine WE_nm rfl (unstop ?_); refine ⟨_, rfl, rfl, ?_⟩; refine WL_cons ?_)
  refine WE_comp rfl rfl .nil ?_
  refine WE_loc rfl rfl rfl ?_
  refine WQ_mapT (names := ["spot", "size"]) (xs := ps) (fun p => [spotPV p.1, .int p.2]) (fun p => PV.int (p.2 : Int)) ep (by lia) rfl (by decide) (fun _ => rfl) (fun p σ' C hp hI => ?_) (fun σ1 ex1 => ?_)
  · refine WE_cns rfl rfl rfl ?_
    (repeat refine unstop ?_); exact ⟨rfl, hI⟩
  have hps : (ps.map fun p => (p.2 : Int)).sum = (psum ps : Int) := by
    unfold psum
    clear ep pk hlp hsum hnum
    induction ps with
    | nil => rfl
    | cons p r ih => rw [List.map_cons, List.map_cons, List.sum_cons, List.sum_cons, ih]; lia
  refine WL_nil ?_
  refine WC_sum (ns := ps.map fun p => (p.2 : Int)) (by rw [List.map_map]; exact lk_last) ?_
  rw [hps]
  (refine unstop ?_; refine WO_mulL (by exact lk_last) (by decide) (by decide) ?_; refine unstop ?_; refine ⟨_, rfl, rfl, ?_⟩; refine WAn_cons ?_; refine WN_loc rfl rfl ?_; refine WAn_cons ?_; refine WN_loc rfl rfl ?_; refine WAn_nil ?_)
  refine WS_cons ?_
  (refine WS1_asgT ?_; refine WE_vx (unstop ?_); refine WC_lenL (by refine lk_app ?_; refine lk_app ?_; refine lk_app ?_; refine lk_app ?_; refine Ex.get (by assumption) ?_; assumption) (by lia) ?_; refine unstop ?_; refine WO_mulL (by exact lk_last) (by clear hcs hsum hnum; lia) (by lia) ?_; refine unstop ?_; refine ⟨_, rfl, rfl, ?_⟩; refine WA_cons ?_; refine WN_loc rfl rfl ?_; refine WA_cons ?_; refine WN_loc rfl rfl ?_; refine WA_cons ?_; refine WN_loc rfl rfl ?_; refine WA_cons ?_; refine WN_loc rfl rfl ?_; refine WA_nil ?_)
  have hq1 : (List.replicate (128 : Int).toNat (PV.int 170)) = (List.replicate 128 (170 : Int)).map PV.int := by rw [List.map_replicate]; rfl
  have hq2 : (List.replicate ((cs.map CD.pv).length : Int).toNat (PV.int 0)) = (List.replicate cs.length (0 : Int)).map PV.int := by rw [List.map_replicate, Int.toNat_natCast, hlc]
  rw [hq1, hq2]
  clear hq1 hq2
  refine WS_cons ?_
  (refine WS1_for ?_; refine WE_loc rfl rfl rfl ?_)
  refine WI_list (l := ps.map partPV) rfl (LI1 σ number kind right (128 - psum ps) kc cs ps) ?_ ?_ ?_ ?_
  · (repeat refine unstop ?_); refine ⟨_, _, _, _, _, _, _, _, ⟨rfl, rfl, rfl, rfl, rfl, rfl, rfl, rfl, rfl, ?_, ?_, ?_, ?_, ?_, ?_, ?_, ?_, ?_, ?_⟩, rfl, L1.start _⟩
    · (refine ExB.trans ?_ (ExB.app _ _ _); refine ExB.trans ?_ (ExB.app _ _ _); refine ExB.trans ?_ (ExB.app _ _ _); refine ExB.trans ?_ (ExB.app _ _ _); refine ExB.trans ?_ (ExB.app _ _ _); refine ExB.trans ?_ (ExB.app _ _ _); assumption)
    all_goals first
      | (first | (refine lk_app ?_; refine lk_app ?_; refine lk_app ?_; exact lk_last) | (refine lk_app ?_; exact lk_last) | (exact lk_last))
      | (have := ex1.1; simp only [List.length_append, List.length_cons, List.length_nil]; lia)
  · rintro i m' σ' ⟨pl, plc, bl, lost, a, kpg, kpl, kb, st, ha, h1⟩
    exact st.ex.get ep
  · rintro i pv m' σ' hi ⟨pl, plc, bl, lost, a, kpg, kpl, kb, st, ha, h1⟩
    rw [List.getElem?_map] at hi
    obtain ⟨⟨s, z⟩, hps', rfl⟩ := Option.map_eq_some_iff.mp hi
    obtain ⟨n1, n2, n3, n4, n5, n6, n7, n8, n9, ex, k1, k2, k3, d1, d2, d3, e1, e2, e3⟩ := st
    have hwk := Wk.cons n1 (Wk.cons n2 (Wk.cons n3 (Wk.cons n4 (Wk.cons n5 (Wk.cons n6 (Wk.cons n7 (Wk.cons n8 (Wk.cons n9 (Wk.cons ha (Wk.nil m'))))))))))
    have hmem := List.mem_of_getElem? hps'
    have hil : i < ps.length := (List.getElem?_eq_some_iff.mp hps').1
    have hz := psum_take hps'
    have hz2 := psum_le (ps := ps) (i + 1)
    have ha1 := h1.at'
    cases s with
    | none =>
      refine WTg.wk hwk (WTg_tup (l := [.none, .int z]) rfl ?_)
      (refine WA_cons ?_; refine WN_loc rfl rfl ?_; refine WA_cons ?_; refine WN_loc rfl rfl ?_; refine WA_nil ?_; refine WS_vb (unstop ?_))
      have hz7 := (pk.size _ hmem).2 rfl
      simp only at hz7
      have hnb := h1.nb
      have hbl : (bl.map pairPV).length = bl.length := List.length_map _
      refine WO_isnot (b := false) rfl ?_
      (refine unstop ?_; refine mff rfl ?_; refine WS_vb (unstop ?_))
      refine mdec (fun _ => ?_) (fun _ => ?_) <;> (first | (refine WS_vb (unstop ?_); refine WE_meth ?_; refine WE_loc rfl rfl rfl ?_; refine WM_append (by assumption) ?_; refine ⟨rfl, ?_⟩; refine WL_vl rfl (unstop ?_); refine WC_append (by assumption) (by lia) ?_; refine unstop ?_) | (refine WS_vb (unstop ?_)))
      · rename_i hb
        (repeat refine unstop ?_); refine ⟨pl, plc, bl ++ [(a, (z : Int))], lost, a + z, kpg, kpl, kb, ⟨rfl, rfl, rfl, rfl, rfl, rfl, rfl, rfl, rfl, ex.setNew k3, k1, k2, k3, d1, d2, d3, by (refine lk_set_ne (by clear k3; lia) ?_; assumption), by (refine lk_set_ne (by lia) ?_; assumption), ?_⟩, rfl, h1.block hps' (by lia) hz7⟩
        rw [List.map_append]
        exact lk_set (by exact lt_of_lk (by assumption))
      · rename_i hb
        (repeat refine unstop ?_); exact ⟨pl, plc, bl, lost + z, a + z, kpg, kpl, kb, ⟨rfl, rfl, rfl, rfl, rfl, rfl, rfl, rfl, rfl, ex, k1, k2, k3, d1, d2, d3, e1, e2, e3⟩, rfl, h1.gap hps' (by lia)⟩
    | some j =>
      refine WTg.wk hwk (WTg_tup (l := [.int j, .int z]) rfl ?_)
      (refine WA_cons ?_; refine WN_loc rfl rfl ?_; refine WA_cons ?_; refine WN_loc rfl rfl ?_; refine WA_nil ?_; refine WS_vb (unstop ?_))
      obtain ⟨cj, hcj, hzj⟩ := (pk.size _ hmem).1 j rfl
      simp only at hzj
      have hjl := (List.getElem?_eq_some_iff.mp hcj).1
      have hcget : (cs.map CD.pv)[((j : Int)).toNat]? = some cj.pv := by rw [Int.toNat_natCast, List.getElem?_map, hcj]; rfl
      have hpn := h1.n
      have hpc : (plc.map PV.int).length = cs.length := by rw [List.length_map, h1.nc]
      have ec' : σ'[kc]? = some (.list (cs.map CD.pv)) := ex.get ec
      refine WO_isnot (b := true) rfl ?_
      (refine unstop ?_; refine mtt rfl ?_; refine WS_vb (unstop ?_))
      refine WG_list (by assumption) (by lia) (by lia) hcget ?_
      refine unstop ?_
      refine WG_tup (by decide) (by decide) rfl ?_
      refine unstop ?_
      refine ct_put (Gl.at_std ..) (rm.mono (by decide)) e1 (by lia) (by lia) (by lia) fun σ2 ex2 e2' => ?_
      refine unstop ?_
      refine WS1_asgI' ?_
      refine WE_loc rfl rfl rfl ?_
      refine WE_loc rfl rfl rfl ?_
      refine WE_loc rfl rfl rfl ?_
      refine WSI_intro (l := plc.map .int) (by (refine ExB.get (by assumption) (by simp only [List.mem_cons, List.not_mem_nil, or_false, not_or, not_false_eq_true]; lia) ?_; assumption)) (by lia) (by lia) (by lia) ?_
      refine unstop ?_
      (repeat refine unstop ?_); refine ⟨_, _, bl, lost, a + z, kpg, kpl, kb, ⟨rfl, rfl, rfl, rfl, rfl, rfl, rfl, rfl, rfl, ?_, k1, k2, k3, d1, d2, d3, by (refine lk_set_ne (by lia) ?_; assumption), ?_, by (refine lk_set_ne (by assumption) ?_; refine ExB.get (by assumption) (by simp only [List.mem_cons, List.not_mem_nil, or_false, not_or, not_false_eq_true]; lia) ?_; assumption)⟩, rfl, h1.cell pk (by lia) hps' hcj (by lia) hzj⟩
      · refine ExB.setNew ⟨Nat.le_trans ex.1 ex2.1, fun n ao hn e => ?_⟩ k2
        exact ex2.get (by have := lt_of_lk e; simp; lia) (ex.get e)
      · rw [List.map_set]
        exact lk_set (by (refine lt_ex (by assumption) ?_; exact lt_of_lk (by assumption)))
  rintro m' σ' ⟨pl, plc, bl, lost, a, kpg, kpl, kb, st, ha, h1⟩
  have hl0 := h1.lost0
  have hl1 := h1.lost1
  have hbn := h1.nb
  rw [hlp] at h1 hl1 hbn
  have hnc := h1.nc
  have h2 := h1.done pk (by lia)
  clear h1 ha hps
  obtain ⟨n1, n2, n3, n4, n5, n6, n7, n8, n9, ex, k1, k2, k3, d1, d2, d3, e1, e2, e3⟩ := st
  refine WS.wk (Wk.cons n1 (Wk.cons n2 (Wk.cons n3 (Wk.cons n4 (Wk.cons n5 (Wk.cons n6 (Wk.cons n7 (Wk.cons n8 (Wk.cons n9 (Wk.nil m')))))))))) ?_
  refine WS_cons ?_
  refine vS_ok (unstop ?_)
  refine WE_comp rfl rfl .nil ?_
  refine WE_loc rfl rfl rfl ?_
  refine WQ_mapT (names := ["place", "size"]) (xs := bl) (fun q => [.int q.1, .int q.2]) (fun q => PV.int q.1) e3 (by lia) rfl (by decide) (fun _ => rfl) (fun q σ'' C hp hI => ?_) (fun σ2 ex2 => ?_)
  · refine WE_cns rfl rfl rfl ?_
    (repeat refine unstop ?_); exact ⟨rfl, hI⟩
  have hch : bl.map (fun q => PV.int q.1) ++ [PV.int 0] = (bl.map Prod.fst ++ [0]).map PV.int := by rw [List.map_append, List.map_map]; rfl
  have hbl : (bl.map pairPV).length = bl.length := List.length_map _
  have hbl2 : (bl.map (fun q => PV.int q.1)).length = bl.length := List.length_map _
  (refine unstop ?_; refine WO_addL (by refine lk_app ?_; exact lk_last) (by exact lk_last) (by simp only [List.length_cons, List.length_nil, List.length_set, List.length_map, List.length_append, List.length_range, List.length_replicate]; lia) ?_; refine unstop ?_)
  rw [hch]
  refine WS_cons ?_
  (refine WS1_for ?_; refine WE_vcall rfl (unstop ?_); refine WC_lenL (by refine lk_app ?_; refine lk_app ?_; refine lk_app ?_; refine Ex.get (by assumption) ?_; assumption) (by lia) ?_; refine unstop ?_; refine WC_range1 ?_; refine unstop ?_)
  have hnext : ∀ k, 0 ≤ (bl.map Prod.fst ++ [0]).getD k 0 ∧ (bl.map Prod.fst ++ [0]).getD k 0 < 65536 := fun k => by
    rw [List.getD_eq_getElem?_getD]
    cases e : (bl.map Prod.fst ++ [0])[k]? with
    | none => exact ⟨by decide, by decide⟩
    | some x =>
      have hm := List.mem_of_getElem? e
      rcases List.mem_append.mp hm with hm | hm
      · obtain ⟨q, hq, rfl⟩ := List.mem_map.mp hm
        have := h2.blk q hq
        show 0 ≤ q.1 ∧ q.1 < 65536
        lia
      · rw [List.mem_singleton.mp hm]; exact ⟨by decide, by decide⟩
  have hlen : (bl.map Prod.fst ++ [0]).length = bl.length + 1 := by rw [List.length_append, List.length_map]; rfl
  have hget : ∀ k, k ≤ bl.length → ((bl.map Prod.fst ++ [0]).map PV.int)[k]? = some (.int ((bl.map Prod.fst ++ [0]).getD k 0)) := fun k hk => by
    rw [List.getElem?_map, List.getD_eq_getElem?_getD, List.getElem?_eq_getElem (by lia)]; rfl
  refine WI_range (n := bl.length) (.inl (by lia)) (by decide) (by lia) rfl (LI2 σ number kind right (128 - psum ps) kc cs plc bl lost kpg kpl kb) ?_ ?_ ?_
  · have xl := ex2.1
    have x1 := lt_of_lk e1
    (repeat refine unstop ?_); refine ⟨pl, _, ⟨rfl, rfl, rfl, rfl, rfl, rfl, rfl, rfl, rfl, ?_, k1, k2, k3, d1, d2, d3, by (refine lk_app ?_; refine lk_app ?_; refine lk_app ?_; refine Ex.get (by assumption) ?_; assumption), by (refine lk_app ?_; refine lk_app ?_; refine lk_app ?_; refine Ex.get (by assumption) ?_; assumption), by (refine lk_app ?_; refine lk_app ?_; refine lk_app ?_; refine Ex.get (by assumption) ?_; assumption)⟩, rfl, ?_, lk_last, h2⟩
    · exact ex.trans (ex2.trans ((ExB.app _ _ _).trans ((ExB.app _ _ _).trans (ExB.app _ _ _))))
    · simp only [List.length_append, List.length_cons, List.length_nil]; lia
  · clear n1 n2 n3 n4 n5 n6 n7 n8 n9 ex k1 k2 k3 d1 d2 d3 e1 e2 e3 ex2 h2
    rintro k m' σ' hk ⟨pl, kch, ⟨n1, n2, n3, n4, n5, n6, n7, n8, n9, ex, k1, k2, k3, d1, d2, d3, e1, e2, e3⟩, hch1, hch2, hch3, h2⟩
    have hwk := Wk.cons n1 (Wk.cons n2 (Wk.cons n3 (Wk.cons n4 (Wk.cons n5 (Wk.cons n6 (Wk.cons n7 (Wk.cons n8 (Wk.cons n9 (Wk.cons hch1 (Wk.nil m'))))))))))
    have hbk : bl[k]? = some bl[k] := List.getElem?_eq_getElem hk
    have hq := h2.blk _ (List.getElem_mem hk)
    have hpn := h2.n
    have hd : (bl.map Prod.fst ++ [0]).getD k 0 = bl[k].1 := by
      rw [List.getD_eq_getElem?_getD, List.getElem?_append_left (by rw [List.length_map]; exact hk), List.getElem?_map, hbk]; rfl
    (refine WTg.wk (by assumption) ?_; refine WTg_name ?_; refine WN_loc rfl rfl ?_; refine WS_vb (unstop ?_))
    refine WG_list (l := (bl.map Prod.fst ++ [0]).map PV.int) (by assumption) (by lia) (by lia) (by rw [show (0 + (k : Int)).toNat = k by lia]; exact hget k (by lia)) ?_
    refine unstop ?_
    refine WG_list (l := (bl.map Prod.fst ++ [0]).map PV.int) (by assumption) (by lia) (by lia) (by rw [show (0 + (k : Int) + 1).toNat = k + 1 by lia]; exact hget (k + 1) (by assumption)) ?_
    refine unstop ?_
    refine ct_two (Gl.at_std ..) (rm.mono (by decide)) (hnext (k + 1)).1 (hnext (k + 1)).2 fun σ3 ex3 => ?_
    refine unstop ?_
    refine WG_list (l := bl.map pairPV) (by (refine Ex.get (by assumption) ?_; assumption)) (by lia) (by lia) (by rw [show (0 + (k : Int)).toNat = k by lia, List.getElem?_map, hbk]; rfl) ?_
    refine unstop ?_
    refine WG_tup (by decide) (by decide) rfl ?_
    refine unstop ?_
    refine ct_two (Gl.at_std ..) (rm.mono (by decide)) (by lia) (by (clear hcs hr0 hr1 hlp hlc hsum hnum hl0 hl1 hbn hnc hbl hbl2 hlen k1 k2 k3 hpn hd; omega)) fun σ4 ex4 => ?_
    refine unstop ?_
    refine WO_addB (Nat.le_of_ble_eq_true rfl) ?_
    refine unstop ?_
    rw [hd]
    have e4 : σ4[kpg]? = some (.list (pl.map .int)) := ex4.get (ex3.get e1)
    have hl4 : (tw ((bl.map Prod.fst ++ [0]).getD (k + 1) 0) ++ tw bl[k].2).length = 4 := rfl
    refine ct_put (Gl.at_std ..) (rm.mono (by decide)) e4 (by lia) (by lia) (by lia) fun σ5 ex5 e5 => ?_
    refine unstop ?_
    (repeat refine unstop ?_); refine ⟨_, kch, ⟨rfl, rfl, rfl, rfl, rfl, rfl, rfl, rfl, rfl, ?_, k1, k2, k3, d1, d2, d3, e5, by (refine ExB.get (by assumption) (by simp only [List.mem_cons, List.not_mem_nil, or_false, not_or, not_false_eq_true]; lia) ?_; refine Ex.get (by assumption) ?_; refine Ex.get (by assumption) ?_; assumption), by (refine ExB.get (by assumption) (by simp only [List.mem_cons, List.not_mem_nil, or_false, not_or, not_false_eq_true]; lia) ?_; refine Ex.get (by assumption) ?_; refine Ex.get (by assumption) ?_; assumption)⟩, rfl, hch2, by (refine ExB.get (by assumption) (by simp only [List.mem_cons, List.not_mem_nil, or_false, not_or, not_false_eq_true]; assumption) ?_; refine Ex.get (by assumption) ?_; refine Ex.get (by assumption) ?_; assumption), h2.step (by lia) hbk⟩
    (repeat refine unstop ?_); refine ⟨Nat.le_trans ex.1 (Nat.le_trans ex3.1 (Nat.le_trans ex4.1 ex5.1)), fun n ao hn e => ?_⟩
    exact ex5.get (by have := lt_of_lk e; simp; lia) (ex4.get (ex3.get (ex.get e)))
  clear n1 n2 n3 n4 n5 n6 n7 n8 n9 ex k1 k2 k3 d1 d2 d3 e1 e2 e3 ex2 h2
  rintro m' σ' ⟨pl, kch, ⟨n1, n2, n3, n4, n5, n6, n7, n8, n9, ex, k1, k2, k3, d1, d2, d3, e1, e2, e3⟩, hch1, hch2, hch3, h2⟩
  refine WS.wk (Wk.cons n1 (Wk.cons n2 (Wk.cons n3 (Wk.cons n4 (Wk.cons n5 (Wk.cons n6 (Wk.cons n7 (Wk.cons n8 (Wk.cons n9 (Wk.cons hch1 (Wk.nil m'))))))))))) ?_
  refine WS_cons ?_
  refine vS_ok (unstop ?_)
  refine WC_bytesL (ns := [kind]) lk_last (fun x hx => by rw [List.mem_singleton.mp hx]; lia) (Nat.le_of_ble_eq_true rfl) ?_
  refine unstop ?_
  refine WG_list (l := (bl.map Prod.fst ++ [0]).map PV.int) (by (refine lk_app ?_; assumption)) (by decide) (by decide) (hget 0 (by exact Nat.zero_le _)) ?_
  refine unstop ?_
  refine ct_two (Gl.at_std ..) (rm.mono (by decide)) (hnext 0).1 (hnext 0).2 fun σ3 ex3 => ?_
  refine unstop ?_; refine WO_addB (Nat.le_of_ble_eq_true rfl) ?_
  (refine unstop ?_; refine WC_lenL (by refine Ex.get (by assumption) ?_; refine lk_app ?_; refine Ex.get (by assumption) ?_; assumption) (by lia) ?_; refine unstop ?_)
  refine ct_two (Gl.at_std ..) (rm.mono (by decide)) (by (clear hcs hsum hnum; lia)) (by lia) fun σ4 ex4 => ?_
  refine unstop ?_; refine WO_addB (Nat.le_of_ble_eq_true rfl) ?_
  refine unstop ?_
  refine ct_two (Gl.at_std ..) (rm.mono (by decide)) (by lia) (by lia) fun σ5 ex5 => ?_
  refine unstop ?_; refine WO_addB (Nat.le_of_ble_eq_true rfl) ?_
  refine unstop ?_
  refine WC_bytesL (ns := [lost]) lk_last (fun x hx => by rw [List.mem_singleton.mp hx]; lia) (Nat.le_of_ble_eq_true rfl) ?_
  refine unstop ?_; refine WO_addB (Nat.le_of_ble_eq_true rfl) ?_
  rw [hlc]
  have eA : ExB [] σ' (σ5 ++ [AO.list [.int lost]]) := (((ExB.app _ _ _).trans ex3).trans ex4).trans (ex5.trans (ExB.app _ _ _))
  generalize σ5 ++ [AO.list [.int lost]] = σ6 at eA ⊢
  clear ex3 ex4 ex5
  refine unstop ?_
  obtain ⟨t1, ht1⟩ : ∃ t1, t1 = List.map toB [kind] ++ tw ((bl.map Prod.fst ++ [0]).getD 0 0) ++ tw (cs.length : Int) ++ tw (128 - (psum ps : Int)) ++ List.map toB [lost] := ⟨_, rfl⟩
  rw [← ht1]
  have hl1 : t1.length = 8 := by rw [ht1]; rfl
  refine WS_cons (WS1_asg (WE_bin ?_))
  refine WE_loc rfl rfl rfl ?_
  refine WE.mono (K := fun pv σ' => pv = .bytes (if kind < 10 then [toB 0, toB 0] ++ tw right else []) ∧ Ex σ6 σ') ?_ ?_
  · refine WE_vx (unstop ?_)
    refine mdec (fun _ => ?_) (fun _ => ?_) <;> (first | (refine WE_vx (unstop ?_); refine unstop ?_) | (refine WE_vx (unstop ?_)))
    · rename_i hb
      refine WC_bytesL (ns := [0, 0]) lk_last (by decide) (by decide) ?_
      refine unstop ?_
      refine ct_two (Gl.at_std ..) (rm.mono (by decide)) hr0 hr1 fun σ7 ex7 => ?_
      refine unstop ?_; refine WO_addB (Nat.le_of_ble_eq_true rfl) ?_
      rw [if_pos hb]
      (repeat refine unstop ?_); exact ⟨rfl, (ExB.app _ _ _).trans ex7⟩
    · rename_i hb
      rw [if_neg hb]
      (repeat refine unstop ?_); exact ⟨rfl, ExB.refl _ _⟩
  rintro _ σ7 ⟨rfl, ex7⟩
  have hl2 : (if kind < 10 then [toB 0, toB 0] ++ tw right else []).length ≤ 4 := by split <;> simp [tw_len]
  refine WO_addB (by lia) ?_
  refine WN_loc rfl rfl ?_
  have htold : t1 ++ (if kind < 10 then [toB 0, toB 0] ++ tw right else []) = toldOf kind right cs.length (128 - psum ps) lost bl := by rw [ht1]; rfl
  have hl3 := told_len kind right cs.length (128 - psum ps) lost bl
  rw [htold]
  have ex8 : Ex σ' σ7 := eA.trans ex7
  have hlp3 : ∀ p ∈ plc, 0 ≤ p ∧ p < 65536 := fun p hp => by
    obtain ⟨j, hj⟩ := List.getElem?_of_mem hp
    have hjl : j < cs.length := by have := (List.getElem?_eq_some_iff.mp hj).1; lia
    obtain ⟨p', z1, z2, z3, _⟩ := h2.cells j cs[j] (List.getElem?_eq_getElem hjl)
    rw [hj] at z1; cases z1
    lia
  have hb32 : (if number = 1 then 32 else 0 : Nat) ≤ 32 := by split <;> (first | (exact Nat.le_refl _) | (exact Nat.zero_le _))
  have hbI : (if number = 1 then 32 else 0 : Int) = ((if number = 1 then 32 else 0 : Nat) : Int) := by split <;> rfl
  have htl := tws_len plc
  have hpn := h2.n
  refine WS_cons (WS1_expr (WE_call ?_))
  refine WE_nm rfl (unstop ?_)
  (repeat refine unstop ?_); refine ⟨_, rfl, rfl, WL_cons ?_⟩
  refine WE_loc rfl rfl rfl ?_
  refine WL_cons (WE.mono (K := fun pv σ' => pv = .int (if number = 1 then 32 else 0) ∧ σ7 = σ') ?_ ?_)
  · refine WE_vx (unstop ?_)
    refine mdec (fun _ => ?_) (fun _ => ?_) <;> (refine WE_vx (unstop ?_); refine unstop ?_)
    · rename_i hb
      rw [if_pos hb]; exact ⟨rfl, rfl⟩
    · rename_i hb
      rw [if_neg hb]; exact ⟨rfl, rfl⟩
  rintro _ _ ⟨rfl, rfl⟩
  refine WL_cons (WE_bin ?_)
  refine WE_loc rfl rfl rfl ?_
  refine WE_meth (WE_bytes (WM_join ⟨rfl, WL_cons ?_⟩))
  refine WE_comp rfl rfl .nil ?_
  refine WE_loc rfl rfl rfl ?_
  refine WQ_mapN (xs := plc) (g := PV.int) (fun p => .bytes (tw p)) (by (refine Ex.get (by assumption) ?_; assumption)) (by lia) rfl (fun p σ'' C hp hI => ?_) (fun σ8 ex9 => ?_)
  · refine WE_vcall rfl (unstop ?_)
    refine ct_two (comp_std (Gl.at_std ..)) (comp_room (rm.mono (by decide))) (hlp3 p hp).1 (hlp3 p hp).2 fun σ9 ex10 => ?_
    (repeat refine unstop ?_); exact ⟨rfl, hI.trans ex10⟩
  refine WL_nil ?_
  refine WC_join (bs := plc.map tw) (by rw [List.map_map]; exact lk_last) (by lia) ?_
  refine WO_addB (by lia) ?_
  refine WL_nil ?_
  have e9 : (σ8 ++ [AO.list (plc.map fun p => .bytes (tw p))])[kpg]? = some (.list (pl.map .int)) := lk_app (ex9.get (ex8.get e1))
  have hlen9 : (toldOf kind right cs.length (128 - psum ps) lost bl ++ (plc.map tw).flatten).length ≤ 18 := by rw [List.length_append]; lia
  refine ct_put (Gl.at_std ..) (rm.mono (by decide)) e9 (by lia) (by lia) (by lia) fun σ9 ex10 e10 => ?_
  rw [hbI, Int.toNat_natCast] at e10
  refine ⟨rfl, ?_⟩
  refine WS_cons ?_
  refine vS_ok (unstop ?_)
  have hL := h2.laid (number := number) (kind := kind) (right := right) (lost := lost) (by lia) (by lia) hl0 (by lia) hnc hcs
  refine WC_bytesL e10 (Oct.put h2.oct) (by rw [putN_len]; lia) ?_
  refine unstop ?_
  refine h _ _ _ _ _ _ _ _ hL ⟨Nat.le_trans ex.1 (Nat.le_trans ex8.1 (Nat.le_trans ex9.1 (Nat.le_trans (ExB.app [] _ _).1 ex10.1))), fun n ao hn e => ex10.get (by have := lt_of_lk e; simp; lia) (lk_app (ex9.get (ex8.get (ex.get e))))⟩ (ex10.get (by simp; lia) (lk_app (ex9.get (ex8.get e2)))) (ex10.get (by simp; lia) (lk_app (ex9.get (ex8.get e3)))) ⟨k2, k3⟩
end
end Nv
end
section
open PySem PySem.W PySem.Calls PyProof.Rows PyProof.V PySem.Spec
namespace Nv
section
variable {c : Cx} {σ : List AO} {m : Nm} {K : PV → List AO → Prop} {Kn : Nm → List AO → Prop} {Kr : PV → List AO → Prop} {X : List AO → Prop}
theorem re_std {G : Gl} {g : Heap} (h : c.Std G) : (c.re g).Std G := ⟨h.prog, h.K, h.p, h.loose, h.xc⟩
theorem re_room {n : Nat} {g : Heap} (h : Room c n) : Room (c.re g) n := ⟨h.d, h.u⟩
theorem ct_refused {n N : Nat} {body : Expr} {scope : Scope} {qual : Str} {ks : List (Str × Nat)} (std : c.Std GG) (room : Room c (N + 2)) (hgd : c.A.guards = some [])
    (e : σ[n]? = some (.clo body scope qual ks)) (hcell : ∀ x ∈ scope.names, x.2 ≠ .cell) (hco : scope.isCoroutine = false) (hgen : scope.isGenerator = false) (hk : scope.kind = .function)
    (h : ∀ (P : Px) (f : Addr) (cdv : Value) (cl : List (Str × Addr)), Room (GG.at P ⟨qual, scope, f, cdv⟩ cl ks) N → (GG.at P ⟨qual, scope, f, cdv⟩ cl ks).A.guards = some [] → WEP (GG.at P ⟨qual, scope, f, cdv⟩ cl ks) body σ [] (fun _ _ => False) (fun σ' => K (.bool true) σ')) : WCP c (.ref 382) [.loc n] σ m K X := by
  refine WCoP.wcp <| WCoP_def (n := N + 1) (names := ["call"]) std room hgd (fun _ => rfl) (fun _ => rfl) (fun _ => rfl) rfl rfl (by decide) rfl rfl rfl ?_
  intro P ok rm gd
  refine WSP_cons (WS1P_try (G := GG) (fI := 28) (N := N) (Gl.at_std ..) rm gd rfl rfl rfl rfl e hcell hco hgen hk xoG rfl (gl_CorruptError _) ?_)
  intro P' f cdv cl ok' rm' gd'
  first | exact h P' f cdv cl rm' gd' | exact unstop (h P' f cdv cl rm' gd')
theorem ct_cell_right (std : c.Std GG) (room : Room c 8) {v d x : Nat} {b : List UInt8} {number kind right content lost : Int} {cs : List CD} {plc : List Int} {bl : List (Int × Int)} (hw : VW σ v b number d x) (hl : Laid number kind right cs b content plc bl lost) (hh : Hd number kind right b content plc bl lost)
    (h4 : kind = 2 ∨ kind = 5 ∨ kind = 10 ∨ kind = 13) (hcd : ∀ c ∈ cs, CDok kind c) {i : Nat} {p : Int} {cc : CD} (ei : plc[i]? = some p) (ec : cs[i]? = some cc)
    (h : ∀ σ', Ex σ σ' → K (.bool true) σ') : WC c (.ref 389) [.loc v, .int kind, .int i, .int p, cc.pv] σ m K X := by
  refine WCo.wc <| WCo_def (names := ["view", "kind", "at", "place", "cell"]) std room (fun _ => rfl) (fun _ => rfl) (fun _ _ _ _ _ => rfl) rfl rfl (by decide) rfl rfl rfl ?_
  intro P ok rm
  have hru := rm.u
  have hok := hh.cellOk hl ei
  obtain ⟨c', ec', q1, q2, q3, q4⟩ := hl.pl ei
  rw [ec] at ec'; cases ec'
  have hc0 := hl.ct0
  have hcc := hcd cc (List.mem_of_getElem? ec)
  have hp0 : ((p.toNat : Nat) : Int) = p := by lia
  have hca := cellAt_of hcc q4 (by rw [hl.len]; lia)
  rw [hp0] at hca
  have hraw : Nv.cut b (.int p) (.int (p + cc.oc.length)) = cc.oc := q4.cut (by lia) (by lia) (by rw [hl.len]; lia)
  rw [← hh.k] at hca
  have hik : isKind (knd b number) = true := by rw [hh.k]; exact isKind_of h4
  obtain ⟨hv, hd, hx, hlen, hp⟩ := id hw
  refine WS_cons (WS1_asgT (WE_loc rfl rfl rfl ⟨_, rfl, rfl, ?_⟩))
  (refine WA_cons ?_; refine WN_loc rfl rfl ?_; refine WA_cons ?_; refine WN_loc rfl rfl ?_; refine WA_cons ?_; refine WN_loc rfl rfl ?_; refine WA_cons ?_; refine WN_loc rfl rfl ?_; refine WA_cons ?_; refine WN_loc rfl rfl ?_; refine WA_nil ?_; refine WS_vb (unstop ?_); refine WE_meth ?_; refine WE_loc rfl rfl rfl ?_; refine WM_m mo_cell ⟨_, rfl⟩ (by assumption) (by assumption) rfl ?_; refine WL_vl rfl (unstop ?_))
  refine ct_cell (Gl.at_std ..) (rm.mono (by decide)) hw hik hok hca fun σ1 k d' x1 x2 x3 => ?_
  have hw1 := hw.ex x1 (by simp)
  obtain ⟨hv1, hd1, hx1, _, _⟩ := id hw1
  (refine unstop ?_; refine WO_fld fo_data ⟨_, rfl⟩ (by assumption) (by assumption) rfl (by intro u hu; cases hu) ?_; refine unstop ?_)
  have hnr : (∀ u, cc.rowid ≠ .raw u) ∧ ∀ σ, Same σ 0 cc.rowid cc.rowid := by
    rcases hcc.sh with ⟨_, r, vl, h1, h2, h3, h4, h5, h6⟩ | ⟨_, h3, h4, h5⟩ | ⟨_, r, vl, h1, h2, h3, h4, h5, h6⟩ | ⟨_, h3, h4, h5, h6⟩
    · rw [h4]; exact ⟨(fun u hu => by cases hu), fun σ => .int _ _⟩
    · rw [h4]; exact ⟨(fun u hu => by cases hu), fun σ => .none _⟩
    · rw [h5]; exact ⟨(fun u hu => by cases hu), fun σ => .int _ _⟩
    · rw [h5]; exact ⟨(fun u hu => by cases hu), fun σ => .none _⟩
  refine WO_fld fc_rowid ⟨_, rfl⟩ x2 x3 rfl hnr.1 ?_
  (refine unstop ?_; refine WO_fld fc_child ⟨_, rfl⟩ (by assumption) (by assumption) rfl (by intro u hu; cases hu) ?_; refine unstop ?_; refine WO_fld fc_child ⟨_, rfl⟩ (by assumption) (by assumption) rfl (by intro u hu; cases hu) ?_; refine unstop ?_; refine WO_fld fc_child ⟨_, rfl⟩ (by assumption) (by assumption) rfl (by intro u hu; cases hu) ?_; refine unstop ?_)
  refine WO_neT (n := 0) (.cons (.int _ _) (.cons (hnr.2 _) (.cons (.int _ _) (.cons (.bytes _ _) (.cons (.int _ _) (.nil _)))))) (by lia) ?_
  (refine unstop ?_; refine mff rfl ?_; refine WS_vb (unstop ?_); refine WE_meth ?_; refine WE_loc rfl rfl rfl ?_; refine WM_m mo_place ⟨_, rfl⟩ (by assumption) (by assumption) rfl ?_; refine WL_vl rfl (unstop ?_))
  refine ct_place_ok (Gl.at_std ..) (rm.mono (by decide)) hw1 hok ?_
  (refine unstop ?_; refine mbne (fun _ => ?_) (fun _ => ?_); (exfalso; lia); refine WB_vx (unstop ?_); refine WE_meth ?_; refine WE_loc rfl rfl rfl ?_; refine WM_m mo_raw ⟨_, rfl⟩ (by assumption) (by assumption) rfl ?_; refine WL_vl rfl (unstop ?_))
  try rw [show (p != p) = false from bne_self_eq_false ..]
  refine ct_raw (Gl.at_std ..) (rm.mono (by decide)) hw1 hik hok hca fun σ2 y1 => ?_
  rw [hraw]
  have hw2 := hw1.ex y1 (by simp)
  obtain ⟨hv2, hd2, hx2, _, _⟩ := id hw2
  refine unstop ?_
  refine WO_neB ?_
  try rw [show (cc.oc != cc.oc) = false from bne_self_eq_false ..]
  (refine unstop ?_; refine mff rfl ?_; refine WB_vx (unstop ?_); refine unstop ?_; refine unstop ?_; refine mff rfl ?_; refine WS_vb (unstop ?_))
  have exA := x1.trans y1
  clear x1 y1 x2 x3 hw1 hv1 hd1 hx1
  rcases h4 with rfl | rfl | rfl | rfl
  · have hch : cc.child = w4 b p := by
      rcases hca.sh with ⟨hk, N, z1, z2, _⟩ | ⟨hk, a, z1, z2, _⟩ | ⟨hk, _⟩ | ⟨hk, _⟩
      · rw [hh.k] at hk; cases hk
      · exact z2
      · rw [hh.k] at hk; cases hk
      · rw [hh.k] at hk; cases hk
    refine WO_inT (ns := [5, 13]) rfl ?_
    (refine unstop ?_; refine unstop ?_; refine mff rfl ?_; refine WS_vb (unstop ?_))
    refine WE_or2 ?_
    (refine WE_vcmp rfl (unstop ?_); refine WT_bool ?_; refine mff rfl ?_)
    refine WE_or1 ?_
    (refine WE_vcmp rfl (unstop ?_); refine WE_meth ?_; refine WE_loc rfl rfl rfl ?_; refine WM_m mo_child ⟨_, rfl⟩ (by assumption) (by assumption) rfl ?_; refine WL_vl rfl (unstop ?_))
    refine ct_child (Gl.at_std ..) (rm.mono (by decide)) hw2 hok ?_
    (refine unstop ?_; refine unstop ?_)
    try rw [← hch, show (cc.child == cc.child) = true from beq_self_eq_true ..]
    first | exact h _ exA | exact unstop (h _ exA)
  · have hch : ∃ N, cc.child = w4 b p ∧ VG b N (p + cc.oc.length) 0 0 (p + 4) ∧ cc.rowid = .int (sgn N) := by
      rcases hca.sh with ⟨hk, N, z1, z2, z3, z4, _⟩ | ⟨hk, a, z1, z2, _⟩ | ⟨hk, _⟩ | ⟨hk, _⟩
      · (repeat refine unstop ?_); exact ⟨N, z2, z3, z4⟩
      · rw [hh.k] at hk; cases hk
      · rw [hh.k] at hk; cases hk
      · rw [hh.k] at hk; cases hk
    obtain ⟨N, hch, hvg, hro⟩ := hch
    rw [hro]
    refine WO_inT (ns := [5, 13]) rfl ?_
    (refine unstop ?_; refine mtt rfl ?_; refine WB_vx (unstop ?_); refine WE_meth ?_; refine WE_loc rfl rfl rfl ?_; refine WM_m mo_rowid ⟨_, rfl⟩ (by assumption) (by assumption) rfl ?_; refine WL_vl rfl (unstop ?_))
    refine ct_vrowid5 (Gl.at_std ..) (rm.mono (by decide)) hw2 hh.k hok hvg ?_
    (refine unstop ?_; refine mbne (fun _ => ?_) (fun _ => ?_); (exfalso; lia); refine unstop ?_; refine unstop ?_; refine mff rfl ?_; refine WS_vb (unstop ?_))
    try rw [show (sgn N != sgn N) = false from bne_self_eq_false ..]
    refine WE_or2 ?_
    (refine WE_vcmp rfl (unstop ?_); refine WT_bool ?_; refine mff rfl ?_)
    refine WE_or1 ?_
    (refine WE_vcmp rfl (unstop ?_); refine WE_meth ?_; refine WE_loc rfl rfl rfl ?_; refine WM_m mo_child ⟨_, rfl⟩ (by assumption) (by assumption) rfl ?_; refine WL_vl rfl (unstop ?_))
    refine ct_child (Gl.at_std ..) (rm.mono (by decide)) hw2 hok ?_
    (refine unstop ?_; refine unstop ?_)
    try rw [← hch, show (cc.child == cc.child) = true from beq_self_eq_true ..]
    first | exact h _ exA | exact unstop (h _ exA)
  · skip
    refine WO_inT (ns := [5, 13]) rfl ?_
    (refine unstop ?_; refine unstop ?_; refine mff rfl ?_; refine WS_vb (unstop ?_))
    refine WE_or2 ?_
    (refine WE_vcmp rfl (unstop ?_); refine WT_bool ?_; refine unstop ?_)
    first | exact h _ exA | exact unstop (h _ exA)
  · have hch : ∃ a1 a N S, VG b S a1 0 0 p ∧ VG b N a 0 0 a1 ∧ cc.rowid = .int (sgn N) := by
      rcases hca.sh with ⟨hk, _⟩ | ⟨hk, _⟩ | ⟨hk, a1, a, N, z1, z2, z3, z4, _⟩ | ⟨hk, _⟩
      · rw [hh.k] at hk; cases hk
      · rw [hh.k] at hk; cases hk
      · (repeat refine unstop ?_); exact ⟨a1, a, N, _, z2, z3, z4⟩
      · rw [hh.k] at hk; cases hk
    obtain ⟨a1, a, N, S, hvg1, hvg, hro⟩ := hch
    rw [hro]
    refine WO_inT (ns := [5, 13]) rfl ?_
    (refine unstop ?_; refine mtt rfl ?_; refine WB_vx (unstop ?_); refine WE_meth ?_; refine WE_loc rfl rfl rfl ?_; refine WM_m mo_rowid ⟨_, rfl⟩ (by assumption) (by assumption) rfl ?_; refine WL_vl rfl (unstop ?_))
    refine ct_vrowid13 (Gl.at_std ..) (rm.mono (by decide)) hw2 hh.k hok hvg1 hvg ?_
    (refine unstop ?_; refine mbne (fun _ => ?_) (fun _ => ?_); (exfalso; lia); refine unstop ?_; refine unstop ?_; refine mff rfl ?_; refine WS_vb (unstop ?_))
    try rw [show (sgn N != sgn N) = false from bne_self_eq_false ..]
    refine WE_or2 ?_
    (refine WE_vcmp rfl (unstop ?_); refine WT_bool ?_; refine unstop ?_)
    first | exact h _ exA | exact unstop (h _ exA)
end
end Nv
end
section
open PySem PySem.W PySem.Calls PyProof.Rows PyProof.V PySem.Spec
namespace Nv
section
variable {c : Cx} {σ : List AO} {m : Nm} {K : PV → List AO → Prop} {Kn : Nm → List AO → Prop} {Kr : PV → List AO → Prop} {X : List AO → Prop}
noncomputable def TabOk (σ : List AO) (tn : Nat) (q : Str) : Prop := ∃ es, σ[tn]? = some (.tab es) ∧ ∀ e ∈ es, e.2.2 = q
theorem TabOk.ex {σ σ' tn q} {S : List Nat} (h : TabOk σ tn q) (e : ExB S σ σ') (hn : tn ∉ S) : TabOk σ' tn q := let ⟨es, a, b⟩ := h; ⟨es, e.get hn a, b⟩
theorem TabOk.lt {σ tn q} (h : TabOk σ tn q) : tn < σ.length := let ⟨_, a, _⟩ := h; lt_of_lk a
theorem tabLook_mem {es : List (Nat × Nat × Str)} {pos : Pos} {q : Str} (h : tabLook es pos = some q) : ∃ e ∈ es, e.2.2 = q := by
  unfold tabLook at h
  obtain ⟨e, h1, h2⟩ := Option.map_eq_some_iff.mp h
  exact ⟨e, List.mem_of_find?_eq_some h1, h2⟩
theorem CEs.caps {c : Cx} : ∀ {cl ks}, CEs c cl ks → CapsOk c cl ks
  | _, _, .nil => trivial
  | _, _, .cons h1 h2 r => ⟨rfl, h2, h1, CEs.caps r⟩
theorem WE_lam' {body : Expr} {scope : Scope} {pos : Pos} {tn : Nat} {P cc : Addr} {cn : Str} {cs : Scope} {a : Addr} {cl clos : List (Str × Addr)} {ks : List (Str × Nat)} {q : Str}
    (hq : c.env = envX cn cs c.L a (.ref cc) cl) (hP : (tn, P) ∈ tabFix) (hK : codeHdIn c.K cc P = true) (hqq : c.env.qual ++ "<lambda>" = q) (ht : TabOk σ tn q) (hcl : closureFor scope c.env = pure clos) (hc : CEs c clos ks)
    (h : ∀ σ' n, ExB [tn] σ σ' → TabOk σ' tn q → σ'[n]? = some (.clo body scope q ks) → K (.loc n) σ') : WE c (.Lambda noPars body scope pos) σ m K X := by
  obtain ⟨es, e, hes⟩ := ht
  refine WE_lam hq hP hK e hcl hc.caps ?_
  rw [hqq]
  cases hl : tabLook es pos with
  | some q' =>
    obtain ⟨e', h1, h2⟩ := tabLook_mem hl
    exact ⟨by rw [← h2]; exact hes e' h1, h _ _ (ExB.app _ _ _) ⟨es, lk_app e, hes⟩ lk_last⟩
  | none =>
    have hlt := lt_of_lk e
    refine h _ _ ((ExB.set (.head _)).trans (ExB.app _ _ _)) ⟨_, lk_app (lk_set hlt), fun e' he' => ?_⟩ ?_
    · rcases List.mem_append.mp he' with he' | he'
      · exact hes e' he'
      · rw [List.mem_singleton.mp he']
    · have := lk_last (σ := σ.set tn (.tab (es ++ [(pos.line, pos.col, q)]))) (a := .clo body scope q ks)
      rw [List.length_set] at this
      exact this
theorem WSP_step1 {st : Stmt} {rest : List Stmt} (h : WS1 c st σ m (fun m' σ' => WSP c rest σ' m' Kn Kr X) Kr X) : WSP c (st :: rest) σ m Kn Kr X := WSP_step h
noncomputable def CelL (σ' : List AO) (B : Nat) (vs : List (Option PV)) : Prop := ∀ (k : Nat) v, vs[k]? = some v → σ'[B + k]? = some (.cell v)
theorem CelL.at {σ' : List AO} {B : Nat} {vs : List (Option PV)} (h : CelL σ' B vs) {k : Nat} {v : Option PV} (e : vs[k]? = some v) : σ'[B + k]? = some (.cell v) := h k v e
theorem CelL.at0 {σ' : List AO} {B : Nat} {vs : List (Option PV)} (h : CelL σ' B vs) {v : Option PV} (e : vs[0]? = some v) : σ'[B]? = some (.cell v) := h 0 v e
theorem CelL.at' {σ' : List AO} {B n : Nat} {vs : List (Option PV)} {v : Option PV} (k : Nat) (h : CelL σ' B vs) (hn : n = B + k) (e : vs[k]? = some v) : σ'[n]? = some (.cell v) := by rw [hn]; exact h k v e
theorem CelL.ex {σ1 σ2 : List AO} {B : Nat} {vs : List (Option PV)} {S : List Nat} (h : CelL σ1 B vs) (e : ExB S σ1 σ2) (hS : ∀ x ∈ S, x < B) : CelL σ2 B vs := fun k v e' => e.get (fun hm => by have := hS _ hm; omega) (h k v e')
theorem CelL.set {σ1 : List AO} {B : Nat} {vs : List (Option PV)} (h : CelL σ1 B vs) (i : Nat) (v : Option PV) (hi : i < vs.length) : CelL (σ1.set (B + i) (.cell v)) B (vs.set i v) := fun k v' e => by
  by_cases hk : i = k
  · subst hk
    rw [List.getElem?_set_self hi] at e; cases e
    exact lk_set (lt_of_lk (h i _ (List.getElem?_eq_getElem hi)))
  · rw [List.getElem?_set_ne hk] at e
    exact lk_set_ne (by omega) (h k v' e)
structure BSt (σ σ' : List AO) (n : Nat) (vs : List (Option PV)) (S : List Nat) (q : Str) (tn : Nat) : Prop where
  s : Src σ' n
  t : TabOk σ' tn q
  x : ExB S σ σ'
  c : CelL σ' σ.length vs
theorem BSt.ex {σ σ1 σ2 : List AO} {n : Nat} {vs : List (Option PV)} {S S' : List Nat} {q : Str} {tn : Nat} (h : BSt σ σ1 n vs S q tn) (e : ExB S' σ1 σ2) (hs : Src σ2 n) (ht : TabOk σ2 tn q) (h1 : ∀ x ∈ S', x ∈ S) (h2 : ∀ x ∈ S', x < σ.length) : BSt σ σ2 n vs S q tn :=
  ⟨hs, ht, h.x.trans (e.mono h1), h.c.ex e h2⟩
theorem BSt.new {σ σ1 σ2 : List AO} {n : Nat} {vs : List (Option PV)} {S : List Nat} {q : Str} {tn : Nat} (h : BSt σ σ1 n vs S q tn) (e : Ex σ1 σ2) : BSt σ σ2 n vs S q tn :=
  ⟨h.s.ex e List.not_mem_nil, h.t.ex e List.not_mem_nil, h.x.trans e.to, h.c.ex e (fun x hx => by cases hx)⟩
theorem BSt.draw {σ σ1 σ2 : List AO} {n : Nat} {vs : List (Option PV)} {S : List Nat} {q : Str} {tn : Nat} (h : BSt σ σ1 n vs S q tn) (e : ExB [n] σ1 σ2) (hs : Src σ2 n) (hn : n ∈ S) (hl : n < σ.length) (hne : tn ≠ n) : BSt σ σ2 n vs S q tn :=
  h.ex e hs (h.t.ex e (by simpa using hne)) (fun x hx => by rw [List.mem_singleton.mp hx]; exact hn) (fun x hx => by rw [List.mem_singleton.mp hx]; exact hl)
theorem BSt.lam {σ σ1 σ2 : List AO} {n : Nat} {vs : List (Option PV)} {S : List Nat} {q : Str} {tn : Nat} (h : BSt σ σ1 n vs S q tn) (e : ExB [tn] σ1 σ2) (ht : TabOk σ2 tn q) (hn : tn ∈ S) (hl : tn < σ.length) (hne : tn ≠ n) : BSt σ σ2 n vs S q tn :=
  h.ex e (h.s.ex e (by simpa using Ne.symm hne)) ht (fun x hx => by rw [List.mem_singleton.mp hx]; exact hn) (fun x hx => by rw [List.mem_singleton.mp hx]; exact hl)
theorem BSt.cell {σ σ1 : List AO} {n : Nat} {vs : List (Option PV)} {S : List Nat} {q : Str} {tn : Nat} (h : BSt σ σ1 n vs S q tn) (i : Nat) (v : Option PV) (hi : i < vs.length) (hn : n < σ.length) (ht : tn < σ.length) : BSt σ (σ1.set (σ.length + i) (.cell v)) n (vs.set i v) S q tn :=
  ⟨h.s.ex (ExB.set (S := [σ.length + i]) (.head _)) (by simp; omega), h.t.ex (ExB.set (S := [σ.length + i]) (.head _)) (by simp; omega), h.x.setNew (by omega), h.c.set i v hi⟩
theorem BSt.cell0 {σ σ1 : List AO} {n : Nat} {vs : List (Option PV)} {S : List Nat} {q : Str} {tn : Nat} (h : BSt σ σ1 n vs S q tn) (v : Option PV) (hi : 0 < vs.length) (hn : n < σ.length) (ht : tn < σ.length) : BSt σ (σ1.set σ.length (.cell v)) n (vs.set 0 v) S q tn := h.cell 0 v hi hn ht
theorem WS1P.mono {st : Stmt} {Kn' : Nm → List AO → Prop} (h : WS1P c st σ m Kn Kr X) (hk : ∀ m' σ', Kn m' σ' → Kn' m' σ') : WS1P c st σ m Kn' Kr X :=
  fun T R s S Q E q1 q2 ex => h T R s S Q E (fun m' T' R' σ' s' g t gr S' k => q1 m' T' R' σ' s' g t gr S' (hk _ _ k)) q2 ex
theorem WS1.mono {st : Stmt} {Kn' : Nm → List AO → Prop} (h : WS1 c st σ m Kn Kr X) (hk : ∀ m' σ', Kn m' σ' → Kn' m' σ') : WS1 c st σ m Kn' Kr X :=
  fun T R s S Q E q1 q2 ex => h T R s S Q E (fun m' T' R' σ' s' gr S' k => q1 m' T' R' σ' s' gr S' (hk _ _ k)) q2 ex
theorem WSP_nil (h : Kn m σ) : WSP c [] σ m Kn Kr X := WSP.of (WS_nil h)
noncomputable abbrev qB : Str := "_law_bent_right" ++ ".<locals>." ++ "<lambda>"
end
section
variable {c : Cx} {σ : List AO} {m : Nm} {K : PV → List AO → Prop} {X : List AO → Prop} {scope : Scope} {cl : List (Str × Addr)} {ce : List (Str × Nat)} {elt : Expr} {ifs : List Expr} {x : Str} {p : Pos} {KQ : List PV → List AO → Prop}
theorem WQ_tupN {α : Type} {xs : List α} (g f : α → PV) {l : List PV} (hl : l = xs.map g) (hsz : xs.length ≤ 1000) (hx : scope.names.lookup x = some .local)
    (hstep : ∀ a σ' C, a ∈ xs → Ex σ σ' → WE (c.comp scope cl C ce [(x, g a)]) elt σ' m (fun y σ3 => y = f a ∧ Ex σ σ3) (fun _ => False)) (hend : ∀ σ', Ex σ σ' → KQ (xs.map f) σ') : WQ c scope cl ce elt (.Name x p) [] (.tup l) σ m KQ := by
  subst hl
  have hl : (xs.map g).length = xs.length := List.length_map _
  have key : ∀ i ys σ' C, i < (xs.map g).length → (ys = (xs.take i).map f ∧ Ex σ σ') → WE (c.comp scope cl C ce [(x, (xs.map g).getD i .none)]) elt σ' m (fun y σ3 => ys ++ [y] = (xs.take (i + 1)).map f ∧ Ex σ σ3) (fun _ => False) := by
    rintro i ys σ' C hi ⟨e1, e2⟩
    have hi' : i < xs.length := by omega
    have hg : (xs.map g).getD i .none = g xs[i] := by rw [List.getD_eq_getElem?_getD, List.getElem?_map, List.getElem?_eq_getElem hi']; rfl
    rw [hg]
    refine (hstep xs[i] σ' C (List.getElem_mem hi') e2).mono fun y σ3 ⟨h1, h2⟩ => ⟨?_, h2⟩
    rw [e1, h1, List.take_add_one, List.getElem?_eq_getElem hi', List.map_append]; rfl
  exact ⟨(xs.map g).length, fun i => (xs.map g).getD i .none, fun _ => True, [x], fun i => [(x, (xs.map g).getD i .none)], fun i ys σ' => ys = (xs.take i).map f ∧ Ex σ σ', Seqn.tup, by omega, fun y hy => by rw [List.mem_singleton.mp hy]; exact hx, fun i hi => .name x p _, ⟨by simp, ExB.refl _ _⟩, fun _ _ _ _ => trivial, key, fun ys σ' ⟨e1, e2⟩ => by rw [e1, hl, List.take_length]; exact hend σ' e2⟩
end
end Nv
end
section
open PySem PySem.W PySem.Calls PyProof.Rows PyProof.V PySem.Spec
namespace Nv
section
variable {c : Cx} {σ : List AO} {m : Nm} {K : PV → List AO → Prop} {Kn : Nm → List AO → Prop} {Kr : PV → List AO → Prop} {X : List AO → Prop}
theorem WEP.monoX {e : Expr} {X' : List AO → Prop} (h : WEP c e σ m K X) (i : ∀ σ', X σ' → X' σ') : WEP c e σ m K X' := fun T R s st Q E q ex => h T R s st Q E q fun e s' σ' g t hx hX => ex e s' σ' g t hx (i _ hX)
theorem WEP_ref {N : Nat} {body : Expr} {scope : Scope} {lp p1 cp : Pos} {tn : Nat} {P cc : Addr} {cn : Str} {cs : Scope} {a : Addr} {cl clos : List (Str × Addr)} {ks : List (Str × Nat)} {q : Str}
    (std : c.Std GG) (room : Room c (N + 2)) (gd : c.A.guards = some []) (hk : c.env.kindOf "_law_is_refused" = some .globalImplicit) (hg : nsIn c.K mainGlobals "_law_is_refused" = some (some (.ref 382))) (hko : keepOk c.K (.ref 382) = true)
    (hq : c.env = envX cn cs c.L a (.ref cc) cl) (hP : (tn, P) ∈ tabFix) (hK : codeHdIn c.K cc P = true) (hqq : c.env.qual ++ "<lambda>" = q) (ht : TabOk σ tn q) (hcl : closureFor scope c.env = pure clos) (hc : CEs c clos ks)
    (hcell : ∀ x ∈ scope.names, x.2 ≠ .cell) (hco : scope.isCoroutine = false) (hgen : scope.isGenerator = false) (hkf : scope.kind = .function)
    (h : ∀ σ', ExB [tn] σ σ' → TabOk σ' tn q → ∀ (P : Px) (f : Addr) (cdv : Value) (cl : List (Str × Addr)), Room (GG.at P ⟨q, scope, f, cdv⟩ cl ks) N → (GG.at P ⟨q, scope, f, cdv⟩ cl ks).A.guards = some [] → WEP (GG.at P ⟨q, scope, f, cdv⟩ cl ks) body σ' [] (fun _ _ => False) (K (.bool true))) :
    WEP c (.Call (.Name "_law_is_refused" p1) [.Lambda noPars body scope lp] [] cp) σ m K X :=
  WEP_call (WE_glob hk hg ⟨_, rfl, hko, WL_cons (WE_lam' hq hP hK hqq ht hcl hc fun σ' n e1 t1 e2 => WL_nil (ct_refused std room gd e2 hcell hco hgen hkf (h σ' e1 t1)))⟩)
noncomputable abbrev jRef (c : Cx) (rest : List Stmt) (m : List (Str × PV)) (Kn : Nm → List AO → Prop) (Kr : PV → List AO → Prop) (X : List AO → Prop) (σ : List AO) : Prop := ∀ g, WSP (c.re g) rest σ m Kn Kr X
theorem ref_after {A rest : List Stmt} (h : jRef c rest m Kn Kr X σ) : jTP c m (jNot (jIfP c A [] m (jSP c rest Kn Kr X) Kr X)) X (.bool true) σ :=
  fun g _ => WT_bool fun g' _ => WSP_nil fun g'' _ => h g''
theorem WSP_if_ref {A rest : List Stmt} {e : Expr} {es : List Expr} {cp np ip : Pos} (h : ∀ K : PV → List AO → Prop, (∀ σ', jRef c rest m Kn Kr X σ' → K (.bool true) σ') → WEP c (.Call e es [] cp) σ m K X) : WSP c (.If (.UnaryOp .Not (.Call e es [] cp) np) A [] ip :: rest) σ m Kn Kr X :=
  WSP_cons (WS1P_if (WBP_not (WBP_plain (h _ fun σ' => ref_after))))
theorem WEP_view {N : Nat} {xn : Str} {p2 p3 p4 p5 p1 : Pos} {k : Nat} {i j : Nat} {b : List UInt8} {number : Int}
    (std : c.Std GG) (room : Room c (N + 2)) (gd : c.A.guards = some []) (hk : c.env.kindOf "NodeView" = some .globalImplicit) (hg : nsIn c.K mainGlobals "NodeView" = some (some (.ref 312))) (hko : keepOk c.K (.ref 312) = true)
    (k1 : c.env.kindOf xn = some .free) (l1 : c.ce.lookup xn = some i) (v1 : σ[i]? = some (.cell (some (.bytes b)))) (k2 : c.env.kindOf "number" = some .free) (l2 : c.ce.lookup ("number" : Str) = some j) (v2 : σ[j]? = some (.cell (some (.int number))))
    (d1 : (xn == ("__debug__" : Str)) = false) (d2 : (xn == ("__classdict__" : Str)) = false) (hl : b.length = 128) (hp : number.natAbs < 2 ^ 60)
    (h : ∀ σ' v d x, Ex σ σ' → VW σ' v b number d x → K (.loc v) σ') : WEP c (.Call (.Name "NodeView" p1) [.Name xn p2, .Name "number" p3, .Constant (.int 128) k p4] [] p5) σ m K X :=
  WEP_call (WE_glob hk hg ⟨_, rfl, hko, WL_cons (WE_free k1 l1 v1 (WL_cons (WE_free k2 l2 v2 (WL_cons (WE_int (WL_nil (ct_view std (room.mono (Nat.le_add_left _ _)) gd hl hp h)))))) d1 d2)⟩)
theorem WSP_if_ref' {g : Heap} {A rest : List Stmt} {e : Expr} {es : List Expr} {cp np ip : Pos} (h : ∀ K : PV → List AO → Prop, (∀ σ', jRef c rest m Kn Kr X σ' → K (.bool true) σ') → WEP (c.re g) (.Call e es [] cp) σ m K X) : WSP (c.re g) (.If (.UnaryOp .Not (.Call e es [] cp) np) A [] ip :: rest) σ m Kn Kr X :=
  WSP_if_ref (c := c.re g) h
theorem WEP_refm {σ₀ : List AO} {n tn : Nat} {vs : List (Option PV)} {S : List Nat} {q : Str} (B : BSt σ₀ σ n vs S q tn) (hS : tn ∈ S) (hlt : tn < σ₀.length) (hne : tn ≠ n)
    {xn meth : Str} {p1 p2 p3 p4 p5 p6 p7 p8 lp cp : Pos} {kc : Nat} {scope : Scope} {P cc : Addr} {cn : Str} {cs : Scope} {a : Addr} {cl clos : List (Str × Addr)} {ks : List (Str × Nat)} {i j : Nat} {b : List UInt8} {number : Int} {M : Addr} {pl : Env → Sem Bool}
    (std : c.Std GG) (room : Room c 10) (gd : c.A.guards = some []) (hk : c.env.kindOf "_law_is_refused" = some .globalImplicit) (hg : nsIn c.K mainGlobals "_law_is_refused" = some (some (.ref 382))) (hko : keepOk c.K (.ref 382) = true)
    (hq : c.env = envX cn cs c.L a (.ref cc) cl) (hP : (tn, P) ∈ tabFix) (hK : codeHdIn c.K cc P = true) (hqq : c.env.qual ++ "<lambda>" = q) (hcl : closureFor scope c.env = pure clos) (hc : CEs c clos ks)
    (hcell : ∀ x ∈ scope.names, x.2 ≠ .cell) (hco : scope.isCoroutine = false) (hgen : scope.isGenerator = false) (hkf : scope.kind = .function)
    (f1 : ∀ P f cdv cl, (GG.at P ⟨q, scope, f, cdv⟩ cl ks).env.kindOf "NodeView" = some .globalImplicit ∧ nsIn (GG.at P ⟨q, scope, f, cdv⟩ cl ks).K mainGlobals "NodeView" = some (some (.ref 312)) ∧ keepOk (GG.at P ⟨q, scope, f, cdv⟩ cl ks).K (.ref 312) = true ∧ (GG.at P ⟨q, scope, f, cdv⟩ cl ks).env.kindOf xn = some .free ∧ (GG.at P ⟨q, scope, f, cdv⟩ cl ks).env.kindOf "number" = some .free)
    (l1 : ks.lookup xn = some (σ₀.length + i)) (v1 : vs[i]? = some (some (.bytes b))) (l2 : ks.lookup ("number" : Str) = some (σ₀.length + j)) (v2 : vs[j]? = some (some (.int number))) (d1 : (xn == ("__debug__" : Str)) = false) (d2 : (xn == ("__classdict__" : Str)) = false)
    (hl : b.length = 128) (hp : number.natAbs < 2 ^ 60) (mo : MethOk 312 meth M) (hm : ∀ x, (viewFs x number).lookup meth = none)
    (hcall : ∀ env, eval (.Call (.Attribute (.Call (.Name "NodeView" p2) [.Name xn p3, .Name "number" p4, .Constant (.int 128) kc p5] [] p6) meth p7) [] [] p8) env = (do
      let ov ← eval (.Call (.Name "NodeView" p2) [.Name xn p3, .Name "number" p4, .Constant (.int 128) kc p5] [] p6) env
      standAt p7.atName
      let (f, first) ← holding [ov] (getMethod ov meth (pl env))
      callWith p8 f first (backTo p8 (starEach [] env)) []))
    (href : ∀ {c : Cx} {σ' : List AO} {v d x : Nat} {X' : List AO → Prop}, c.Std GG → Room c 8 → VW σ' v b number d x → (∀ σ2, Ex σ' σ2 → X' σ2) → WC c (.ref M) [.loc v] σ' [] (fun _ _ => False) X')
    (h : ∀ σ2, BSt σ₀ σ2 n vs S q tn → K (.bool true) σ2) :
    WEP c (.Call (.Name "_law_is_refused" p1) [.Lambda noPars (.Call (.Attribute (.Call (.Name "NodeView" p2) [.Name xn p3, .Name "number" p4, .Constant (.int 128) kc p5] [] p6) meth p7) [] [] p8) scope lp] [] cp) σ m K X := by
  refine WEP_ref (N := 8) std room gd hk hg hko hq hP hK hqq B.t hcl hc hcell hco hgen hkf fun σ1 y1 t1 P f cdv cl rm gd' => ?_
  have B1 := B.lam y1 t1 hS hlt hne
  obtain ⟨z1, z2, z3, z4, z5⟩ := f1 P f cdv cl
  refine WEP_meth0 (WEP_view (N := 6) (Gl.at_std ..) rm gd' z1 z2 z3 z4 l1 (B1.c i _ v1) z5 l2 (B1.c j _ v2) d1 d2 hl hp fun σ2 v d x y2 hw => ?_) hcall
  intro g _
  exact WM_m mo ⟨_, rfl⟩ hw.hv hw.hd (hm x) (WCP.of (href (re_std (Gl.at_std ..)) (re_room rm) hw fun σ3 y3 => h _ ((B1.new y2).new y3)))
theorem WSP_if_ref2 {g : Heap} {A rest : List Stmt} {e1 e2 : Expr} {es1 es2 : List Expr} {cp1 np1 cp2 np2 bp ip : Pos}
    (h : ∀ K1 : PV → List AO → Prop, (∀ σ1, (∀ (g1 : Heap) (K2 : PV → List AO → Prop), (∀ σ2, jRef c rest m Kn Kr X σ2 → K2 (.bool true) σ2) → WEP (c.re g1) (.Call e2 es2 [] cp2) σ1 m K2 X) → K1 (.bool true) σ1) → WEP (c.re g) (.Call e1 es1 [] cp1) σ m K1 X) :
    WSP (c.re g) (.If (.BoolOp .Or [.UnaryOp .Not (.Call e1 es1 [] cp1) np1, .UnaryOp .Not (.Call e2 es2 [] cp2) np2] bp) A [] ip :: rest) σ m Kn Kr X :=
  WSP_cons (WS1P_if (WBP_or1 (WBP_not (WBP_plain (h _ fun σ1 h2 => fun _ _ => WT_bool fun g2 _ => WBP_or1 (WBP_not (WBP_plain (h2 g2 _ fun σ2 hr => fun _ _ => WT_bool fun g3 _ => WBP_or0 fun g4 _ => WSP_nil fun g5 _ => hr g5))))))))
end
end Nv
end
section
open PySem PySem.W PySem.Calls PyProof.Rows PyProof.V PySem.Spec
namespace Nv
section
variable {c : Cx} {σ : List AO} {m : Nm} {K : PV → List AO → Prop} {Kn : Nm → List AO → Prop} {Kr : PV → List AO → Prop} {X : List AO → Prop}
theorem ar_fo {C q1 q2 f o : Int} (h0 : 57 ≤ C) (hq : C ≤ q1 ∧ 4 ≤ q2 ∧ q2 ≤ 7 ∧ q1 + q2 ≤ 128) (h : f = q1 ∧ o = q2 ∨ f = 0 ∧ o = 3 ∨ f = 0 ∧ o = 129 - q1) : 0 ≤ f ∧ f < 65536 ∧ 0 ≤ o ∧ o < 65536 := by
  have a1 : 0 ≤ q1 := Int.le_trans (by decide) (Int.le_trans h0 hq.1)
  have a2 : q1 ≤ 128 := Int.le_trans (Int.le_add_of_nonneg_right (Int.le_trans (by decide) hq.2.1)) hq.2.2.2
  rcases h with ⟨e1, e2⟩ | ⟨e1, e2⟩ | ⟨e1, e2⟩ <;> rw [e1, e2]
  · exact ⟨a1, Int.lt_of_le_of_lt a2 (by decide), Int.le_trans (by decide) hq.2.1, Int.lt_of_le_of_lt hq.2.2.1 (by decide)⟩
  · decide
  · exact ⟨by decide, by decide, Int.sub_nonneg_of_le (Int.le_trans a2 (by decide)), Int.lt_of_le_of_lt (Int.sub_le_self _ a1) (by decide)⟩
theorem ar_other {p l x : Int} (hp : 8 ≤ p ∧ p ≤ 44) (hl : 0 ≤ l) (hl1 : 0 < l) (hl3 : l ≤ 3) (h : x = 125 ∨ x = 128 ∨ x = 999 ∨ x = 0 ∨ x = p + 2 * l - 1) : 0 ≤ x ∧ x < 65536 ∧ (x < p + 2 * l ∨ 128 < x + 4) := by
  rcases h with rfl | rfl | rfl | rfl | rfl
  · exact ⟨by decide, by decide, .inr (by decide)⟩
  · exact ⟨by decide, by decide, .inr (by decide)⟩
  · exact ⟨by decide, by decide, .inr (by decide)⟩
  · exact ⟨by decide, by decide, .inl (by lia)⟩
  · exact ⟨by lia, by lia, .inl (by lia)⟩
theorem WSP.wk {m₂ : Nm} {ss : List Stmt} (w : Wk m₂ m) (h : WSP c ss σ m₂ Kn Kr X) : WSP c ss σ m Kn Kr X := fun T R s st => h T R s (st.wk w)
theorem ct_bent_right (std : c.Std GG) (room : Room c 12) (hgd : c.A.guards = some []) {n kpl kb : Nat} {b : List UInt8} {number kind right content lost : Int} {cs : List CD} {plc : List Int} {bl : List (Int × Int)} (hl : Laid number kind right cs b content plc bl lost) (hh : Hd number kind right b content plc bl lost)
    (h4 : kind = 2 ∨ kind = 5 ∨ kind = 10 ∨ kind = 13) (hs : Src σ n) (hn : 3 ≤ n) (ht : TabOk σ 0 qB) (e1 : σ[kpl]? = some (.list (plc.map .int))) (e2 : σ[kb]? = some (.list (bl.map pairPV))) (hkn : kpl ≠ n ∧ kb ≠ n ∧ kpl ≠ 0 ∧ kb ≠ 0) (hp : number.natAbs < 2 ^ 60)
    (h : ∀ σ', ExB [0, n] σ σ' → TabOk σ' 0 qB → K (.bool true) σ') : WCP c (.ref 394) [.loc n, .bytes b, .int number, .tup [.bytes b, .int content, .loc kpl, .loc kb, .int lost], .int (ptr b number)] σ m K X := by
  refine WCoP.wcp <| WCoP_defc' ["source", "octets", "number", "laid", "first"] ["spoilt", "none", "last", "bent", "at", "ahead", "base", "number", "octets"] std room hgd (fun _ => rfl) (fun _ => rfl) (fun _ _ _ _ _ => rfl) rfl (by decide) (fun _ => rfl) (by decide) rfl rfl rfl ?_
  intro P σ0 ex0 hcells hl0 rm gd
  have hlt := hs.lt
  have hlp := lt_of_lk e1
  have hlb := lt_of_lk e2
  have htl := ht.lt
  have B0 : BSt σ σ0 n [none, none, none, none, none, none, none, some (.int number), some (.bytes b)] [0, n] qB 0 := ⟨hs.ex ex0 (by simp), ht.ex ex0 (by simp), ex0.to, fun k v e => by
    match k, e with
    | 0, e => cases e; exact hcells 0 _ rfl
    | 1, e => cases e; exact hcells 1 _ rfl
    | 2, e => cases e; exact hcells 2 _ rfl
    | 3, e => cases e; exact hcells 3 _ rfl
    | 4, e => cases e; exact hcells 4 _ rfl
    | 5, e => cases e; exact hcells 5 _ rfl
    | 6, e => cases e; exact hcells 6 _ rfl
    | 7, e => cases e; exact hcells 7 _ rfl
    | 8, e => cases e; exact hcells 8 _ rfl⟩
  clear hcells ex0
  have C0 := B0.c
  have hru := rm.u
  have hpl3 : (plc.map PV.int).length = plc.length := List.length_map _
  have hpl4 : plc.length ≤ 3 := by rw [hl.np]; exact hl.n3
  have hq := ptr_le b number
  have hbn := hl.len
  refine WSP_step ?_
  (refine WS1_asgS ?_; refine WE_vx (unstop ?_); refine WG_tup (by decide) (by decide) rfl ?_; refine unstop ?_; refine WG_tup (by decide) (by decide) rfl ?_; refine unstop ?_; refine WG_tup (by decide) (by decide) rfl ?_; refine unstop ?_; refine ⟨_, rfl, rfl, ?_⟩; refine WAn_cons ?_; refine WN_loc rfl rfl ?_; refine WAn_cons ?_; refine WN_loc rfl rfl ?_; refine WAn_cons ?_; refine WN_loc rfl rfl ?_; refine WAn_nil ?_)
  refine WSP_step (WS1_asg (WE.mono (K := fun pv σ' => pv = .int (pbase number) ∧ σ0 = σ') ?_ ?_))
  · (refine WE_vx (unstop ?_); refine WE_cell rfl rfl (by exact CelL.at' 7 (by assumption) (by rfl) (by rfl)) ?_; refine unstop ?_)
    refine mdec (fun _ => ?_) (fun _ => ?_) <;> (refine WE_vx (unstop ?_); refine unstop ?_)
    · rename_i hb
      (repeat refine unstop ?_); exact ⟨by unfold pbase; rw [if_pos hb], rfl⟩
    · rename_i hb
      (repeat refine unstop ?_); exact ⟨by unfold pbase; rw [if_neg hb], rfl⟩
  rintro _ _ ⟨rfl, rfl⟩
  (refine WN_cell (p0 := ?pv1) rfl rfl ?hv1 ?_; (case hv1 => exact CelL.at' 6 (by assumption) (by rfl) (by rfl)))
  have B1 := B0.cell 6 (some (.int (pbase number))) (Nat.le_of_ble_eq_true rfl) hlt htl
  generalize σ0.set (σ.length + 6) (.cell (some (.int (pbase number)))) = σ1 at B1 ⊢
  clear B0 C0 hl0
  have C1 := B1.c
  refine WSP_cons (WS1P.mono (Kn := fun m' σ' => lkN m' "source" = some (.loc n) ∧ lkN m' "content" = some (.int content) ∧ lkN m' "blocks" = some (.loc kb) ∧ ∃ v3 v4, BSt σ σ' n [none, none, none, v3, v4, none, some (.int (pbase number)), some (.int number), some (.bytes b)] [0, n] qB 0) (WS1P_if0 ?_) ?_)
  · refine WB_vcmp rfl (unstop ?_)
    have el : (σ1 ++ [AO.list []])[kpl]? = some (.list (plc.map .int)) := lk_app (B1.x.get (by simp; lia) e1)
    have B2 := B1.new (ExB.app [] σ1 [AO.list []])
    cases plc with
    | nil =>
      refine WO_neL (n := 0) (l := []) (k := []) el lk_last (.nil _) (by lia) ?_
      (refine unstop ?_; refine mff rfl ?_)
      exact WSP_nil ⟨rfl, rfl, rfl, _, _, B2⟩
    | cons p0 pr =>
      have hps : 0 < (p0 :: pr).length := Nat.succ_pos _
      refine WO_neLen (l := (p0 :: pr).map .int) (k := []) el lk_last (by simp) (by lia) ?_
      generalize σ1 ++ [AO.list []] = σ2 at el B2 ⊢
      clear B1 C1
      have C2 := B2.c
      (refine unstop ?_; refine mtt rfl ?_)
      refine WSP_step ?_
      (refine WS1_asgT ?_; refine WE_vx (unstop ?_); refine WC_lenL (by assumption) (by lia) ?_; refine unstop ?_)
      refine ct_take (Gl.at_std ..) (rm.mono (by decide)) B2.s (by lia) (by lia) fun r σ3 r0 r1 y3 hs3 => ?_
      have B3 := (B2.draw y3 hs3 (by simp) hlt (by lia)).new (ExB.app [] σ3 [AO.list [.int 125, .int 128, .int 999, .int 0, .int (ptr b number + 2 * ↑((p0 :: pr).map PV.int).length - 1)]])
      have el3 := y3.get (by simp; (clear hlp; lia)) el
      clear B2 C2
      (refine unstop ?_; refine WC_lenL (by assumption) (by lia) ?_; refine unstop ?_; refine WO_mul (mulOk64 (by decide) (by lia)) ?_; refine unstop ?_)
      refine ct_one (Gl.at_std ..) (rm.mono (by decide)) B3.s lk_last (by have := hs3.lt; lia) (by simp) (Nat.le_of_ble_eq_true rfl) fun j pv σ4 hj y4 hs4 => ?_
      obtain ⟨other, hz, rfl⟩ := pick_int (zs := [125, 128, 999, 0, ptr b number + 2 * ↑((p0 :: pr).map PV.int).length - 1]) rfl hj
      have B4 := B3.draw y4 hs4 (by simp) hlt (by lia)
      have el4 := y4.get (by simp; lia) (lk_app (l := [AO.list [.int 125, .int 128, .int 999, .int 0, .int (ptr b number + 2 * ↑((p0 :: pr).map PV.int).length - 1)]]) el3)
      clear B3 y3 y4 hs3 hs4 el el3
      have C4 := B4.c
      have hz2 : 0 ≤ other ∧ other < 65536 ∧ (other < ptr b number + 2 * ↑(p0 :: pr).length ∨ 128 < other + 4) := by
        rw [hpl3] at hz
        simp only [List.mem_cons, List.not_mem_nil, or_false] at hz
        exact ar_other hq (Int.natCast_nonneg _) (Int.natCast_pos.mpr hps) (Int.ofNat_le.mpr hpl4) hz
      (refine unstop ?_; refine ⟨_, rfl, rfl, ?_⟩; refine WA_cons ?_; refine WN_cell (p0 := ?pv2) rfl rfl ?hv2 ?_; (case hv2 => exact CelL.at' 4 (by assumption) (by rfl) (by rfl)); refine WA_cons ?_; refine WN_loc rfl rfl ?_; refine WA_nil ?_)
      have B5 := B4.cell 4 (some (.int r)) (Nat.le_of_ble_eq_true rfl) hlt htl
      have el5 : (σ4.set (σ.length + 4) (.cell (some (.int r))))[kpl]? = some (.list ((p0 :: pr).map .int)) := lk_set_ne (by lia) el4
      generalize σ4.set (σ.length + 4) (.cell (some (.int r))) = σ5 at B5 el5 ⊢
      clear B4 C4 el4
      have C5 := B5.c
      rw [hpl3] at r1
      have hX : ptr b number + 2 * r + 2 ≤ 128 := by lia
      obtain ⟨X0, hX0⟩ : ∃ X0 : Nat, (X0 : Int) = ptr b number + 2 * r := ⟨(ptr b number + 2 * r).toNat, by lia⟩
      have hcut1 : Nv.cut b .none (.int (ptr b number + 2 * r)) = b.take X0 := by rw [cut_to (by lia) (by (clear hq; lia))]; congr 1; (clear hp hlt hlp hlb htl hru hq hbn hpl3 hpl4 hps r1 hz2 hX; omega)
      have hcut2 : Nv.cut b (.int (ptr b number + 2 * r + 2)) .none = b.drop (X0 + 2) := by rw [cut_from (by lia) (by (clear hq; lia))]; congr 1; lia
      have htk : (b.take X0).length ≤ 128 := by rw [List.length_take]; (clear r1 hX0; lia)
      have hdr : (b.drop (X0 + 2)).length ≤ 128 := by rw [List.length_drop]; (clear hp hlt hlp hlb htl hru hpl3 hpl4 hps r1 hz2 hX htk; omega)
      have hsub : ∀ y, b.take X0 ++ tw y ++ b.drop (X0 + 2) = sub b X0 (tw y) := fun y => rfl
      have hslen : ∀ y, X0 + (tw y).length ≤ b.length := fun y => by rw [tw_len]; (clear hq; lia)
      refine WSP_step ?_
      (refine vS_ok (unstop ?_); refine WE_slice ?_; refine WE_cell rfl rfl (by exact CelL.at' 8 (by assumption) (by rfl) (by rfl)) ?_; refine WPart_some ?_; refine WE_vx (unstop ?_); refine WE_cell rfl rfl (by exact CelL.at' 4 (by assumption) (by rfl) (by rfl)) ?_; refine unstop ?_; refine WO_mul (mulOk64 (by decide) (by lia)) ?_; refine unstop ?_; refine WGs_bytes (by lia) rfl rfl ?_; refine unstop ?_)
      rw [hcut1]
      refine ct_two (Gl.at_std ..) (rm.mono (by decide)) hz2.1 hz2.2.1 fun σ6 y6 => ?_
      have B6 := B5.new y6
      have el6 := y6.get el5
      clear B5 C5 el5 y6
      have C6 := B6.c
      refine unstop ?_; refine WO_addB (by rw [tw_len]; lia) ?_
      (refine unstop ?_; refine WE_slice ?_; refine WE_cell rfl rfl (by exact CelL.at' 8 (by assumption) (by rfl) (by rfl)) ?_; refine WPart_some ?_; refine WE_vx (unstop ?_); refine WE_cell rfl rfl (by exact CelL.at' 4 (by assumption) (by rfl) (by rfl)) ?_; refine unstop ?_; refine WO_mul (mulOk64 (by decide) (by lia)) ?_; refine unstop ?_; refine WPart_none ?_; refine WGs_bytes (by lia) rfl rfl ?_; refine unstop ?_)
      rw [hcut2]
      refine WO_addB (by rw [List.length_append, tw_len]; lia) ?_
      rw [hsub]
      (refine unstop ?_; refine WN_cell (p0 := ?pv3) rfl rfl ?hv3 ?_; (case hv3 => exact CelL.at' 3 (by assumption) (by rfl) (by rfl)); refine unstop ?_)
      have B7 := B6.cell 3 (some (.bytes (sub b X0 (tw other)))) (Nat.le_of_ble_eq_true rfl) hlt htl
      have el7 : (σ6.set (σ.length + 3) (.cell (some (.bytes (sub b X0 (tw other))))))[kpl]? = some (.list ((p0 :: pr).map .int)) := lk_set_ne (by lia) el6
      generalize σ6.set (σ.length + 3) (.cell (some (.bytes (sub b X0 (tw other))))) = σ7 at B7 el7 ⊢
      clear B6 C6 el6
      have C7 := B7.c
      have hbs : ∀ y, knd (sub b X0 (tw y)) number = knd b number ∧ cnt (sub b X0 (tw y)) number = cnt b number ∧ ptr (sub b X0 (tw y)) number = ptr b number := fun y => sub_ptr (hslen y) (by
        have := ptr_of hh.k h4
        split at this <;> lia)
      have hwr : ∀ y, 0 ≤ y → y < 65536 → w2 (sub b X0 (tw y)) (ptr b number + 2 * r) = y := fun y y0 y1 => (sub_rd (hslen y)).tw' (by lia) y0 y1
      have hcn : cnt b number = (p0 :: pr).length := hh.n
      refine WSP_if_ref fun K' hK' => WEP_ref (N := 6) (tn := 0) (P := 391) (q := qB) (Gl.at_std ..) (rm.mono (by decide)) gd rfl rfl rfl rfl (by decide) rfl rfl B7.t rfl (.cons rfl rfl (.cons rfl rfl (.cons rfl rfl .nil))) (by decide) rfl rfl rfl fun σ8 y8 ht8 P' f' cdv' cl' rm' gd' => ?_
      have B8 := B7.lam y8 ht8 (by simp) htl (by lia)
      have el8 := y8.get (by simp; (clear hlp; lia)) el7
      refine WEP_meth (WEP_view (N := 4) (Gl.at_std ..) (rm'.mono (by decide)) gd' rfl rfl rfl rfl rfl (B8.c 3 _ rfl) rfl rfl (B8.c 7 _ rfl) rfl rfl (by rw [sub_len (hslen other)]; exact hbn) hp fun σ9 v d x y9 hw => ?_)
      intro g hg
      obtain ⟨s1, s2, s3⟩ := hbs other
      have B9 := B8.new y9
      have el9 := y9.get el8
      refine WM_m mo_place ⟨_, rfl⟩ hw.hv hw.hd rfl (WL_cons (WE_free rfl rfl (B9.c 4 _ rfl) (WL_nil ?_)))
      refine WCP.of (ct_place (re_std (Gl.at_std ..)) (re_room (rm'.mono (by decide))) hw (by lia) (fun _ _ => by rw [s3]; (clear hq; lia)) (fun _ _ z1 z2 => ?_) (fun _ => ?_))
      · exfalso
        rw [s3, hwr other hz2.1 hz2.2.1] at z1 z2
        rw [s2] at z1
        (clear hp hlt hlp hlb htl hru hpl3 hpl4 hps r0 r1 hX hX0 htk hdr s1 s2 s3; omega)
      refine hK' _ fun g3 => ?_
      clear hK' hw B7 B8 el8 el7 y8 ht8 y9 K' C7
      have C9 := B9.c
      refine WSP_step ?_
      (refine vS_ok (unstop ?_); refine WC_lenL (by assumption) (by lia) ?_; refine unstop ?_; refine WO_mul (mulOk64 (by decide) (by lia)) ?_; refine unstop ?_)
      have hnear : 0 ≤ ptr b number + 2 * ((p0 :: pr).map PV.int).length ∧ ptr b number + 2 * ((p0 :: pr).map PV.int).length < 65536 := by lia
      refine WSP_step ?_
      (refine vS_ok (unstop ?_); refine WE_slice ?_; refine WE_cell rfl rfl (by exact CelL.at' 8 (by assumption) (by rfl) (by rfl)) ?_; refine WPart_some ?_; refine WE_vx (unstop ?_); refine WE_cell rfl rfl (by exact CelL.at' 4 (by assumption) (by rfl) (by rfl)) ?_; refine unstop ?_; refine WO_mul (mulOk64 (by decide) (by lia)) ?_; refine unstop ?_; refine WGs_bytes (by lia) rfl rfl ?_; refine unstop ?_)
      rw [hcut1]
      refine ct_two (re_std (Gl.at_std ..)) (re_room (rm.mono (by decide))) hnear.1 hnear.2 fun σ10 y10 => ?_
      have B10 := B9.new y10
      clear B9 C9 el9 y10
      have C10 := B10.c
      refine unstop ?_; refine WO_addB (by rw [tw_len]; lia) ?_
      (refine unstop ?_; refine WE_slice ?_; refine WE_cell rfl rfl (by exact CelL.at' 8 (by assumption) (by rfl) (by rfl)) ?_; refine WPart_some ?_; refine WE_vx (unstop ?_); refine WE_cell rfl rfl (by exact CelL.at' 4 (by assumption) (by rfl) (by rfl)) ?_; refine unstop ?_; refine WO_mul (mulOk64 (by decide) (by lia)) ?_; refine unstop ?_; refine WPart_none ?_; refine WGs_bytes (by lia) rfl rfl ?_; refine unstop ?_)
      rw [hcut2]
      refine WO_addB (by rw [List.length_append, tw_len]; lia) ?_
      rw [hsub]
      refine unstop ?_
      obtain ⟨s1', s2', s3'⟩ := hbs (ptr b number + 2 * ((p0 :: pr).map PV.int).length)
      have hwn := hwr _ hnear.1 hnear.2
      have hsl' := sub_len (hslen (ptr b number + 2 * ((p0 :: pr).map PV.int).length))
      refine WSP_cons (WS1P_if (WBP_cmp (WEP_meth (WEP_call ?_))))
      refine WE_nm rfl (unstop ?_)
      (repeat refine unstop ?_); refine ⟨_, rfl, rfl, ?_⟩
      (refine WL_vl rfl (unstop ?_); refine WE_cell rfl rfl (by exact CelL.at' 7 (by assumption) (by rfl) (by rfl)) ?_; refine unstop ?_)
      refine ct_view (c := Cx.re _ g3) (re_std (Gl.at_std ..)) (re_room (rm.mono (by decide))) gd (by rw [hsl']; exact hbn) hp fun σ11 v' d' x' y11 hw => ?_
      intro g4 hg4
      have B11 := B10.new y11
      clear B10 C10 y11
      have C11 := B11.c
      obtain ⟨hv', hd', hx', _, _⟩ := id hw
      (refine WM_m mo_place ⟨_, rfl⟩ (by assumption) (by assumption) rfl ?_; refine WL_vl rfl (unstop ?_); refine WE_cell rfl rfl (by exact CelL.at' 4 (by assumption) (by rfl) (by rfl)) ?_; refine unstop ?_)
      refine WCP.of (ct_place (re_std (re_std (Gl.at_std ..))) (re_room (re_room (rm.mono (by decide)))) hw (by lia) (fun _ _ => by rw [s3']; (clear hq; lia)) (fun _ _ z1 z2 => ?_) (fun hbad => ?_))
      · rw [s3', hwn]
        intro g5 hg5
        refine WE_loc rfl rfl rfl ?_
        refine WO_neI ?_
        refine WT_bool ?_
        try rw [show ((ptr b number + 2 * (((p0 :: pr).map PV.int).length : Int)) != (ptr b number + 2 * (((p0 :: pr).map PV.int).length : Int))) = false from bne_self_eq_false ..]
        intro g6 hg6
        refine WSP_nil ?_
        intro g7 hg7
        exact WSP_nil ⟨rfl, rfl, rfl, _, _, B11⟩
      · exfalso
        rw [s3', hwn, s2', hcn] at hbad
        rw [hpl3] at hbad
        lia
  rintro m' σ2 ⟨g1, g2, g3, v3, v4, B2⟩
  intro g hg
  have C2 := B2.c
  clear B1 C1
  obtain ⟨B, hB⟩ : ∃ B : Nat, pbase number = B := ⟨(pbase number).toNat, by have := pbase_le number; lia⟩
  have hB32 : B ≤ 32 := by have := pbase_le number; lia
  have hcut1 : Nv.cut b .none (.int (pbase number + 1)) = b.take (B + 1) := by rw [cut_to (by lia) (by lia)]; congr 1; lia
  have hcut2 : Nv.cut b (.int (pbase number + 3)) .none = b.drop (B + 3) := by rw [cut_from (by lia) (by lia)]; congr 1; lia
  have hcut3 : Nv.cut b .none (.int (pbase number)) = b.take B := by rw [cut_to (by (clear hcut1; lia)) (by lia)]; congr 1; lia
  have hcut4 : Nv.cut b (.int (pbase number + 1)) .none = b.drop (B + 1) := by rw [cut_from (by lia) (by lia)]; congr 1; lia
  have htk1 : (b.take (B + 1)).length ≤ 128 := by rw [List.length_take]; (clear hq; lia)
  have hdr1 : (b.drop (B + 3)).length ≤ 128 := by rw [List.length_drop]; (clear hp hlt hlp hlb htl hru hpl3 hpl4 hq hB hB32 htk1; omega)
  have htk2 : (b.take B).length ≤ 128 := by rw [List.length_take]; (clear hq hB32; lia)
  have hdr2 : (b.drop (B + 1)).length ≤ 128 := by rw [List.length_drop]; (clear hp hlt hlp hlb htl hru hpl3 hpl4 hq hB hB32 htk1 hdr1 htk2; omega)
  have hsub1 : ∀ y, b.take (B + 1) ++ tw y ++ b.drop (B + 3) = sub b (B + 1) (tw y) := fun y => rfl
  have hsl1 : ∀ y, (sub b (B + 1) (tw y)).length = 128 := fun y => by rw [sub_len (by rw [tw_len]; lia)]; exact hbn
  have c0 := hl.ct0
  have c1 := hl.ct1
  refine WSP.wk (Wk.cons g1 (Wk.cons g2 (Wk.cons g3 (Wk.nil m')))) ?_
  refine WSP_step (WS1_asgTL (WE_comp rfl rfl (.cons rfl rfl (.cons rfl rfl .nil)) ?_))
  refine WE_vx (unstop ?_)
  refine WQ_tupN (xs := [content - 1, 126]) PV.int (fun y => .bytes (sub b (B + 1) (tw y))) rfl (by simp) rfl (fun y σ' C hy e1' => ?_) (fun σ3 y3 => ?_)
  · have hy2 : 0 ≤ y ∧ y < 65536 := by simp at hy; lia
    have C' := C2.ex e1' (fun x hx => by cases hx)
    clear C2
    (refine WE_vx (unstop ?_); refine WE_slice ?_; refine WE_cell rfl rfl (by exact CelL.at' 8 (by assumption) (by rfl) (by rfl)) ?_; refine WPart_some ?_; refine WE_vx (unstop ?_); refine WE_cell rfl rfl (by exact CelL.at' 6 (by assumption) (by rfl) (by rfl)) ?_; refine unstop ?_; refine WGs_bytes (by lia) rfl rfl ?_; refine unstop ?_)
    rw [hcut1]
    refine ct_two (comp_std (re_std (Gl.at_std ..))) (comp_room (re_room (rm.mono (by decide)))) hy2.1 hy2.2 fun σ10 y10 => ?_
    have C'' := C'.ex y10 (fun x hx => by cases hx)
    clear C'
    refine unstop ?_; refine WO_addB (by rw [tw_len]; lia) ?_
    (refine unstop ?_; refine WE_slice ?_; refine WE_cell rfl rfl (by exact CelL.at' 8 (by assumption) (by rfl) (by rfl)) ?_; refine WPart_some ?_; refine WE_vx (unstop ?_); refine WE_cell rfl rfl (by exact CelL.at' 6 (by assumption) (by rfl) (by rfl)) ?_; refine unstop ?_; refine WPart_none ?_; refine WGs_bytes (by lia) rfl rfl ?_; refine unstop ?_)
    rw [hcut2]
    refine WO_addB (by rw [List.length_append, tw_len]; lia) ?_
    rw [hsub1]
    (repeat refine unstop ?_); exact ⟨rfl, e1'.trans y10⟩
  have B3 := (B2.new y3).new (ExB.app [] σ3 [.list ([content - 1, 126].map fun y => PV.bytes (sub b (B + 1) (tw y)))])
  clear B2 C2 y3
  (repeat refine unstop ?_); refine ⟨_, _, rfl, lk_last, rfl, ?_⟩
  generalize σ3 ++ [AO.list ([content - 1, 126].map fun y => PV.bytes (sub b (B + 1) (tw y)))] = σ4 at B3 ⊢
  have C3 := B3.c
  (refine WA_cons ?_; refine WN_cell (p0 := ?pv4) rfl rfl ?hv4 ?_; (case hv4 => exact CelL.at' 5 (by assumption) (by rfl) (by rfl)); refine WA_cons ?_; refine WN_cell (p0 := ?pv5) rfl rfl ?hv5 ?_; (case hv5 => refine lk_set_ne (by lia) ?_; exact CelL.at' 2 (by assumption) (by rfl) (by rfl)); refine WA_nil ?_)
  have B4 := (B3.cell 5 (some (.bytes (sub b (B + 1) (tw (content - 1))))) (Nat.le_of_ble_eq_true rfl) hlt htl).cell 2 (some (.bytes (sub b (B + 1) (tw 126)))) (Nat.le_of_ble_eq_true rfl) hlt htl
  generalize (σ4.set (σ.length + 5) (.cell (some (.bytes (sub b (B + 1) (tw (content - 1))))))).set (σ.length + 2) (.cell (some (.bytes (sub b (B + 1) (tw 126))))) = σ5 at B4 ⊢
  clear B3 C3
  have C4 := B4.c
  have hK4 : kind < 256 ∧ 0 ≤ kind := by lia
  refine WSP_if_ref' fun K' hK' => WEP_refm B4 (.head _) htl (by lia) (P := 391) (i := 2) (j := 7) (re_std (Gl.at_std ..)) (re_room (rm.mono (by decide))) gd rfl rfl rfl rfl (by decide) rfl rfl rfl (.cons rfl rfl (.cons rfl rfl .nil)) (by decide) rfl rfl rfl (fun _ _ _ _ => ⟨rfl, rfl, rfl, rfl, rfl⟩) rfl rfl rfl rfl rfl rfl (hsl1 _) hp mo_blocks (fun _ => rfl) (by intro _; rfl) (fun sd rm' hw hX => ct_blocks (n := 1) (res := none) sd (rm'.mono (by decide)) hw (by decide) (hl.bentFirst hh hB (by decide) (by decide) (.inr (by decide))) (fun _ _ _ _ hr _ => by cases hr) fun σ2 y _ => hX σ2 y) fun σ8 B7 => hK' _ fun g7 => ?_
  clear hK' K' B4 C4
  have C7 := B7.c
  refine WSP_step ?_
  (refine vS_ok (unstop ?_); refine WE_slice ?_; refine WE_cell rfl rfl (by exact CelL.at' 8 (by assumption) (by rfl) (by rfl)) ?_; refine WPart_some ?_; refine WE_cell rfl rfl (by exact CelL.at' 6 (by assumption) (by rfl) (by rfl)) ?_; refine WGs_bytes (by lia) rfl rfl ?_; refine unstop ?_)
  have hlB7 := B7.s.lt
  refine ct_one (re_std (Gl.at_std ..)) (re_room (rm.mono (by decide))) (B7.s.ex (ExB.app [] σ8 _) (by simp)) lk_last (by lia) (by simp) (Nat.le_of_ble_eq_true rfl) fun j pv σ9 hj y9 hs9 => ?_
  obtain ⟨z, hz, rfl⟩ := pick_int (zs := [0, 1, 3, 14, 255]) rfl hj
  have hz2 : 0 ≤ z ∧ z < 256 ∧ isKind z = false := by
    simp only [List.mem_cons, List.not_mem_nil, or_false] at hz
    rcases hz with rfl | rfl | rfl | rfl | rfl <;> decide
  have B8 := (((B7.new (ExB.app [] σ8 _)).draw y9 hs9 (by simp) hlt (by lia)).new (ExB.app [] σ9 [.list [.int z]]))
  clear B7 C7 y9 hs9 hj hz
  refine unstop ?_
  refine WC_bytesL (ns := [z]) lk_last (fun x hx => by rw [List.mem_singleton.mp hx]; lia) (Nat.le_of_ble_eq_true rfl) ?_
  generalize σ9 ++ [AO.list [.int z]] = σ10 at B8 ⊢
  have C8 := B8.c
  rw [hcut3]
  refine unstop ?_; refine WO_addB (by simp only [List.length_map, List.length_cons, List.length_nil]; lia) ?_
  (refine unstop ?_; refine WE_slice ?_; refine WE_cell rfl rfl (by exact CelL.at' 8 (by assumption) (by rfl) (by rfl)) ?_; refine WPart_some ?_; refine WE_vx (unstop ?_); refine WE_cell rfl rfl (by exact CelL.at' 6 (by assumption) (by rfl) (by rfl)) ?_; refine unstop ?_; refine WPart_none ?_; refine WGs_bytes (by lia) rfl rfl ?_; refine unstop ?_; refine WO_addB (by simp only [List.length_cons, List.length_nil, List.length_set, List.length_map, List.length_append, List.length_range, List.length_replicate]; lia) ?_; refine unstop ?_; refine WN_cell (p0 := ?pv6) rfl rfl ?hv6 ?_; (case hv6 => exact CelL.at' 1 (by assumption) (by rfl) (by rfl)); refine unstop ?_)
  rw [hcut4]
  have hsubk : b.take B ++ [z].map toB ++ b.drop (B + 1) = sub b B [toB z] := rfl
  rw [hsubk]
  have hslk : B + ([toB z]).length ≤ b.length := by simp; lia
  have hlk : (sub b B [toB z]).length = 128 := by rw [sub_len hslk]; exact hbn
  have B9 := B8.cell 1 (some (.bytes (sub b B [toB z]))) (Nat.le_of_ble_eq_true rfl) hlt htl
  generalize σ10.set (σ.length + 1) (.cell (some (.bytes (sub b B [toB z])))) = σ11 at B9 ⊢
  clear B8 C8
  have C9 := B9.c
  refine WSP_if_ref' fun K' hK' => WEP_refm B9 (.head _) htl (by lia) (P := 391) (i := 5) (j := 7) (re_std (Gl.at_std ..)) (re_room (rm.mono (by decide))) gd rfl rfl rfl rfl (by decide) rfl rfl rfl (.cons rfl rfl (.cons rfl rfl .nil)) (by decide) rfl rfl rfl (fun _ _ _ _ => ⟨rfl, rfl, rfl, rfl, rfl⟩) rfl rfl rfl rfl rfl rfl (hsl1 _) hp mo_blocks (fun _ => rfl) (by intro _; rfl) (fun sd rm' hw hX => ct_blocks (n := 1) (res := none) sd (rm'.mono (by decide)) hw (by decide) (hl.bentFirst hh hB (by lia) (by (clear hn hp hlt hlp hlb htl hru hpl3 hpl4 hq hbn hB hB32 htk1 hdr1 htk2 hdr2 c0 hlB7 hz2 hslk hlk; omega)) (.inl (by lia))) (fun _ _ _ _ hr _ => by cases hr) fun σ2 y _ => hX σ2 y) fun σ14 B12 => hK' _ fun g11 => ?_
  clear hK' K' B9 C9
  have hkz : knd (sub b B [toB z]) number = z := by
    rw [knd, (sub_rd hslk).by8 (j := 0) (by simp) (i := pbase number) (by assumption)]
    exact toB_toNat hz2.1 hz2.2.1
  refine WSP_if_ref' fun K' hK' => WEP_refm B12 (.head _) htl (by lia) (P := 391) (i := 1) (j := 7) (re_std (Gl.at_std ..)) (re_room (rm.mono (by decide))) gd rfl rfl rfl rfl (by decide) rfl rfl rfl (.cons rfl rfl (.cons rfl rfl .nil)) (by decide) rfl rfl rfl (fun _ _ _ _ => ⟨rfl, rfl, rfl, rfl, rfl⟩) rfl rfl rfl rfl rfl rfl hlk hp mo_kind (fun _ => rfl) (by intro _; rfl) (fun sd rm' hw hX => ct_kind sd (rm'.mono (by decide)) hw (fun hb => by rw [hkz, hz2.2.2] at hb; cases hb) fun _ => hX _ (ExB.refl _ _)) fun σ16 B14 => hK' _ fun g15 => ?_
  clear hK' K' B12
  have C14 := B14.c
  have hbl3 : (bl.map pairPV).length = bl.length := List.length_map _
  have hnbl := hl.nbl
  have hB14s := B14.s.lt
  refine WSP_step ?_
  refine vS_ok (unstop ?_)
  have eb : (σ16 ++ [AO.list []])[kb]? = some (.list (bl.map pairPV)) := lk_app (B14.x.get (by simp; lia) e2)
  have en : (σ16 ++ [AO.list []])[σ16.length]? = some (.list []) := lk_last
  have B15 := B14.new (ExB.app [] σ16 [AO.list []])
  generalize σ16 ++ [AO.list []] = σ17 at eb en B15 ⊢
  clear B14 C14
  have C15 := B15.c
  cases hbq : bl with
  | nil =>
    rw [hbq] at eb
    refine WO_eqL0 eb en (Nat.lt_of_le_of_lt (Nat.add_le_add_left (by decide : 1 ≤ 10 * 11) _) hru) ?_
    (refine unstop ?_; refine mtt rfl ?_)
    refine WS_cons ?_
    refine vS_ok (unstop ?_)
    first | exact h _ B15.x B15.t | exact unstop (h _ B15.x B15.t)
  | cons q0 qr =>
    refine WO_eqLen eb en (by rw [hbq]; simp) (Nat.lt_of_le_of_lt (Nat.le_add_right _ _) hru) ?_
    (refine unstop ?_; refine mff rfl ?_; refine WS_nil ?_)
    refine WSP_step ?_
    (refine WS1_asgT ?_; refine WE_vcall rfl (unstop ?_))
    refine ct_one (re_std (Gl.at_std ..)) (re_room (rm.mono (by decide))) B15.s eb (by (clear hlb; lia)) (by rw [hbq]; simp) (by lia) fun k pv σ18 hk y18 hs18 => ?_
    rw [List.getElem?_map] at hk
    obtain ⟨q, ek, rfl⟩ := Option.map_eq_some_iff.mp hk
    have hqq := hl.blk q (List.mem_of_getElem? ek)
    have B16 := B15.draw y18 hs18 (by simp) hlt (by lia)
    clear B15 C15 y18 hs18 eb en hk
    have C16 := B16.c
    have hpq : pairPV q = .tup [.int q.1, .int q.2] := rfl
    rw [hpq]
    (refine unstop ?_; refine ⟨_, rfl, rfl, ?_⟩; refine WA_cons ?_; refine WN_loc rfl rfl ?_; refine WA_cons ?_; refine WN_loc rfl rfl ?_; refine WA_nil ?_)
    refine WSP_step ?_
    (refine WS1_asgT ?_; refine WE_vcall rfl (unstop ?_))
    have hlB16 := B16.s.lt
    refine ct_one (re_std (Gl.at_std ..)) (re_room (rm.mono (by decide))) (B16.s.ex (ExB.app [] σ18 _) (by simp)) lk_last (by lia) (by simp) (Nat.le_of_ble_eq_true rfl) fun j2 pv σ19 hj2 y19 hs19 => ?_
    have B17 := (B16.new (ExB.app [] σ18 _)).draw y19 hs19 (by simp) hlt (by lia)
    clear B16 C16 y19 hs19
    have C17 := B17.c
    obtain ⟨fo, oo, rfl, hfo⟩ : ∃ fo oo : Int, pv = .tup [.int fo, .int oo] ∧ ((fo = q.1 ∧ oo = q.2) ∨ (fo = 0 ∧ oo = 3) ∨ (fo = 0 ∧ oo = 129 - q.1)) := by
      match j2, hj2 with
      | 0, hj2 => cases hj2; exact ⟨_, _, rfl, .inl ⟨rfl, rfl⟩⟩
      | 1, hj2 => cases hj2; exact ⟨_, _, rfl, .inr (.inl ⟨rfl, rfl⟩)⟩
      | 2, hj2 => cases hj2; exact ⟨_, _, rfl, .inr (.inr ⟨rfl, rfl⟩)⟩
    have hfo2 : 0 ≤ fo ∧ fo < 65536 ∧ 0 ≤ oo ∧ oo < 65536 := ar_fo c0 hqq hfo
    (refine unstop ?_; refine ⟨_, rfl, rfl, ?_⟩; refine WA_cons ?_; refine WN_loc rfl rfl ?_; refine WA_cons ?_; refine WN_loc rfl rfl ?_; refine WA_nil ?_)
    have hcutA : Nv.cut b .none (.int q.1) = b.take q.1.toNat := cut_to (by lia) (by lia)
    have hcutB : Nv.cut b (.int (q.1 + 4)) .none = b.drop (q.1.toNat + 4) := by rw [cut_from (by lia) (by lia)]; exact congrArg (List.drop · b) (Int.toNat_add (ar_fo c0 hqq (.inl ⟨rfl, rfl⟩)).1 (by decide))
    have htkA : (b.take q.1.toNat).length ≤ 128 := by rw [List.length_take]; (clear hqq hfo hj2; lia)
    have hdrB : (b.drop (q.1.toNat + 4)).length ≤ 128 := by rw [List.length_drop]; (clear hp hlt hlp hlb htl hru hpl3 hpl4 hq hB hB32 htk1 hdr1 htk2 hdr2 c0 c1 hK4 hlB7 hz2 hslk hlk hkz hbl3 hnbl hB14s hqq hlB16 hfo2 htkA; omega)
    refine WSP_step ?_
    (refine vS_ok (unstop ?_); refine WE_slice ?_; refine WE_cell rfl rfl (by exact CelL.at' 8 (by assumption) (by rfl) (by rfl)) ?_; refine WPart_some ?_; refine WE_loc rfl rfl rfl ?_; refine WGs_bytes (by lia) rfl rfl ?_; refine unstop ?_)
    rw [hcutA]
    refine ct_two (re_std (Gl.at_std ..)) (re_room (rm.mono (by decide))) hfo2.1 hfo2.2.1 fun σ20 y20 => ?_
    have B18 := B17.new y20
    clear B17 C17 y20
    have C18 := B18.c
    refine unstop ?_; refine WO_addB (by rw [tw_len]; lia) ?_
    refine unstop ?_
    refine ct_two (re_std (Gl.at_std ..)) (re_room (rm.mono (by decide))) hfo2.2.2.1 hfo2.2.2.2 fun σ21 y21 => ?_
    have B19 := B18.new y21
    clear B18 C18 y21
    have C19 := B19.c
    refine unstop ?_; refine WO_addB (by rw [List.length_append, tw_len, tw_len]; lia) ?_
    (refine unstop ?_; refine WE_slice ?_; refine WE_cell rfl rfl (by exact CelL.at' 8 (by assumption) (by rfl) (by rfl)) ?_; refine WPart_some ?_; refine WE_vx (unstop ?_); refine WPart_none ?_; refine WGs_bytes (by lia) rfl rfl ?_; refine unstop ?_)
    rw [hcutB]
    refine WO_addB (by rw [List.length_append, List.length_append, tw_len, tw_len]; lia) ?_
    have hsubS : b.take q.1.toNat ++ tw fo ++ tw oo ++ b.drop (q.1.toNat + 4) = sub b q.1.toNat (tw fo ++ tw oo) := by
      unfold sub
      rw [← List.append_assoc]; rfl
    rw [hsubS]
    have hslS : q.1.toNat + (tw fo ++ tw oo).length ≤ b.length := by rw [List.length_append, tw_len, tw_len]; lia
    have hlS : (sub b q.1.toNat (tw fo ++ tw oo)).length = 128 := by rw [sub_len hslS]; exact hbn
    (refine unstop ?_; refine WN_cell (p0 := ?pv7) rfl rfl ?hv7 ?_; (case hv7 => exact CelL.at' 0 (by assumption) (by rfl) (by rfl)); refine unstop ?_)
    have B20 := B19.cell 0 (some (.bytes (sub b q.1.toNat (tw fo ++ tw oo)))) (Nat.le_of_ble_eq_true rfl) hlt htl
    rw [Nat.add_zero] at B20
    generalize σ21.set σ.length (.cell (some (.bytes (sub b q.1.toNat (tw fo ++ tw oo))))) = σ22 at B20 ⊢
    clear B19 C19
    have C20 := B20.c
    obtain ⟨nb, hnb1, hnb2⟩ := hl.spoilt hh ek hfo
    refine WSP_cons (WS1P_ret (WEP_refm B20 (.head _) htl (by lia) (P := 391) (i := 0) (j := 7) (re_std (Gl.at_std ..)) (re_room (rm.mono (by decide))) gd rfl rfl rfl rfl (by decide) rfl rfl rfl (.cons rfl rfl (.cons rfl rfl .nil)) (by decide) rfl rfl rfl (fun _ _ _ _ => ⟨rfl, rfl, rfl, rfl, rfl⟩) rfl rfl rfl rfl rfl rfl hlS hp mo_blocks (fun _ => rfl) (by intro _; rfl) (fun sd rm' hw hX => ct_blocks (n := nb) (res := none) sd (rm'.mono (by decide)) hw hnb1 hnb2 (fun _ _ _ _ hr _ => by cases hr) fun σ2 y _ => hX σ2 y) fun σ25 B22 => h _ B22.x B22.t))
end
end Nv
end
section
open PySem PySem.W PySem.Calls PyProof.Rows PyProof.V PySem.Spec
namespace Nv
section
variable {c : Cx} {σ : List AO} {m : Nm} {K : PV → List AO → Prop} {Kn : Nm → List AO → Prop} {Kr : PV → List AO → Prop} {X : List AO → Prop} {v d x : Nat} {b : List UInt8} {page : Int}
theorem WSP_stepE {st : Stmt} {rest : List Stmt} (h : WS1 c st σ m (fun m' σ' => m' = m ∧ Ex σ σ') Kr X) (h2 : ∀ σ', Ex σ σ' → WSP c rest σ' m Kn Kr X) : WSP c (st :: rest) σ m Kn Kr X :=
  WSP_step (WS1.mono h fun m' σ' ⟨e1, e2⟩ => by rw [e1]; exact h2 σ' e2)
theorem ct_cell_bad (std : c.Std GG) (room : Room c 6) {i : Int} (hw : VW σ v b page d x) (hi : i.natAbs < 2 ^ 60) (hb : i < 0 ∨ cnt b page ≤ i) (hX : X σ) : WC c (.ref 271) [.loc v, .int i] σ m K X := by
  refine WCo.wc <| WCo_def (names := ["self", "i"]) std room (fun _ => rfl) (fun _ => rfl) (fun _ _ => rfl) rfl rfl (by decide) rfl rfl rfl ?_
  intro P ok rm
  obtain ⟨hv, hd, hx, hl, hp⟩ := id hw
  (refine WS_vb (unstop ?_); refine WS1_asgT ?_; refine WE_vcall rfl (unstop ?_); refine WO_fld fo_data ⟨_, rfl⟩ (by assumption) (by assumption) rfl (by intro u hu; cases hu) ?_; refine unstop ?_; refine WE_meth ?_; refine WE_loc rfl rfl rfl ?_; refine WM_m mo_place ⟨_, rfl⟩ (by assumption) (by assumption) rfl ?_; refine WL_vl rfl (unstop ?_))
  exact ct_place (Gl.at_std ..) (rm.mono (by decide)) hw hi (fun _ _ => by (clear hi hl hp; omega)) (fun _ _ _ _ => by omega) (fun _ => hX)
theorem ct_raw_bad (std : c.Std GG) (room : Room c 6) {i : Int} (hw : VW σ v b page d x) (hi : i.natAbs < 2 ^ 60) (hb : i < 0 ∨ cnt b page ≤ i) (hX : X σ) : WC c (.ref 278) [.loc v, .int i] σ m K X := by
  refine WCo.wc <| WCo_def (names := ["self", "i"]) std room (fun _ => rfl) (fun _ => rfl) (fun _ _ => rfl) rfl rfl (by decide) rfl rfl rfl ?_
  intro P ok rm
  obtain ⟨hv, hd, hx, hl, hp⟩ := id hw
  (refine WS_vb (unstop ?_); refine WE_meth ?_; refine WE_loc rfl rfl rfl ?_; refine WM_m mo_place ⟨_, rfl⟩ (by assumption) (by assumption) rfl ?_; refine WL_vl rfl (unstop ?_))
  exact ct_place (Gl.at_std ..) (rm.mono (by decide)) hw hi (fun _ _ => by omega) (fun _ _ _ _ => by omega) (fun _ => hX)
theorem sames_pairs (σ : List AO) : ∀ bl : List (Int × Int), Sames σ 1 (bl.map pairPV) (bl.map pairPV)
  | [] => .nil _
  | q :: r => .cons (.tup (.cons (.int _ _) (.cons (.int _ _) (.nil _)))) (sames_pairs σ r)
theorem sames_ints (σ : List AO) (n : Nat) : ∀ l : List Int, Sames σ n (l.map .int) (l.map .int)
  | [] => .nil _
  | q :: r => .cons (.int _ _) (sames_ints σ n r)
theorem sames_bytes (σ : List AO) (n : Nat) : ∀ l : List (List UInt8), Sames σ n (l.map .bytes) (l.map .bytes)
  | [] => .nil _
  | q :: r => .cons (.bytes _ _) (sames_bytes σ n r)
end
end Nv
end
section
open PySem PySem.W PySem.Calls PyProof.Rows PyProof.V PySem.Spec
namespace Nv
section
variable {c : Cx} {σ : List AO} {m : Nm} {K : PV → List AO → Prop} {Kn : Nm → List AO → Prop} {Kr : PV → List AO → Prop} {X : List AO → Prop}
noncomputable abbrev qR : Str := "_law_right" ++ ".<locals>." ++ "<lambda>"
theorem ct_right_law (std : c.Std GG) (room : Room c 16) (hgd : c.A.guards = some []) {n : Nat} (hs : Src σ n) (hn : 3 ≤ n) (ht0 : TabOk σ 0 qB) (ht1 : TabOk σ 1 qR)
    (h : ∀ σ', ExB [0, 1, n] σ σ' → TabOk σ' 0 qB → TabOk σ' 1 qR → K (.bool true) σ') : WCP c (.ref 399) [.loc n] σ m K X := by
  refine WCoP.wcp <| WCoP_defc' ["source"] ["view", "cells", "places", "kind", "source"] std room hgd (fun _ => rfl) (fun _ => rfl) (fun _ => rfl) rfl (by decide) (fun _ => rfl) (by decide) rfl rfl rfl ?_
  intro P σ0 ex0 hcells hl0 rm gd
  have hlt := hs.lt
  have htl := ht1.lt
  have B0 : BSt σ σ0 n [none, none, none, none, some (.loc n)] [1, n] qR 1 := ⟨hs.ex ex0 (by simp), ht1.ex ex0 (by simp), ex0.to, fun k v e => by
    match k, e with
    | 0, e => cases e; exact hcells 0 _ rfl
    | 1, e => cases e; exact hcells 1 _ rfl
    | 2, e => cases e; exact hcells 2 _ rfl
    | 3, e => cases e; exact hcells 3 _ rfl
    | 4, e => cases e; exact hcells 4 _ rfl⟩
  clear hcells ex0
  have C0 := B0.c
  have hru := rm.u
  refine WSP_step ?_
  (refine WS1_asgT ?_; refine WE_vx (unstop ?_); refine WE_cell rfl rfl (by exact CelL.at' 4 (by assumption) (by rfl) (by rfl)) ?_; refine unstop ?_)
  have hB0 := B0.s.lt
  refine ct_one (Gl.at_std ..) (rm.mono (by decide)) (B0.s.ex (ExB.app [] σ0 _) (by simp)) lk_last (by (clear hl0; lia)) (by simp) (Nat.le_of_ble_eq_true rfl) fun j1 pv σ1 hj1 y1 hs1 => ?_
  obtain ⟨kind, hk, rfl⟩ := pick_int (zs := [2, 5, 10, 13]) rfl hj1
  have h4 : kind = 2 ∨ kind = 5 ∨ kind = 10 ∨ kind = 13 := by simpa using hk
  have B1 := (B0.new (ExB.app [] σ0 _)).draw y1 hs1 (by simp) hlt (by lia)
  clear B0 C0 y1 hs1 hj1 hk hB0
  have C1 := B1.c
  (refine unstop ?_; refine WE_cell rfl rfl (by exact CelL.at' 4 (by assumption) (by rfl) (by rfl)) ?_; refine unstop ?_)
  have hB1 := B1.s.lt
  refine ct_one (Gl.at_std ..) (rm.mono (by decide)) (B1.s.ex (ExB.app [] σ1 _) (by simp)) lk_last (by lia) (by simp) (Nat.le_of_ble_eq_true rfl) fun j2 pv σ2 hj2 y2 hs2 => ?_
  obtain ⟨number, hnum, rfl⟩ := pick_int (zs := [1, 4]) rfl hj2
  have hnu : number.natAbs < 2 ^ 60 := by
    simp only [List.mem_cons, List.not_mem_nil, or_false] at hnum
    rcases hnum with rfl | rfl <;> decide
  have B2 := (B1.new (ExB.app [] σ1 _)).draw y2 hs2 (by simp) hlt (by lia)
  clear B1 C1 y2 hs2 hj2 hnum hB1
  have C2 := B2.c
  (refine unstop ?_; refine WE_cell rfl rfl (by exact CelL.at' 4 (by assumption) (by rfl) (by rfl)) ?_; refine unstop ?_)
  refine ct_take (Gl.at_std ..) (rm.mono (by decide)) B2.s (by decide) (by decide) fun right σ3 r0 r1 y3 hs3 => ?_
  have B3 := B2.draw y3 hs3 (by simp) hlt (by lia)
  clear B2 C2 y3 hs3
  have C3 := B3.c
  (refine unstop ?_; refine ⟨_, rfl, rfl, ?_⟩; refine WA_cons ?_; refine WN_cell (p0 := ?pv1) rfl rfl ?hv1 ?_; (case hv1 => exact CelL.at' 3 (by assumption) (by rfl) (by rfl)); refine WA_cons ?_; refine WN_loc rfl rfl ?_; refine WA_cons ?_; refine WN_loc rfl rfl ?_; refine WA_nil ?_)
  have B4 := B3.cell 3 (some (.int kind)) (Nat.le_of_ble_eq_true rfl) hlt htl
  generalize σ3.set (σ.length + 3) (.cell (some (.int kind))) = σ4 at B4 ⊢
  clear B3 C3
  have C4 := B4.c
  refine WSP_step (WS1_asg (WE_comp rfl rfl (.cons rfl rfl (.cons rfl rfl .nil)) ?_))
  (refine WE_vcall rfl (unstop ?_); refine WE_cell rfl rfl (by exact CelL.at' 4 (by assumption) (by rfl) (by rfl)) ?_; refine unstop ?_)
  refine ct_take (Gl.at_std ..) (rm.mono (by decide)) B4.s (by decide) (by decide) fun nc σ5 q0 q1 y5 hs5 => ?_
  have B5 := B4.draw y5 hs5 (by simp) hlt (by lia)
  clear B4 C4 y5 hs5
  (refine unstop ?_; refine WC_range1 ?_; refine unstop ?_)
  refine WQ_range (n := nc.toNat) (by lia) (by lia) rfl (fun i ys σ' => ∃ cs : List CD, ys = cs.map CD.pv ∧ (∀ c ∈ cs, CDok kind c) ∧ cs.length = i ∧ BSt σ σ' n ([none, none, none, none, some (PV.loc n)].set 3 (some (PV.int kind))) [1, n] qR 1) ⟨[], rfl, (fun x hx => by cases hx), rfl, B5⟩ ?_ ?_
  · rintro i ys σ' C hi ⟨cs, rfl, z1, z2, z3⟩
    show WE _ _ _ _ _ _
    have Cz := z3.c
    (refine WE_vcall rfl (unstop ?_); refine WE_cell rfl rfl (by exact CelL.at' 4 (by assumption) (by rfl) (by rfl)) ?_; refine unstop ?_; refine WE_cell rfl rfl (by exact CelL.at' 3 (by assumption) (by rfl) (by rfl)) ?_; refine unstop ?_)
    refine ct_cellmake (comp_std (Gl.at_std ..)) (comp_room (rm.mono (by decide))) h4 z3.s fun σ6 oc child rowid size loc hcs y6 hs6 => ?_
    (repeat refine unstop ?_); exact ⟨cs ++ [⟨oc, child, rowid, size, loc⟩], by rw [List.map_append]; rfl, fun c hc => by
      rcases List.mem_append.mp hc with hc | hc
      · exact z1 c hc
      · rw [List.mem_singleton.mp hc]; exact hcs, by rw [List.length_append, z2]; rfl, z3.draw y6 hs6 (by simp) hlt (by lia)⟩
  rintro ys σ6 ⟨cs, rfl, hcd, hcl, B6⟩
  clear B5
  show WN _ _ _ _ _ _
  have B7 := B6.new (ExB.app [] σ6 [AO.list (cs.map CD.pv)])
  have ec7 : (σ6 ++ [AO.list (cs.map CD.pv)])[σ6.length]? = some (.list (cs.map CD.pv)) := lk_last
  have hk6 : σ.length + 5 ≤ σ6.length := lt_of_lk (B6.c 4 _ rfl)
  generalize hkc : σ6.length = kc at ec7 hk6 ⊢
  generalize σ6 ++ [AO.list (cs.map CD.pv)] = σ7 at B7 ec7 ⊢
  clear B6 hkc
  have C7 := B7.c
  (refine WN_cell (p0 := ?pv2) rfl rfl ?hv2 ?_; (case hv2 => exact CelL.at' 1 (by assumption) (by rfl) (by rfl)))
  have hkc7 := lt_of_lk ec7
  have B8 := B7.cell 1 (some (.loc kc)) (Nat.le_of_ble_eq_true rfl) hlt htl
  have ec8 : (σ7.set (σ.length + 1) (.cell (some (.loc kc))))[kc]? = some (.list (cs.map CD.pv)) := lk_set_ne (by lia) ec7
  generalize σ7.set (σ.length + 1) (.cell (some (.loc kc))) = σ8 at B8 ec8 ⊢
  clear B7 C7 ec7 hkc7
  have C8 := B8.c
  have hc3 : cs.length ≤ 3 := by lia
  refine WSP_step ?_
  (refine vS_ok (unstop ?_); refine WE_cell rfl rfl (by exact CelL.at' 3 (by assumption) (by rfl) (by rfl)) ?_; refine unstop ?_; refine WE_cell rfl rfl (by exact CelL.at' 1 (by assumption) (by rfl) (by rfl)) ?_; refine unstop ?_; refine WE_cell rfl rfl (by exact CelL.at' 4 (by assumption) (by rfl) (by rfl)) ?_; refine unstop ?_; refine WE_cell rfl rfl (by exact CelL.at' 1 (by assumption) (by rfl) (by rfl)) ?_; refine unstop ?_)
  refine ct_parts (Gl.at_std ..) (rm.mono (by decide)) B8.s ec8 (by lia) hc3 (fun c hc => (hcd c hc).len) fun σ9 kp ps pk y9 hs9 hkp ep => ?_
  have B9 := B8.draw y9 hs9 (by simp) hlt (by lia)
  have ec9 := y9.get (by simp; lia) ec8
  clear B8 C8 y9 hs9 ec8
  refine unstop ?_
  refine ct_laid (Gl.at_std ..) (rm.mono (by decide)) ec9 ep hc3 pk (by lia) (by lia) r0 (by lia) fun σ10 b content plc bl lost kpl kb hl y10 epl eb hkk => ?_
  have hk9 : σ.length + 5 ≤ σ9.length := lt_of_lk (B9.c 4 _ rfl)
  have B10 := B9.new y10
  have ec10 := y10.get ec9
  clear B9 y10 ec9 ep
  have hh := hl.hd h4 r0 (by lia)
  refine unstop ?_
  refine WSP_step ?_
  refine WS1_asgT (WE_loc rfl rfl rfl ⟨_, rfl, rfl, ?_⟩)
  have C10 := B10.c
  (refine WA_cons ?_; refine WN_loc rfl rfl ?_; refine WA_cons ?_; refine WN_loc rfl rfl ?_; refine WA_cons ?_; refine WN_cell (p0 := ?pv3) rfl rfl ?hv3 ?_; (case hv3 => exact CelL.at' 2 (by assumption) (by rfl) (by rfl)); refine WA_cons ?_; refine WN_loc rfl rfl ?_; refine WA_cons ?_; refine WN_loc rfl rfl ?_; refine WA_nil ?_)
  have B11 := B10.cell 2 (some (.loc kpl)) (Nat.le_of_ble_eq_true rfl) hlt htl
  have ec11 : (σ10.set (σ.length + 2) (.cell (some (.loc kpl))))[kc]? = some (.list (cs.map CD.pv)) := lk_set_ne (by lia) ec10
  have epl11 : (σ10.set (σ.length + 2) (.cell (some (.loc kpl))))[kpl]? = some (.list (plc.map .int)) := lk_set_ne (by lia) epl
  have eb11 : (σ10.set (σ.length + 2) (.cell (some (.loc kpl))))[kb]? = some (.list (bl.map pairPV)) := lk_set_ne (by lia) eb
  generalize σ10.set (σ.length + 2) (.cell (some (.loc kpl))) = σ11 at B11 ec11 epl11 eb11 ⊢
  clear B10 C10 ec10 epl eb
  have C11 := B11.c
  refine WSP_cons (WS1P_asgT (WEP_tup (WLP_cons (WEP_call ?_))))
  refine WE_nm rfl (unstop ?_)
  (repeat refine unstop ?_); refine ⟨_, rfl, rfl, ?_⟩
  refine WL_vl rfl (unstop ?_)
  refine ct_view (Gl.at_std ..) (rm.mono (by decide)) gd hl.len hnu fun σ12 v d x y12 hw12 => ?_
  have B12 := B11.new y12
  have ec12 := y12.get ec11
  have epl12 := y12.get epl11
  have eb12 := y12.get eb11
  clear B11 C11 ec11 epl11 eb11
  have C12 := B12.c
  intro g1 hg1
  have hptr := ptr_of hh.k h4
  refine WL_cons (WE.mono (K := fun pv σ' => pv = .int (ptr b number) ∧ σ12 = σ') ?_ ?_)
  · refine WE_vx (unstop ?_)
    refine mdec (fun _ => ?_) (fun _ => ?_) <;> (refine WE_vx (unstop ?_); refine unstop ?_; refine WE_cell rfl rfl (by exact CelL.at' 3 (by assumption) (by rfl) (by rfl)) ?_; refine unstop ?_) <;> refine mdec (fun _ => ?_) (fun _ => ?_) <;> (refine WE_vx (unstop ?_); refine unstop ?_)
    · rename_i hb1 hb2
      (repeat refine unstop ?_); exact ⟨by rw [hptr, pbase, if_pos hb1, if_pos hb2], rfl⟩
    · rename_i hb1 hb2
      (repeat refine unstop ?_); exact ⟨by rw [hptr, pbase, if_pos hb1, if_neg hb2], rfl⟩
    · rename_i hb1 hb2
      (repeat refine unstop ?_); exact ⟨by rw [hptr, pbase, if_neg hb1, if_pos hb2], rfl⟩
    · rename_i hb1 hb2
      (repeat refine unstop ?_); exact ⟨by rw [hptr, pbase, if_neg hb1, if_neg hb2], rfl⟩
  rintro _ _ ⟨rfl, rfl⟩
  (refine WL_nil ?_; refine ⟨Nat.le_of_ble_eq_true rfl, ?_⟩; refine ⟨_, rfl, rfl, ?_⟩)
  intro g2 hg2
  (refine WA_cons ?_; refine WN_cell (p0 := ?pv4) rfl rfl ?hv4 ?_; (case hv4 => exact CelL.at' 0 (by assumption) (by rfl) (by rfl)); refine WA_cons ?_; refine WN_loc rfl rfl ?_; refine WA_nil ?_)
  have B13 := B12.cell0 (some (.loc v)) (Nat.le_of_ble_eq_true rfl) hlt htl
  have hne : ∀ {a : Nat} {X : AO}, σ12[a]? = some X → (∀ o, X ≠ .cell o) → σ.length ≠ a := fun {a X} e hX he => by
    have := C12 0 _ rfl
    rw [Nat.add_zero, he, e] at this
    first | exact hX _ (Option.some.inj this) | exact unstop (hX _ (Option.some.inj this))
  have hw13 : VW (σ12.set σ.length (.cell (some (.loc v)))) v b number d x :=
    ⟨lk_set_ne (hne hw12.hv (by intro o h; cases h)) hw12.hv, lk_set_ne (hne hw12.hd (by intro o h; cases h)) hw12.hd, lk_set_ne (hne hw12.hx (by intro o h; cases h)) hw12.hx, hw12.len, hw12.pg⟩
  have ec13 : (σ12.set σ.length (.cell (some (.loc v))))[kc]? = some (.list (cs.map CD.pv)) := lk_set_ne (by lia) ec12
  have epl13 : (σ12.set σ.length (.cell (some (.loc v))))[kpl]? = some (.list (plc.map .int)) := lk_set_ne (by lia) epl12
  have eb13 : (σ12.set σ.length (.cell (some (.loc v))))[kb]? = some (.list (bl.map pairPV)) := lk_set_ne (by lia) eb12
  generalize σ12.set σ.length (.cell (some (.loc v))) = σ13 at B13 hw13 ec13 epl13 eb13 ⊢
  clear B12 C12 ec12 epl12 eb12 hw12 hne y12
  have C13 := B13.c
  intro g3 hg3
  obtain ⟨hv13, hd13, hx13, _, _⟩ := id hw13
  have hik : isKind (knd b number) = true := by rw [hh.k]; exact isKind_of h4
  have hb1 : (kind == 13 || kind == 10) = decide (5 < kind) := by rcases h4 with rfl | rfl | rfl | rfl <;> decide
  have hb2 : (kind == 13 || kind == 5) = ([5, 13] : List Int).contains kind := by rcases h4 with rfl | rfl | rfl | rfl <;> decide
  have hlc : (cs.map CD.pv).length = cs.length := List.length_map _
  have hcn : cnt b number = ((cs.map CD.pv).length : Int) := by rw [hh.n, hl.np, hlc]
  refine WSP_stepE ?_ fun σ14 y14 => ?_
  · (refine vS_ok (unstop ?_); refine WE_meth0 ?_; refine WE_cell rfl rfl (by exact CelL.at' 0 (by assumption) (by rfl) (by rfl)) ?_; refine WM_m mo_kind ⟨_, rfl⟩ (by assumption) (by assumption) rfl ?_)
    refine ct_kind' (re_std (Gl.at_std ..)) (re_room (rm.mono (by decide))) hw13 hik ?_
    (refine unstop ?_; refine WE_meth0 ?_; refine WE_cell rfl rfl (by exact CelL.at' 0 (by assumption) (by rfl) (by rfl)) ?_; refine WM_m mo_is_leaf ⟨_, rfl⟩ (by assumption) (by assumption) rfl ?_)
    refine ct_vis_leaf (re_std (Gl.at_std ..)) (re_room (rm.mono (by decide))) hw13 hik ?_
    (refine unstop ?_; refine WE_meth0 ?_; refine WE_cell rfl rfl (by exact CelL.at' 0 (by assumption) (by rfl) (by rfl)) ?_; refine WM_m mo_is_rows ⟨_, rfl⟩ (by assumption) (by assumption) rfl ?_)
    refine ct_vis_rows (re_std (Gl.at_std ..)) (re_room (rm.mono (by decide))) hw13 hik ?_
    (refine unstop ?_; refine WE_meth0 ?_; refine WE_cell rfl rfl (by exact CelL.at' 0 (by assumption) (by rfl) (by rfl)) ?_; refine WM_m mo_count ⟨_, rfl⟩ (by assumption) (by assumption) rfl ?_)
    refine ct_count (re_std (Gl.at_std ..)) (re_room (rm.mono (by decide))) hw13 ?_
    (refine unstop ?_; refine WE_cell rfl rfl (by exact CelL.at' 3 (by assumption) (by rfl) (by rfl)) ?_; refine unstop ?_; refine WE_cell rfl rfl (by exact CelL.at' 3 (by assumption) (by rfl) (by rfl)) ?_; refine unstop ?_; refine WE_cell rfl rfl (by exact CelL.at' 3 (by assumption) (by rfl) (by rfl)) ?_; refine unstop ?_)
    refine WO_inT (ns := [5, 13]) rfl ?_
    (refine unstop ?_; refine WE_cell rfl rfl (by exact CelL.at' 1 (by assumption) (by rfl) (by rfl)) ?_; refine unstop ?_; refine WC_lenL (by assumption) (by clear hcl; lia) ?_; refine unstop ?_)
    rw [hh.k, hb1, hb2, hcn]
    refine WO_neT (n := 0) (.cons (.int _ _) (.cons (.bool _ _) (.cons (.bool _ _) (.cons (.int _ _) (.nil _))))) (Nat.lt_of_le_of_lt (Nat.add_le_add_left (by decide : 1 + 0 ≤ 10 * 15) _) hru) ?_
    (refine unstop ?_; refine mff rfl ?_; refine WS_nil ?_)
    (repeat refine unstop ?_); exact ⟨rfl, ExB.refl _ _⟩
  have B14 := B13.new y14
  have hw14 := hw13.ex y14 (by simp)
  have ec14 := y14.get ec13
  have epl14 := y14.get epl13
  have eb14 := y14.get eb13
  clear B13 C13 ec13 epl13 eb13 hw13 hv13 hd13 hx13 y14
  have C14 := B14.c
  obtain ⟨hv14, hd14, hx14, _, _⟩ := id hw14
  refine WSP_stepE ?_ fun σ15 y15 => ?_
  · (refine vS_ok (unstop ?_); refine WE_meth0 ?_; refine WE_cell rfl rfl (by exact CelL.at' 0 (by assumption) (by rfl) (by rfl)) ?_; refine WM_m mo_pointers ⟨_, rfl⟩ (by assumption) (by assumption) rfl ?_)
    refine ct_pointers (re_std (Gl.at_std ..)) (re_room (rm.mono (by decide))) hw14 ?_
    (refine unstop ?_; refine WE_meth0 ?_; refine WE_cell rfl rfl (by exact CelL.at' 0 (by assumption) (by rfl) (by rfl)) ?_; refine WM_m mo_content ⟨_, rfl⟩ (by assumption) (by assumption) rfl ?_)
    refine ct_content (re_std (Gl.at_std ..)) (re_room (rm.mono (by decide))) hw14 ?_
    (refine unstop ?_; refine WE_meth0 ?_; refine WE_cell rfl rfl (by exact CelL.at' 0 (by assumption) (by rfl) (by rfl)) ?_; refine WM_m mo_fragments ⟨_, rfl⟩ (by assumption) (by assumption) rfl ?_)
    refine ct_fragments (re_std (Gl.at_std ..)) (re_room (rm.mono (by decide))) hw14 ?_
    (refine unstop ?_; refine WE_meth0 ?_; refine WE_cell rfl rfl (by exact CelL.at' 0 (by assumption) (by rfl) (by rfl)) ?_; refine WM_m mo_blocks ⟨_, rfl⟩ (by assumption) (by assumption) rfl ?_)
    refine ct_blocks (res := some bl) (re_std (Gl.at_std ..)) (re_room (rm.mono (by decide))) hw14 hl.nbl (hl.blocks hh) (fun σ16 kk acc z1 z2 z3 => ?_) (fun _ _ hn => by cases hn)
    cases z2
    refine unstop ?_
    rw [hh.c, hh.l]
    refine WO_neT (n := 2) (.cons (.int _ _) (.cons (.int _ _) (.cons (.int _ _) (.cons (.list z3 (z1.get eb14) (sames_pairs _ _)) (.nil _))))) (Nat.lt_of_le_of_lt (Nat.add_le_add_left (by decide : 1 + 2 ≤ 10 * 15) _) hru) ?_
    (refine unstop ?_; refine mff rfl ?_; refine WS_nil ?_)
    (repeat refine unstop ?_); exact ⟨rfl, z1⟩
  have B15 := B14.new y15
  have hw15 := hw14.ex y15 (by simp)
  have ec15 := y15.get ec14
  have epl15 := y15.get epl14
  have eb15 := y15.get eb14
  clear B14 C14 ec14 epl14 eb14 hw14 hv14 hd14 hx14 y15
  have C15 := B15.c
  obtain ⟨hv15, hd15, hx15, _, _⟩ := id hw15
  refine WSP_step ?_
  refine vS_ok (unstop ?_)
  refine WE_comp rfl rfl .nil ?_
  refine WE_cell rfl rfl (by exact CelL.at' 1 (by assumption) (by rfl) (by rfl)) ?_
  refine WQ_mapN (xs := cs) (g := fun c => PV.tup [.bytes c.oc, .int c.child, c.rowid, .int c.size, .bytes c.loc]) (fun c => .int c.child) ec15 (by (clear hcl; lia)) rfl (fun c σ' C hc e1 => ?_) (fun σ16 y16 => ?_)
  · (refine WE_vsub rfl (unstop ?_); refine WG_tup (by decide) (by decide) rfl ?_; refine unstop ?_)
    (repeat refine unstop ?_); exact ⟨rfl, e1⟩
  have hl2 : (cs.map fun c => PV.int c.child).length = cs.length := List.length_map _
  (refine unstop ?_; refine WO_addL (by refine lk_app ?_; exact lk_last) (by exact lk_last) (by simp only [List.length_cons, List.length_nil, List.length_set, List.length_map, List.length_append, List.length_range, List.length_replicate]; clear hcl; lia) ?_; refine unstop ?_)
  have hdue : cs.map (fun c => PV.int c.child) ++ [PV.int right] = (cs.map (fun c => c.child) ++ [right]).map PV.int := by rw [List.map_append, List.map_map]; rfl
  rw [hdue]
  have y17 : Ex σ15 (σ16 ++ [AO.list (cs.map fun c => PV.int c.child)] ++ [AO.list [.int right]] ++ [AO.list ((cs.map (fun c => c.child) ++ [right]).map PV.int)]) := y16.trans ((ExB.app _ _ _).trans ((ExB.app _ _ _).trans (ExB.app _ _ _)))
  have ed : (σ16 ++ [AO.list (cs.map fun c => PV.int c.child)] ++ [AO.list [.int right]] ++ [AO.list ((cs.map (fun c => c.child) ++ [right]).map PV.int)])[(σ16 ++ [AO.list (cs.map fun c => PV.int c.child)] ++ [AO.list [.int right]]).length]? = some (.list ((cs.map (fun c => c.child) ++ [right]).map PV.int)) := lk_last
  generalize (σ16 ++ [AO.list (cs.map fun c => PV.int c.child)] ++ [AO.list [.int right]]).length = kd at ed ⊢
  generalize σ16 ++ [AO.list (cs.map fun c => PV.int c.child)] ++ [AO.list [.int right]] ++ [AO.list ((cs.map (fun c => c.child) ++ [right]).map PV.int)] = σ17 at ed y17 ⊢
  have B17 := B15.new y17
  have hw17 := hw15.ex y17 (by simp)
  have ec17 := y17.get ec15
  have epl17 := y17.get epl15
  have eb17 := y17.get eb15
  clear B15 C15 ec15 epl15 eb15 hw15 hv15 hd15 hx15 y17 y16
  have C17 := B17.c
  obtain ⟨hv17, hd17, hx17, _, _⟩ := id hw17
  refine WSP_stepE ?_ fun σ18 y18 => ?_
  · by_cases hk10 : kind < 10
    · have h25 : knd b number = 2 ∨ knd b number = 5 := by rw [hh.k]; lia
      have hf : ∀ i : Nat, i < cs.length → ∃ at', CellOk b number i at' ∧ w4 b at' = (cs.map (fun c => c.child) ++ [right]).getD i 0 := fun i hi => by
        have hip : i < plc.length := by rw [hl.np]; exact hi
        have ei : plc[i]? = some plc[i] := List.getElem?_eq_getElem hip
        obtain ⟨cc, ecc, q1, q2, q3, q4⟩ := hl.pl ei
        have hcc := hcd cc (List.mem_of_getElem? ecc)
        have hp0 : ((plc[i].toNat : Nat) : Int) = plc[i] := by have := hl.ct0; lia
        have hca := cellAt_of hcc q4 (by rw [hl.len]; lia)
        rw [hp0] at hca
        (repeat refine unstop ?_); refine ⟨_, hh.cellOk hl ei, ?_⟩
        have hg : (cs.map (fun c => c.child) ++ [right]).getD i 0 = cc.child := by
          rw [List.getD_eq_getElem?_getD, List.getElem?_append_left (by rw [List.length_map]; exact hi), List.getElem?_map, ecc]; rfl
        rw [hg]
        rcases hca.sh with ⟨hk, N, z1, z2, _⟩ | ⟨hk, a, z1, z2, _⟩ | ⟨hk, _⟩ | ⟨hk, _⟩
        · exact z2.symm
        · exact z2.symm
        · lia
        · lia
      have hgr : w4 b (pbase number + 8) = (cs.map (fun c => c.child) ++ [right]).getD cs.length 0 := by
        rw [hh.r hk10, List.getD_eq_getElem?_getD, List.getElem?_append_right (by rw [List.length_map]; exact Nat.le_refl _), List.length_map, Nat.sub_self]; rfl
      have hmap : (List.range (cs.length + 1)).map (fun i => PV.int ((cs.map (fun c => c.child) ++ [right]).getD i 0)) = (cs.map (fun c => c.child) ++ [right]).map PV.int := by
        apply List.ext_getElem?
        intro j
        rw [List.getElem?_map, List.getElem?_map]
        by_cases hj : j < cs.length + 1
        · have hj2 : j < (cs.map (fun c => c.child) ++ [right]).length := by rw [List.length_append, List.length_map]; exact hj
          rw [List.getElem?_range hj, List.getElem?_eq_getElem hj2]
          show some (PV.int ((cs.map (fun c => c.child) ++ [right]).getD j 0)) = some (PV.int _)
          rw [List.getD_eq_getElem?_getD, List.getElem?_eq_getElem hj2]; rfl
        · rw [List.getElem?_eq_none (by rw [List.length_range]; (clear hcl; lia)), List.getElem?_eq_none (by rw [List.length_append, List.length_map]; simp; (clear hcl; lia))]; rfl
      (refine vS_ok (unstop ?_); refine WE_meth0 ?_; refine WE_cell rfl rfl (by exact CelL.at' 0 (by assumption) (by rfl) (by rfl)) ?_; refine WM_m mo_children ⟨_, rfl⟩ (by assumption) (by assumption) rfl ?_)
      refine ct_children (n := cs.length) (re_std (Gl.at_std ..)) (re_room (rm.mono (by decide))) (fun i => (cs.map (fun c => c.child) ++ [right]).getD i 0) hw17 h25 (by rw [hcn, hlc]) (by (clear hcl; lia)) hf hgr fun σ19 kk z1 z2 => ?_
      rw [hmap] at z2
      have C19 := C17.ex z1 (fun x hx => by cases hx)
      have hw19 := hw17.ex z1 (by simp)
      obtain ⟨hv19, hd19, hx19, _, _⟩ := id hw19
      have ed19 := z1.get ed
      clear C17
      (refine unstop ?_; refine WE_cell rfl rfl (by exact CelL.at' 3 (by assumption) (by rfl) (by rfl)) ?_; refine unstop ?_; refine mdec (fun _ => ?_) (fun _ => ?_); rotate_left; (exfalso; lia); refine WE_loc rfl rfl rfl ?_; refine unstop ?_)
      refine WO_neL (n := 0) z2 ed19 (sames_ints _ _ _) (Nat.lt_of_le_of_lt (Nat.add_le_add_left (by decide : 1 + 0 ≤ 10 * 15) _) hru) ?_
      (refine unstop ?_; refine mff rfl ?_; refine WB_vx (unstop ?_); refine WE_cell rfl rfl (by exact CelL.at' 3 (by assumption) (by rfl) (by rfl)) ?_; refine unstop ?_; refine mdec (fun _ => ?_) (fun _ => ?_); rotate_left; (exfalso; lia); refine WB_vx (unstop ?_); refine WE_meth0 ?_; refine WE_cell rfl rfl (by exact CelL.at' 0 (by assumption) (by rfl) (by rfl)) ?_; refine WM_m mo_right ⟨_, rfl⟩ (by assumption) (by assumption) rfl ?_)
      refine ct_right (re_std (Gl.at_std ..)) (re_room (rm.mono (by decide))) hw19 ?_
      refine unstop ?_
      try rw [hh.r hk10, show (right != right) = false from bne_self_eq_false ..]
      (refine unstop ?_; refine unstop ?_; refine mff rfl ?_; refine WB_vx (unstop ?_); refine unstop ?_; refine unstop ?_; refine mff rfl ?_; refine WS_nil ?_)
      (repeat refine unstop ?_); exact ⟨rfl, z1⟩
    · have h25 : knd b number = 13 ∨ knd b number = 10 := by rw [hh.k]; lia
      (refine vS_ok (unstop ?_); refine WE_meth0 ?_; refine WE_cell rfl rfl (by exact CelL.at' 0 (by assumption) (by rfl) (by rfl)) ?_; refine WM_m mo_children ⟨_, rfl⟩ (by assumption) (by assumption) rfl ?_)
      refine ct_children_leaf (re_std (Gl.at_std ..)) (re_room (rm.mono (by decide))) hw17 h25 fun σ19 kk z1 z2 => ?_
      have C19 := C17.ex z1 (fun x hx => by cases hx)
      clear C17
      (refine unstop ?_; refine WE_cell rfl rfl (by exact CelL.at' 3 (by assumption) (by rfl) (by rfl)) ?_; refine unstop ?_; refine mdec (fun _ => ?_) (fun _ => ?_); (exfalso; lia); refine WE_vx (unstop ?_); refine unstop ?_)
      refine WO_neL (n := 0) (l := []) (k := []) (lk_app z2) lk_last (.nil _) (Nat.lt_of_le_of_lt (Nat.add_le_add_left (by decide : 1 + 0 ≤ 10 * 15) _) hru) ?_
      have C20 := C19.ex (ExB.app [] σ19 [AO.list []]) (fun x hx => by cases hx)
      clear C19
      (refine unstop ?_; refine mff rfl ?_; refine WB_vx (unstop ?_); refine WE_cell rfl rfl (by exact CelL.at' 3 (by assumption) (by rfl) (by rfl)) ?_; refine unstop ?_; refine mdec (fun _ => ?_) (fun _ => ?_); (exfalso; lia); refine unstop ?_; refine mff rfl ?_; refine WB_vx (unstop ?_); refine unstop ?_; refine unstop ?_; refine mff rfl ?_; refine WS_nil ?_)
      (repeat refine unstop ?_); exact ⟨rfl, z1.trans (ExB.app _ _ _)⟩
  have B18 := B17.new y18
  have hw18 := hw17.ex y18 (by simp)
  have ec18 := y18.get ec17
  have epl18 := y18.get epl17
  have eb18 := y18.get eb17
  clear B17 C17 ec17 epl17 eb17 hw17 hv17 hd17 hx17 y18 ed
  have C18 := B18.c
  obtain ⟨hv18, hd18, hx18, _, _⟩ := id hw18
  refine WSP_stepE ?_ fun σ20 y20 => ?_
  · refine vS_ok (unstop ?_)
    refine WE_comp rfl rfl (.cons rfl rfl (.cons rfl rfl (.cons rfl rfl (.cons rfl rfl .nil)))) ?_
    (refine WE_vcall rfl (unstop ?_); refine WE_cell rfl rfl (by exact CelL.at' 1 (by assumption) (by rfl) (by rfl)) ?_; refine unstop ?_; refine WC_lenL (by assumption) (by clear hcl; lia) ?_; refine unstop ?_; refine WC_range1 ?_; refine unstop ?_)
    refine WQ_range (n := cs.length) (by rw [hlc]) (by (clear hcl; lia)) rfl (fun i ys σ' => ys = [] ∧ Ex σ18 σ') ⟨rfl, ExB.refl _ _⟩ ?_ ?_
    · rintro i ys σ' C hi ⟨rfl, e1⟩
      have hip : i < plc.length := by rw [hl.np]; exact hi
      have ei : plc[i]? = some plc[i] := List.getElem?_eq_getElem hip
      have ecc : cs[i]? = some cs[i] := List.getElem?_eq_getElem hi
      have C' := C18.ex e1 (fun x hx => by cases hx)
      have hw' := hw18.ex e1 (by simp)
      have ec' := e1.get ec18
      have epl' := e1.get epl18
      clear C18
      show WB _ _ _ _ _ _
      (refine WB_vx (unstop ?_); refine WE_cell rfl rfl (by exact CelL.at' 0 (by assumption) (by rfl) (by rfl)) ?_; refine unstop ?_; refine WE_cell rfl rfl (by exact CelL.at' 3 (by assumption) (by rfl) (by rfl)) ?_; refine unstop ?_; refine WE_cell rfl rfl (by exact CelL.at' 2 (by assumption) (by rfl) (by rfl)) ?_; refine unstop ?_)
      refine WG_list epl' (by lia) (by (clear hcl; lia)) (pv := .int plc[i]) (by rw [Int.toNat_natCast, List.getElem?_map, ei]; rfl) ?_
      (refine unstop ?_; refine WE_cell rfl rfl (by exact CelL.at' 1 (by assumption) (by rfl) (by rfl)) ?_; refine unstop ?_)
      refine WG_list ec' (by lia) (by (clear hcl; lia)) (pv := (cs[i]).pv) (by rw [Int.toNat_natCast, List.getElem?_map, ecc]; rfl) ?_
      refine unstop ?_
      refine ct_cell_right (comp_std (re_std (Gl.at_std ..))) (comp_room (re_room (rm.mono (by decide)))) hw' hl hh h4 hcd ei ecc fun σ21 y21 => ?_
      (refine unstop ?_; refine mff rfl ?_)
      (repeat refine unstop ?_); exact ⟨rfl, e1.trans y21⟩
    rintro ys σ21 ⟨rfl, y21⟩
    refine unstop ?_
    refine WO_neL (n := 0) (l := []) (k := []) (lk_app lk_last) lk_last (.nil _) (Nat.lt_of_le_of_lt (Nat.add_le_add_left (by decide : 1 + 0 ≤ 10 * 15) _) hru) ?_
    (refine unstop ?_; refine mff rfl ?_; refine WS_nil ?_)
    (repeat refine unstop ?_); exact ⟨rfl, y21.trans ((ExB.app _ _ _).trans (ExB.app _ _ _))⟩
  have B20 := B18.new y20
  have hw20 := hw18.ex y20 (by simp)
  have ec20 := y20.get ec18
  have epl20 := y20.get epl18
  have eb20 := y20.get eb18
  clear B18 C18 ec18 epl18 eb18 hw18 hv18 hd18 hx18 y20
  have C20 := B20.c
  obtain ⟨hv20, hd20, hx20, _, _⟩ := id hw20
  refine WSP_stepE ?_ fun σ22 y22 => ?_
  · (refine vS_ok (unstop ?_); refine WB_cmp ?_; refine WE_meth0 ?_; refine WE_cell rfl rfl (by exact CelL.at' 0 (by assumption) (by rfl) (by rfl)) ?_; refine WM_m mo_raws ⟨_, rfl⟩ (by assumption) (by assumption) rfl ?_)
    refine ct_raws (n := cs.length) (re_std (Gl.at_std ..)) (re_room (rm.mono (by decide))) (fun i => (cs.map CD.oc).getD i []) hw20 hik (by rw [hcn, hlc]) (by (clear hcl; lia)) (fun i hi => ?_) fun σ23 kk z1 z2 => ?_
    · have hip : i < plc.length := by rw [hl.np]; exact hi
      have ei : plc[i]? = some plc[i] := List.getElem?_eq_getElem hip
      obtain ⟨cc, ecc, q1, q2, q3, q4⟩ := hl.pl ei
      have hcc := hcd cc (List.mem_of_getElem? ecc)
      have hp0 : ((plc[i].toNat : Nat) : Int) = plc[i] := by have := hl.ct0; lia
      have hca := cellAt_of hcc q4 (by rw [hl.len]; lia)
      rw [hp0, ← hh.k] at hca
      (repeat refine unstop ?_); refine ⟨_, _, _, _, _, _, hh.cellOk hl ei, hca, ?_⟩
      rw [q4.cut (by lia) (by lia) (by rw [hl.len]; lia), List.getD_eq_getElem?_getD, List.getElem?_map, ecc]; rfl
    have hmap : (List.range cs.length).map (fun i => PV.bytes ((cs.map CD.oc).getD i [])) = (cs.map CD.oc).map PV.bytes := by
      apply List.ext_getElem?
      intro j
      rw [List.getElem?_map, List.getElem?_map]
      by_cases hj : j < cs.length
      · have hj2 : j < (cs.map CD.oc).length := by rw [List.length_map]; exact hj
        rw [List.getElem?_range hj, List.getElem?_eq_getElem hj2]
        show some (PV.bytes ((cs.map CD.oc).getD j [])) = some (PV.bytes _)
        rw [List.getD_eq_getElem?_getD, List.getElem?_eq_getElem hj2]; rfl
      · rw [List.getElem?_eq_none (by rw [List.length_range]; (clear hcl; lia)), List.getElem?_eq_none (by rw [List.length_map]; (clear hcl; lia))]; rfl
    rw [hmap] at z2
    have C23 := C20.ex z1 (fun x hx => by cases hx)
    have hw23 := hw20.ex z1 (by simp)
    have ec23 := z1.get ec20
    clear C20
    refine WE_comp rfl rfl .nil ?_
    refine WE_cell rfl rfl (by exact CelL.at' 1 (by assumption) (by rfl) (by rfl)) ?_
    refine WQ_mapN (xs := cs) (g := fun c => PV.tup [.bytes c.oc, .int c.child, c.rowid, .int c.size, .bytes c.loc]) (fun c => .bytes c.oc) ec23 (by (clear hcl; lia)) rfl (fun c σ' C hc e1 => ?_) (fun σ24 y24 => ?_)
    · (refine WE_vsub rfl (unstop ?_); refine WG_tup (by decide) (by decide) rfl ?_; refine unstop ?_)
      (repeat refine unstop ?_); exact ⟨rfl, e1⟩
    have hw24 := (hw23.ex y24 (by simp)).ex (ExB.app [] σ24 [AO.list (cs.map fun c => PV.bytes c.oc)]) (by simp)
    have C24 := (C23.ex y24 (fun x hx => by cases hx)).ex (ExB.app [] σ24 [AO.list (cs.map fun c => PV.bytes c.oc)]) (fun x hx => by cases hx)
    have z3 := lk_app (l := [AO.list (cs.map fun c => PV.bytes c.oc)]) (y24.get z2)
    have hmap2 : cs.map (fun c => PV.bytes c.oc) = (cs.map CD.oc).map PV.bytes := by rw [List.map_map]; rfl
    have z4 : (σ24 ++ [AO.list (cs.map fun c => PV.bytes c.oc)])[σ24.length]? = some (.list ((cs.map CD.oc).map PV.bytes)) := by rw [hmap2]; exact lk_last
    obtain ⟨hv24, hd24, hx24, _, _⟩ := id hw24
    clear C23 hw23
    refine WO_neL (n := 0) z3 z4 (sames_bytes _ _ _) (Nat.lt_of_le_of_lt (Nat.add_le_add_left (by decide : 1 + 0 ≤ 10 * 15) _) hru) ?_
    (refine WT_bool ?_; refine unstop ?_; refine mff rfl ?_; refine WB_vx (unstop ?_); refine WE_meth0 ?_; refine WE_cell rfl rfl (by exact CelL.at' 0 (by assumption) (by rfl) (by rfl)) ?_; refine WM_m mo_octets ⟨_, rfl⟩ (by assumption) (by assumption) rfl ?_)
    refine ct_voctets (re_std (Gl.at_std ..)) (re_room (rm.mono (by decide))) hw24 ?_
    refine unstop ?_
    refine WO_neB ?_
    try rw [show (b != b) = false from bne_self_eq_false ..]
    (refine unstop ?_; refine mff rfl ?_; refine WB_vx (unstop ?_); refine unstop ?_; refine unstop ?_; refine mff rfl ?_; refine WS_nil ?_)
    (repeat refine unstop ?_); exact ⟨rfl, z1.trans (y24.trans (ExB.app _ _ _))⟩
  have B22 := B20.new y22
  have hw22 := hw20.ex y22 (by simp)
  have ec22 := y22.get ec20
  have epl22 := y22.get epl20
  have eb22 := y22.get eb20
  clear B20 C20 ec20 epl20 eb20 hw20 hv20 hd20 hx20 y22
  have C22 := B22.c
  obtain ⟨hv22, hd22, hx22, _, _⟩ := id hw22
  refine WSP_if_ref2 fun K1 hK1 => WEP_ref (N := 8) (tn := 1) (P := 396) (q := qR) (re_std (Gl.at_std ..)) (re_room (rm.mono (by decide))) gd rfl rfl rfl rfl (by decide) rfl rfl B22.t rfl (.cons rfl rfl .nil) (by decide) rfl rfl rfl fun σ25 y25 ht25 P' f' cdv' cl' rm' gd' => ?_
  have B25 := B22.lam y25 ht25 (by simp) htl (by lia)
  have hne1 : ∀ {σx : List AO} {a : Nat} {X : AO}, TabOk σx 1 qR → σx[a]? = some X → (∀ es, X ≠ .tab es) → a ∉ [1] := fun ht e hX hm => by
    obtain ⟨es, z, _⟩ := ht
    rw [List.mem_singleton.mp hm, z] at e
    first | exact hX _ (Option.some.inj e).symm | exact unstop (hX _ (Option.some.inj e).symm)
  have hw25 : VW σ25 v b number d x := hw22.ex y25 ⟨hne1 B22.t hw22.hv (by intro o h; cases h), hne1 B22.t hw22.hd (by intro o h; cases h), hne1 B22.t hw22.hx (by intro o h; cases h)⟩
  have ec25 := y25.get (by simp; (clear hn htl; lia)) ec22
  have epl25 := y25.get (by simp; (clear hn; lia)) epl22
  have eb25 := y25.get (by simp; (clear hn; lia)) eb22
  clear B22 C22 hw22 ec22 epl22 eb22 hv22 hd22 hx22 y25 ht25
  have C25 := B25.c
  obtain ⟨hv25, hd25, hx25, _, _⟩ := id hw25
  refine WEP.of ?_
  (refine WE_meth ?_; refine WE_free rfl rfl (by exact CelL.at' 0 (by assumption) (by rfl) (by rfl)) ?_; refine WM_m mo_cell ⟨_, rfl⟩ (by assumption) (by assumption) rfl ?_; refine WL_vl rfl (unstop ?_))
  refine ct_cell_bad (Gl.at_std ..) (rm'.mono (by decide)) hw25 (by decide) (.inl (by decide)) ?_
  refine hK1 _ fun g5 K2 hK2 => WEP_ref (N := 8) (tn := 1) (P := 396) (q := qR) (re_std (Gl.at_std ..)) (re_room (rm.mono (by decide))) gd rfl rfl rfl rfl (by decide) rfl rfl B25.t rfl (.cons rfl rfl (.cons rfl rfl .nil)) (by decide) rfl rfl rfl fun σ26 y26 ht26 P2 f2 cdv2 cl2 rm2 gd2 => ?_
  clear hK1 K1
  have B26 := B25.lam y26 ht26 (by simp) htl (by lia)
  have hw26 : VW σ26 v b number d x := hw25.ex y26 ⟨hne1 B25.t hw25.hv (by intro o h; cases h), hne1 B25.t hw25.hd (by intro o h; cases h), hne1 B25.t hw25.hx (by intro o h; cases h)⟩
  have ec26 := y26.get (by simp; (clear hn htl; lia)) ec25
  have epl26 := y26.get (by simp; (clear hn; lia)) epl25
  have eb26 := y26.get (by simp; (clear hn; lia)) eb25
  clear B25 C25 hw25 ec25 epl25 eb25 hv25 hd25 hx25 y26 ht26
  have C26 := B26.c
  obtain ⟨hv26, hd26, hx26, _, _⟩ := id hw26
  refine WEP.of ?_
  (refine WE_meth ?_; refine WE_free rfl rfl (by exact CelL.at' 0 (by assumption) (by rfl) (by rfl)) ?_; refine WM_m mo_raw ⟨_, rfl⟩ (by assumption) (by assumption) rfl ?_; refine WL_vl rfl (unstop ?_); refine WE_free rfl rfl (by exact CelL.at' 1 (by assumption) (by rfl) (by rfl)) ?_; refine unstop ?_; refine WC_lenL (by assumption) (by clear hcl; lia) ?_; refine unstop ?_)
  refine ct_raw_bad (Gl.at_std ..) (rm2.mono (by decide)) hw26 (by lia) (.inr (by rw [hcn]; exact Int.le_refl _)) ?_
  refine hK2 _ fun g9 => ?_
  refine WSP_cons (WS1P_ret (WEP_call ?_))
  refine WE_nm rfl (unstop ?_)
  (repeat refine unstop ?_); refine ⟨_, rfl, rfl, ?_⟩
  (refine WL_vl rfl (unstop ?_); refine WE_cell rfl rfl (by exact CelL.at' 4 (by assumption) (by rfl) (by rfl)) ?_; refine unstop ?_)
  have hB26 := B26.x
  refine ct_bent_right (c := Cx.re _ g9) (re_std (Gl.at_std ..)) (re_room (rm.mono (by decide))) gd hl hh h4 B26.s hn (ht0.ex hB26 (by simp; lia)) epl26 eb26 (by lia) hnu fun σ27 y27 t27 => ?_
  refine h _ ((hB26.mono fun z hz => ?_).trans (y27.mono fun z hz => ?_)) t27 (B26.t.ex y27 (by simp; lia))
  · simp only [List.mem_cons, List.not_mem_nil, or_false] at hz ⊢
    lia
  · simp only [List.mem_cons, List.not_mem_nil, or_false] at hz ⊢
    lia
end
end Nv
end
section
open PySem PySem.W PySem.Calls PyProof.Rows PyProof.V PySem.Spec
namespace Nv
section
variable {c : Cx} {σ : List AO} {m : Nm} {K : PV → List AO → Prop} {Kn : Nm → List AO → Prop} {Kr : PV → List AO → Prop} {X : List AO → Prop}
noncomputable abbrev qL : Str := "law" ++ ".<locals>." ++ "<lambda>"
theorem law_top {w : World} {mean : ExcName → Option Value} {mg mb : Str → Option Value} {base : Heap} {sh : Shared} {R : Led} {Rs : Result → Shared → Prop} {v0 : Value}
    (hkeep : ∀ b o, base.get? b = some o → sh.heap.get? b = some o) (hsz : base.objs.size ≤ sh.heap.objs.size)
    (hN : ∀ p ∈ R, sh.heap.get? p.1 = some p.2 ∧ base.get? p.1 = none) (hnd0 : (R.map (·.1)).Nodup) (hlen0 : R.length = σ.length)
    (hobj : ∀ (n : Nat) (p : Addr × Obj) (ao : AO), R[n]? = some p → σ[n]? = some ao → OR [] (μs R) p.2 ao)
    (htab : ∀ p ∈ tabFix, (μs R)[p.1]? = some p.2) (kin : (GG.Kw w.params).In base) (top : Top GG.p GG.loose mean mg mb base)
    {s : Nat} {ob : Obj} {ns : List Int} (rs : VRs [] (μs R) [v0] [.loc s]) (h3 : 3 ≤ s) (es : σ[s]? = some (.fix ob)) (hfx : FixL ob ns) (hns : ns.length ≤ 1000) (hbits : ∀ x ∈ ns, Builtin.Int.intBits x ≤ 2 ^ 21)
    (ht0 : TabOk σ 0 qB) (ht1 : TabOk σ 1 qR) (ht2 : TabOk σ 2 qL) (h : ∀ σ', TabOk σ' 0 qB → TabOk σ' 1 qR → TabOk σ' 2 qL → σ'[s]? = some (.fix ob) → K (.bool true) σ')
    (q : ∀ v pv T' R' σ' s', (∀ b o, base.get? b = some o → s'.heap.get? b = some o) → Gr [] (μs R) T' (μs R') → (∀ p ∈ R', s'.heap.get? p.1 = some p.2) → R'.length = σ'.length →
      (∀ (n : Nat) (p : Addr × Obj) (ao : AO), R'[n]? = some p → σ'[n]? = some ao → OR T' (μs R') p.2 ao) → VR T' (μs R') v pv → K pv σ' → s' = { sh with heap := s'.heap, toks := s'.toks } → Rs (.ok (.ret v)) s') :
    codeP (model GG.prog w) callerA (.call (.ref 406) ⟨[v0], []⟩) Rs sh := by
  refine top_defc (G := GG) (n := 18) ["script"] ["told"] hkeep hsz hN hnd0 hlen0 hobj htab kin top rs (by decide) (fun _ => rfl) (fun _ => rfl) (fun _ => rfl) rfl (by decide) (fun _ => rfl) (by decide) rfl rfl rfl ?_ q
  intro P σ0 ex0 hcells hl0 rm gd
  have C0 : CelL σ0 σ.length [none] := fun k v e => by
    match k, e with
    | 0, e => cases e; exact hcells 0 _ rfl
  clear hcells
  have hlt := lt_of_lk es
  have es0 := ex0.get es
  have t00 := ht0.ex ex0 (by simp)
  have t10 := ht1.ex ex0 (by simp)
  have t20 := ht2.ex ex0 (by simp)
  refine WSP_cons (WS1P_asg (WEP_call ?_))
  refine WE_nm rfl (unstop ?_)
  (repeat refine unstop ?_); refine ⟨_, rfl, rfl, ?_⟩
  refine WL_vl rfl (unstop ?_)
  refine WC_bytesL (ns := [10, 0, 0, 0, 1, 0, 126, 0, 0, 126]) lk_last (by decide) (by decide) ?_
  refine unstop ?_
  refine WC_bytesN (by decide) (by decide) ?_
  refine unstop ?_; refine WO_addB (by simp) ?_
  obtain ⟨b, hb⟩ : ∃ b, b = ([10, 0, 0, 0, 1, 0, 126, 0, 0, 126] : List Int).map toB ++ List.replicate (118 : Int).toNat 0 := ⟨_, rfl⟩
  rw [← hb]
  have hbl : b.length = 128 := by rw [hb]; rfl
  have hpt : ptr b 2 = 8 := by rw [hb]; decide +kernel
  have hcn : cnt b 2 = 1 := by rw [hb]; decide +kernel
  have hw2 : w2 b 8 = 126 := by rw [hb]; decide +kernel
  clear hb
  refine unstop ?_
  refine ct_view (Gl.at_std ..) (rm.mono (by decide)) gd hbl (by decide) fun σ1 v d x y1 hw => ?_
  have C1 := (C0.ex (ExB.app [] σ0 _) (fun x hx => by cases hx)).ex y1 (fun x hx => by cases hx)
  have ey1 : Ex σ0 σ1 := (ExB.app [] σ0 _).trans y1
  have es1 := ey1.get es0
  have t01 := t00.ex ey1 (by simp)
  have t11 := t10.ex ey1 (by simp)
  have t21 := t20.ex ey1 (by simp)
  clear C0 es0 t00 t10 t20 ey1 y1
  intro g1 hg1
  (refine WN_cell (p0 := ?pv1) rfl rfl ?hv1 ?_; (case hv1 => exact CelL.at' 0 (by assumption) (by rfl) (by rfl)))
  have hne : ∀ {a : Nat} {X : AO}, σ1[a]? = some X → (∀ o, X ≠ .cell o) → σ.length ≠ a := fun {a X} e hX he => by
    have := C1 0 _ rfl
    rw [Nat.add_zero, he, e] at this
    first | exact hX _ (Option.some.inj this) | exact unstop (hX _ (Option.some.inj this))
  have htab : ∀ {tn q}, TabOk σ1 tn q → σ.length ≠ tn := fun ht => by
    obtain ⟨es, z, _⟩ := ht
    exact hne z (by intro o h; cases h)
  have hw2' : VW (σ1.set σ.length (.cell (some (.loc v)))) v b 2 d x :=
    ⟨lk_set_ne (hne hw.hv (by intro o h; cases h)) hw.hv, lk_set_ne (hne hw.hd (by intro o h; cases h)) hw.hd, lk_set_ne (hne hw.hx (by intro o h; cases h)) hw.hx, hw.len, hw.pg⟩
  have es2 : (σ1.set σ.length (.cell (some (.loc v))))[s]? = some (.fix ob) := lk_set_ne (by lia) es1
  have t02 := t01.ex (ExB.set (S := [σ.length]) (k := σ.length) (ao := .cell (some (.loc v))) (.head _)) (by simpa using (htab t01).symm)
  have t12 := t11.ex (ExB.set (S := [σ.length]) (k := σ.length) (ao := .cell (some (.loc v))) (.head _)) (by simpa using (htab t11).symm)
  have t22 := t21.ex (ExB.set (S := [σ.length]) (k := σ.length) (ao := .cell (some (.loc v))) (.head _)) (by simpa using (htab t21).symm)
  have C2 := C1.set 0 (some (.loc v)) (by simp)
  rw [Nat.add_zero] at C2
  generalize σ1.set σ.length (.cell (some (.loc v))) = σ2 at hw2' es2 t02 t12 t22 C2 ⊢
  clear C1 hw es1 t01 t11 t21 hne htab
  intro g2 hg2
  refine WSP_cons (WS1P_if (WBP_not (WBP_plain (WEP_call ?_))))
  refine WE_nm rfl (unstop ?_)
  (repeat refine unstop ?_); refine ⟨_, rfl, rfl, WL_cons ?_⟩
  refine WE_lam' (tn := 2) (P := 401) (q := qL) rfl (by decide) rfl rfl t22 rfl (.cons rfl rfl .nil) fun σ3 nl y3 t23 hclo => ?_
  have hnt : ∀ {a : Nat} {X : AO}, σ2[a]? = some X → (∀ es, X ≠ .tab es) → a ∉ [2] := fun e hX hm => by
    obtain ⟨es, z, _⟩ := t22
    rw [List.mem_singleton.mp hm, z] at e
    first | exact hX _ (Option.some.inj e).symm | exact unstop (hX _ (Option.some.inj e).symm)
  have C3 := C2.ex y3 (fun x hx => by rw [List.mem_singleton.mp hx]; lia)
  have hw3 := hw2'.ex y3 ⟨hnt hw2'.hv (by intro o h; cases h), hnt hw2'.hd (by intro o h; cases h), hnt hw2'.hx (by intro o h; cases h)⟩
  have es3 := y3.get (by simp; lia) es2
  have t03 := t02.ex y3 (by simp)
  have t13 := t12.ex y3 (by simp)
  clear C2 hw2' es2 t02 t12 y3 hnt t22
  refine WL_nil ?_
  refine ct_refused (c := Cx.re _ g2) (N := 8) (re_std (Gl.at_std ..)) (re_room (rm.mono (by decide))) gd hclo (by decide) rfl rfl rfl ?_
  intro P' f' cdv' cl' rm' gd'
  obtain ⟨hv3, hd3, hx3, _, _⟩ := id hw3
  refine WEP.of ?_
  (refine WE_meth ?_; refine WE_free rfl rfl (by exact CelL.at' 0 (by assumption) (by rfl) (by rfl)) ?_; refine WM_m mo_place ⟨_, rfl⟩ (by assumption) (by assumption) rfl ?_; refine WL_vl rfl (unstop ?_))
  refine ct_place (Gl.at_std ..) (rm'.mono (by decide)) hw3 (by decide) (fun _ _ => by rw [hpt]; decide) (fun _ _ _ z => ?_) (fun _ => ?_)
  · exfalso
    rw [hpt] at z
    rw [show (8 : Int) + 2 * 0 = 8 from rfl, hw2] at z
    lia
  intro g3 hg3
  refine WT_bool ?_
  intro g4 hg4
  refine WSP_nil ?_
  intro g5 hg5
  clear hclo hw3 hv3 hd3 hx3 C3
  refine WSP_cons (WS1P_forR (n := max 1 (min 2 ns.length)) rfl (by lia) (fun i m' σ' => lkN m' "script" = some (.loc s) ∧ σ'[s]? = some (.fix ob) ∧ TabOk σ' 0 qB ∧ TabOk σ' 1 qR ∧ 3 ≤ σ'.length ∧ TabOk σ' 2 qL) ?_ ?_ ?_)
  · refine WE_vcall rfl (unstop ?_)
    refine WC_lenX es3 hfx (by lia) ?_
    (refine unstop ?_; refine WC_min2 ?_; refine unstop ?_; refine WC_max2 ?_; refine unstop ?_; refine WC_range1 ?_; refine unstop ?_)
    (repeat refine unstop ?_); exact ⟨by congr 1; (clear hcn; lia), rfl, es3, t03, t13, by have := lt_of_lk es3; lia, t23⟩
  · rintro i m' σ' g hi ⟨z1, z2, z3, z4, z5, z6⟩ hg
    refine WN_loc rfl rfl ?_
    refine WSP_cons (WS1P_if (WBP_not (WBP_plain (WEP_call ?_))))
    refine WE_nm rfl (unstop ?_)
    (repeat refine unstop ?_); refine ⟨_, rfl, rfl, ?_⟩
    (refine WL_cons ?_; refine WE_call ?_; refine WE_nm rfl (unstop ?_); refine ⟨_, rfl, rfl, ?_⟩; refine WL_cons ?_; refine WE_loc rfl rfl (by assumption) ?_; refine WL_vl rfl (unstop ?_))
    refine ct_pool (re_std (re_std (re_std (Gl.at_std ..)))) (re_room (re_room (re_room (rm.mono (by decide))))) z2 hfx hns hbits (by lia) (by lia) fun σ4 n y4 hn1 hn2 hs4 => ?_
    refine WL_nil ?_
    refine ct_right_law (c := Cx.re (Cx.re (Cx.re _ g2) g5) g) (re_std (re_std (re_std (Gl.at_std ..)))) (re_room (re_room (re_room (rm.mono (by decide))))) gd hs4 (by lia) (z3.ex y4 (by simp)) (z4.ex y4 (by simp)) fun σ5 y5 t5 t5' => ?_
    intro g6 hg6
    refine WT_bool ?_
    intro g7 hg7
    refine WSP_nil ?_
    intro g8 hg8
    refine WSP_nil ?_
    have hsl := lt_of_lk z2
    (repeat refine unstop ?_); exact ⟨z1, y5.get (by simp; lia) (y4.get z2), t5, t5', by have := y4.1; have := y5.1; (clear h3 hn1; lia), (z6.ex y4 (by simp)).ex y5 (by simp; (clear h3; lia))⟩
  · rintro m' σ' ⟨z1, z2, z3, z4, z5, z6⟩ g hg
    refine WSP.of ?_
    refine WS_vb (unstop ?_)
    first | exact h _ z3 z4 z6 z2 | exact unstop (h _ z3 z4 z6 z2)
end
end Nv
end
section
open PySem PySem.W PySem.Calls PyProof.Rows PyProof.V PySem.Spec
namespace Nv
theorem hide_ghost {h : Heap} {as : List Addr} {b : Addr} {o : Obj} (hA : ∀ a ∈ as, ∀ o, h.get? a = some o → (∃ vs, o.cls = .none ∧ o.data = .fields vs) ∨ (∃ vs n, o.cls = .type "list" ∧ o.data = .seq vs n)) (e : h.get? b = some o)
    (hn : ¬ (∃ vs, o.cls = .none ∧ o.data = .fields vs) ∧ ¬ (∃ vs n, o.cls = .type "list" ∧ o.data = .seq vs n)) : (hideAll h as).get? b = some o := hideAll_get _ e fun q => (hA b q o e).elim hn.1 hn.2
section
variable {h : Heap} {as : List Addr} (hA : ∀ a ∈ as, ∀ o, h.get? a = some o → (∃ vs, o.cls = .none ∧ o.data = .fields vs) ∨ (∃ vs n, o.cls = .type "list" ∧ o.data = .seq vs n))
include hA
theorem hide_ns {a : Addr} {mm : Str → Option Value} (x : h.Ns a mm) : (hideAll h as).Ns a mm :=
  let ⟨o, es, ep, e, hd, r⟩ := x; ⟨o, es, ep, hide_ghost hA e ⟨(fun ⟨_, _, q⟩ => by rw [hd] at q; cases q), (fun ⟨_, _, _, q⟩ => by rw [hd] at q; cases q)⟩, hd, r⟩
theorem hide_top {p : Program} {loose : List Str} {mean : ExcName → Option Value} {mg mb : Str → Option Value} (T : Top p loose mean mg mb h) :
    Top topProg (loose ++ (recsOf p).map (·.name) ++ (litsOf p).map (·.1) ++ (clssOf p loose).map (·.name)) mean mg mb (hideAll h as) where
  g := hide_ns hA T.g
  b := hide_ns hA T.b
  nolimit := let ⟨mc, a, r⟩ := T.nolimit; ⟨mc, hide_ns hA a, r⟩
  nodigits := let ⟨mc, a, r⟩ := T.nodigits; ⟨mc, hide_ns hA a, r⟩
  fn := fun d hd => absurd (show d ∈ ([] : List DefRec) from hd) List.not_mem_nil
  own := fun o ho => absurd (show o ∈ ([] : List OwnSpec) from ho) List.not_mem_nil
  const := fun x d e => by cases (show (none : Option PyData) = some d from e)
  free := fun x h1 h2 _ _ _ => T.free x h1 (fun q => h2 (List.mem_append_left _ (List.mem_append_left _ (List.mem_append_left _ q))))
    (fun q => h2 (List.mem_append_left _ (List.mem_append_left _ (List.mem_append_right _ q)))) (fun q => h2 (List.mem_append_left _ (List.mem_append_right _ q))) fun q => h2 (List.mem_append_right _ q)
  builtins := T.builtins
  tab := fun d hd => absurd (show d ∈ ([] : List DefRec) from hd) List.not_mem_nil
  bmain := let ⟨bm, ob, a1, a2, a3, a4, a5, a6⟩ := T.bmain; ⟨bm, ob, a1, a2, hide_ghost hA a3 ⟨(fun ⟨_, _, q⟩ => by rw [a6] at q; cases q), (fun ⟨_, _, _, q⟩ => by rw [a6] at q; cases q)⟩, a4, a5, a6⟩
  seer := fun e => absurd (show false = true from e) Bool.false_ne_true
end
noncomputable def noHid (K : Frag) : Bool := K.all fun p => match p.2.cls, p.2.data with
  | .none, .fields _ => false
  | _, .seq _ _ => p.2.cls != .type "list"
  | _, _ => true
theorem hide_K {K : Frag} {h : Heap} {as : List Addr} (hA : ∀ a ∈ as, ∀ o, h.get? a = some o → (∃ vs, o.cls = .none ∧ o.data = .fields vs) ∨ (∃ vs n, o.cls = .type "list" ∧ o.data = .seq vs n)) (X : K.In h) (hK : noHid K = true) : K.In (hideAll h as) := fun a o e => by
  have h2 := List.all_eq_true.mp hK (a, o) (mem_of_lookupK e)
  refine hide_ghost hA (X a o e) ⟨?_, ?_⟩
  · rintro ⟨vs, q1, q2⟩
    simp only [q1, q2] at h2
    cases h2
  · rintro ⟨vs, n, q1, q2⟩
    simp only [q1, q2] at h2
    revert h2
    decide
theorem intsFix {vs : List Value} {ns : List Int} (h : IntsAre vs ns) : ∀ T μ, VRs T μ vs (ns.map .int) := fun T μ => by
  induction h with
  | nil => exact .nil
  | cons n t _ ih => exact .cons (.int _ _) ih
theorem noHid_K (P : Params) : noHid (heapK P) = true := by kernel_rfl
theorem law_at (P : Params) : nsIn (heapK P) mainGlobals "law" = some (some (.ref 406)) := by kernel_rfl
theorem top_is (P : Params) : codeHdIn (heapK P) 393 391 = true ∧ codeHdIn (heapK P) 398 396 = true ∧ codeHdIn (heapK P) 405 401 = true := ⟨by kernel_rfl, by kernel_rfl, by kernel_rfl⟩
theorem glue : PySem.Challenge.rw_xm0756_01.Holds := by
  refine head fun d kwd hdn => ?_
  intro w s₀ s₁ mg mb G Y fa o pm cd doc dV kV ho hd hcd hD hmg hg args vals as hpre hlay hrd hwl hlo
  rw [hdn] at hmg
  have KX := km_in_of Y
  have hT8 := km_tabs_of Y
  refine Ground.open G ?_
  intro T B D TE TW
  have hfa : fa = 406 := by
    have e := mg_of KX T.g (law_at w.params)
    have e2 := hmg.symm.trans e
    injection e2 with e3
    injection e3
  clear hD hd hcd hmg ho Y G B D TE TW
  subst hfa
  wrow_args hpre hlay hrd hwl hlo
  rename_i ns hs0 hlay0 hL1 hr1 hl2 as1 as2 l vs as3 hL ra w1 r0 hI hr hc1 hc2
  obtain ⟨ob, hob, hcl, k, hdat⟩ := hL
  have h391 := hT8 391 (by decide)
  have h396 := hT8 396 (by decide)
  have h401 := hT8 401 (by decide)
  have hne : ∀ a, s₁.heap.get? a = some (tabObj #[]) → a ≠ l := fun a e q => by
    rw [q, hob] at e
    cases e
    cases hcl
  have hfit : FixL ob ns := ⟨vs, k, hcl, hdat, intsFix hI⟩
  have hhid : ∀ a ∈ [391, 396, 401, l], ∀ o, s₁.heap.get? a = some o → (∃ vs, o.cls = .none ∧ o.data = .fields vs) ∨ (∃ vs n, o.cls = .type "list" ∧ o.data = .seq vs n) := fun a ha o e => by
    simp only [List.mem_cons, List.not_mem_nil, or_false] at ha
    rcases ha with rfl | rfl | rfl | rfl
    · rw [h391] at e; cases e; exact .inl ⟨_, rfl, rfl⟩
    · rw [h396] at e; cases e; exact .inl ⟨_, rfl, rfl⟩
    · rw [h401] at e; cases e; exact .inl ⟨_, rfl, rfl⟩
    · rw [hob] at e; cases e; exact .inr ⟨_, _, hcl, hdat⟩
  have good : ∀ s' : Shared, OldK s₁.heap s'.heap → s'.os = s₁.os → s'.gens = #[] → GoodWG PySem.Challenge.rw_xm0756_01.row.claim (classAt s₀.heap) (ExcName.means s₀.heap) [ofPy (PyData.list (List.map PyData.int ns))] s₁ (.ok (.ret (.bool true))) s' := fun s' k ho hgn =>
    ⟨.inl ⟨.bool true, WData.bool true, [], rfl, fun _ => rfl, .bool _, by wrow_post, fun _ => ⟨.nil, fun _ h => by cases h⟩⟩, k, ho, .of_eq hgn⟩
  obtain ⟨c1, c2, c3⟩ := top_is w.params
  refine wpAny_guarded (wpP_call ?_) (wpAny_pure (good _ (.of_keep fun _ _ e => e) rfl hg))
  refine law_top (R := [(391, tabObj #[]), (396, tabObj #[]), (401, tabObj #[]), (l, ob)]) (σ := [.tab [], .tab [], .tab [], .fix ob]) (base := hideAll s₁.heap [391, 396, 401, l]) (s := 3) (ob := ob) (ns := ns) (mean := ExcName.means s₀.heap) (mg := mg) (mb := mb)
    (K := fun pv σ' => pv = .bool true ∧ TabOk σ' 0 qB ∧ TabOk σ' 1 qR ∧ TabOk σ' 2 qL ∧ σ'[3]? = some (.fix ob))
    (fun b o e => of_hideAll _ e) (Nat.le_of_eq (hideAll_size _ _)) ?_ ?_ rfl ?_ (fun p hp => by simp only [tabFix, List.mem_cons, List.not_mem_nil, or_false] at hp; rcases hp with rfl | rfl | rfl <;> rfl) (hide_K hhid KX (noHid_K _)) (hide_top hhid T) ?_ (by decide) rfl hfit (by lia) (fun x hx => Nat.le_trans (PyData.bits_item_of_ints hL1 hx) (by decide))
    ⟨_, rfl, by simp⟩ ⟨_, rfl, by simp⟩ ⟨_, rfl, by simp⟩ (fun σ' a b c d => ⟨rfl, a, b, c, d⟩) ?_
  · intro p hp
    simp only [List.mem_cons, List.not_mem_nil, or_false] at hp
    rcases hp with rfl | rfl | rfl | rfl
    · exact ⟨h391, hideAll_none _ (by simp)⟩
    · exact ⟨h396, hideAll_none _ (by simp)⟩
    · exact ⟨h401, hideAll_none _ (by simp)⟩
    · exact ⟨hob, hideAll_none _ (by simp)⟩
  · simp only [List.map_cons, List.map_nil, List.nodup_cons, List.mem_cons, List.not_mem_nil, or_false, not_or, not_false_eq_true, List.nodup_nil, and_true]
    exact ⟨⟨by decide, by decide, hne _ h391⟩, ⟨by decide, hne _ h396⟩, hne _ h401⟩
  · intro n p ao e1 e2
    match n, e1, e2 with
    | 0, e1, e2 => cases e1; cases e2; exact .tab .nil
    | 1, e1, e2 => cases e1; cases e2; exact .tab .nil
    | 2, e1, e2 => cases e1; cases e2; exact .tab .nil
    | 3, e1, e2 => cases e1; cases e2; exact .fix _
    | n + 4, e1, e2 => cases e1
  · exact .cons (.loc rfl) .nil
  · rintro v pv T' R' σ' s' hkeep gr hR hlen hobj r ⟨rfl, t0, t1, t2, t3⟩ hsh
    cases r
    have at' : ∀ (n : Nat) (a : Addr) (ao : AO), (μs [(391, tabObj #[]), (396, tabObj #[]), (401, tabObj #[]), (l, ob)])[n]? = some a → σ'[n]? = some ao → ∃ o, s'.heap.get? a = some o ∧ OR T' (μs R') o ao := fun n a ao e1 e2 => by
      obtain ⟨o, h4⟩ := μs_get.mp (gr.get e1)
      exact ⟨o, hR _ (List.mem_of_getElem? h4), hobj n _ ao h4 e2⟩
    have tab : ∀ (n : Nat) (a : Addr) q, (μs [(391, tabObj #[]), (396, tabObj #[]), (401, tabObj #[]), (l, ob)])[n]? = some a → TabOk σ' n q → ∃ ps, s'.heap.get? a = some (tabObj ps) := fun n a q e1 ⟨es, e2, _⟩ => by
      obtain ⟨o, h1, h2⟩ := at' n a _ e1 e2
      cases h2
      exact ⟨_, h1⟩
    have g391 := tab 0 391 _ rfl t0
    have g396 := tab 1 396 _ rfl t1
    have g401 := tab 2 401 _ rfl t2
    have gl : s'.heap.get? l = some ob := by
      obtain ⟨o, h1, h2⟩ := at' 3 l _ rfl t3
      cases h2
      exact h1
    have tt : ∀ c P, CodeHd s₁.heap c P → s₁.heap.get? P = some (tabObj #[]) → (∃ ps, s'.heap.get? P = some (tabObj ps)) → ∀ o, s₁.heap.get? P = some o → asItWas s₁.heap s'.heap P o ∧ ∃ o', s'.heap.get? P = some o' := fun c P hc hP ⟨ps, hps⟩ o e => by
      rw [hP] at e
      cases e
      exact ⟨.inr (.inl ⟨(hc.tab hP).isCodeTable, rfl, #[], ps, rfl, by rw [Array.empty_append]; exact hps⟩), _, hps⟩
    have all : ∀ b o, s₁.heap.get? b = some o → asItWas s₁.heap s'.heap b o ∧ ∃ o', s'.heap.get? b = some o' := fun b o e => by
      by_cases hb : b ∈ [391, 396, 401, l]
      · simp only [List.mem_cons, List.not_mem_nil, or_false] at hb
        rcases hb with rfl | rfl | rfl | rfl
        · exact tt _ _ (codeHd_of_K KX c1) h391 g391 o e
        · exact tt _ _ (codeHd_of_K KX c2) h396 g396 o e
        · exact tt _ _ (codeHd_of_K KX c3) h401 g401 o e
        · rw [hob] at e; cases e; exact ⟨.inl gl, _, gl⟩
      · have := hkeep _ _ (hideAll_get _ e hb)
        exact ⟨.inl this, _, this⟩
    exact good _ ⟨fun b o e => (all b o e).1, fun b o e => (all b o e).2⟩ (by rw [hsh]) (by rw [hsh]; exact hg)
end Nv
end
theorem PySem.Challenge.cw_xm0756_01_holds : PySem.Challenge.rw_xm0756_01.Holds :=
  Nv.glue
