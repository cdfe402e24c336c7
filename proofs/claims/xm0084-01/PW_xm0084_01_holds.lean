import PyProof.Rows.All
import Wide.All
import OpenK.AllK
import Wide.FinOn
import PySem.Challenge.RW_xm0084_01
set_option Elab.async false
section
open PySem PySem.W PySem.Calls PySem.Spec PyProof.Rows
set_option maxRecDepth 100000
set_option linter.unusedVariables false
set_option linter.unusedSimpArgs false
namespace Mine

abbrev PP : Program := PySem.Challenge.rw_xm0084_01.row.prog
/-! what the walk has to know of the heap behind the top -/
def fns : List (Addr × Nat × String × Nat) := [(41, 3, "cas.ints", 220),
  (57, 9, "cas.rats", 240),
  (64, 10, "cas.rats", 240),
  (71, 11, "cas.rats", 240),
  (78, 12, "cas.rats", 240),
  (85, 13, "cas.rats", 240),
  (92, 14, "cas.rats", 240),
  (99, 15, "cas.rats", 240),
  (106, 17, "cas.qpoly", 308),
  (111, 18, "cas.qpoly", 308),
  (116, 19, "cas.qpoly", 308),
  (123, 20, "cas.qpoly", 308),
  (130, 21, "cas.qpoly", 308),
  (135, 22, "cas.qpoly", 308),
  (142, 23, "cas.qpoly", 308),
  (149, 24, "cas.qpoly", 308),
  (156, 26, "cas.series", 379),
  (161, 27, "cas.series", 379),
  (168, 28, "cas.series", 379),
  (173, 29, "cas.series", 379),
  (180, 30, "cas.series", 379),
  (187, 31, "cas.series", 379),
  (194, 32, "cas.series", 379),
  (201, 33, "cas.series", 379),
  (208, 35, "law_xm0084_01", 452),
  (215, 36, "law_xm0084_01", 452),
  (222, 37, "law_xm0084_01", 452)]
def fdOf (a : Addr) (i : Nat) (m : String) (t : Nat) : Obj := match PP.main.body[i]? with
  | some (.FunctionDef n ar b _ _ _ sc _ _ _) => { cls := .type "function", data := .func (fnOf n n ar b sc .none .none .none (.str (Str.ofString m) t) none (.ref (a - 1)) .none) }
  | _ => default
def qualAt (i : Nat) : Str := match PP.main.body[i]? with
  | some (.FunctionDef n _ _ _ _ _ _ _ _ _) => n
  | _ => default
def FK : Frag := fns.map fun p => (p.1, fdOf p.1 p.2.1 p.2.2.1 p.2.2.2)
def peekQ (h : Heap) (a : Addr) : Option Str := match h.get? a with
  | some ⟨_, _, .fields vs, _⟩ => (match vs[1]? with | some (Value.str q _) => some q | _ => none)
  | _ => none
def peekG (h : Heap) (x : Str) : Option (Option Value) := match h.get? mainGlobals with
  | some ⟨_, _, .dict es _, _⟩ => (match es.toList.find? (·.key.isStr x) with
      | some e => some (some e.val)
      | none => if es.toList.any (·.refKey) then none else some none)
  | _ => none
def gTab : List (Str × Option Value) := [(Str.ofString "R0", some (Value.ref 49)), (Str.ofString "R1", some (Value.ref 50)), (Str.ofString "gcd", some (Value.ref 41)), (Str.ofString "rat", some (Value.ref 57)), (Str.ofString "radd", some (Value.ref 64)), (Str.ofString "rsub", some (Value.ref 71)), (Str.ofString "rmul", some (Value.ref 78)), (Str.ofString "rdiv", some (Value.ref 85)), (Str.ofString "is_vast", some (Value.ref 92)), (Str.ofString "rcompare", some (Value.ref 99)), (Str.ofString "qtrim", some (Value.ref 106)), (Str.ofString "qadd", some (Value.ref 111)), (Str.ofString "qscale", some (Value.ref 116)), (Str.ofString "qmul", some (Value.ref 123)), (Str.ofString "qpower", some (Value.ref 130)), (Str.ofString "qderive", some (Value.ref 135)), (Str.ofString "qat", some (Value.ref 142)), (Str.ofString "qcompose", some (Value.ref 149)), (Str.ofString "let", some (Value.ref 156)), (Str.ofString "sscale", some (Value.ref 161)), (Str.ofString "mixed", some (Value.ref 168)), (Str.ofString "smul", some (Value.ref 173)), (Str.ofString "sinverse", some (Value.ref 180)), (Str.ofString "need_begin", some (Value.ref 187)), (Str.ofString "sreverse", some (Value.ref 194)), (Str.ofString "sexp", some (Value.ref 201)), (Str.ofString "_law_draw", some (Value.ref 208)), (Str.ofString "_law_abel", some (Value.ref 215)), (Str.ofString "_law_choices", some (Value.ref 222)), (Str.ofString "abs", none), (Str.ofString "len", none), (Str.ofString "max", none), (Str.ofString "min", none), (Str.ofString "list", none), (Str.ofString "int", none), (Str.ofString "range", none), (Str.ofString "enumerate", none), (Str.ofString "reversed", none)]
def R0o : Obj := { cls := .type "tuple", data := .seq #[.int 0 242, .int 1 243] }
def R1o : Obj := { cls := .type "tuple", data := .seq #[.int 1 245, .int 1 246] }
structure KIn (h : Heap) : Prop where
  fn : fns.map (fun p => h.get? p.1) = fns.map fun p => some (fdOf p.1 p.2.1 p.2.2.1 p.2.2.2)
  cd : fns.map (fun p => peekQ h (p.1 - 1)) = fns.map fun p => some (qualAt p.2.1)
  gl : gTab.map (fun p => peekG h p.1) = gTab.map fun p => some p.2
  r0 : h.get? 49 = some R0o
  r1 : h.get? 50 = some R1o
theorem map_keeps {α β : Type} {f g : α → Option β} {k : α → β} (hk : ∀ a b, f a = some b → g a = some b) : ∀ {l : List α}, l.map f = l.map (fun a => some (k a)) → l.map g = l.map fun a => some (k a)
  | [], _ => rfl
  | a :: l, e => by
    simp only [List.map_cons, List.cons.injEq] at e ⊢
    exact ⟨hk _ _ e.1, map_keeps hk e.2⟩
theorem peekQ_keeps {h h' : Heap} (k : ∀ b o, h.get? b = some o → h'.get? b = some o) (a : Addr) (q : Str) (e : peekQ h a = some q) : peekQ h' a = some q := by
  cases c : h.get? a with
  | none => unfold peekQ at e; rw [c] at e; cases e
  | some o => unfold peekQ at e ⊢; rw [c] at e; rw [k _ _ c]; exact e
theorem peekG_keeps {h h' : Heap} (k : ∀ b o, h.get? b = some o → h'.get? b = some o) (x : Str) (v : Option Value) (e : peekG h x = some v) : peekG h' x = some v := by
  cases c : h.get? mainGlobals with
  | none => unfold peekG at e; rw [c] at e; cases e
  | some o => unfold peekG at e ⊢; rw [c] at e; rw [k _ _ c]; exact e
theorem KIn.keeps {h h' : Heap} (X : KIn h) (k : ∀ b o, h.get? b = some o → h'.get? b = some o) : KIn h' :=
  ⟨map_keeps (fun _ _ e => k _ _ e) X.fn, map_keeps (fun _ _ e => peekQ_keeps k _ _ e) X.cd, map_keeps (fun _ _ e => peekG_keeps k _ _ e) X.gl, k _ _ X.r0, k _ _ X.r1⟩
def hook : Hook where
  α := List (Option Obj) × List (Option Str) × List (Option (Option Value)) × Option Obj × Option Obj
  obs := fun s => (fns.map fun p => s.heap.get? p.1, fns.map fun p => peekQ s.heap (p.1 - 1), gTab.map fun p => peekG s.heap p.1, s.heap.get? 49, s.heap.get? 50)
  val := fun _ => (fns.map fun p => some (fdOf p.1 p.2.1 p.2.2.1 p.2.2.2), fns.map fun p => some (qualAt p.2.1), gTab.map fun p => some p.2, some R0o, some R1o)
  says := fun _ h => KIn h
  of := fun w s e => by
    simp only [Prod.mk.injEq] at e
    exact ⟨e.1, e.2.1, e.2.2.1, e.2.2.2.1, e.2.2.2.2⟩
  keeps := fun w h h' X k => X.keeps k
theorem map_look {α β : Type} [BEq α] [LawfulBEq α] {f : α → Option β} {a : α} {b : β} : ∀ {l : List (α × β)}, l.map (fun p => f p.1) = l.map (fun p => some p.2) → l.lookup a = some b → f a = some b
  | [], _, h => by cases h
  | (x, y) :: l, e, h => by
    simp only [List.map_cons, List.cons.injEq] at e
    by_cases hx : a = x
    · subst hx
      rw [List.lookup, beq_self_eq_true] at h
      cases h
      exact e.1
    · rw [List.lookup, beq_eq_false_iff_ne.mpr hx] at h
      exact map_look e.2 h
theorem KIn.fk {h : Heap} (X : KIn h) : FK.In h := fun a o e => by
  refine map_look (f := h.get?) (l := FK) ?_ e
  have := X.fn
  unfold FK
  rw [List.map_map, List.map_map]
  exact this
def cdTab : List (Addr × Str) := fns.map fun p => (p.1 - 1, qualAt p.2.1)
def cdQ : Value → Option Str
  | .ref a => cdTab.lookup a
  | _ => none
theorem KIn.code {h : Heap} (X : KIn h) {cd : Value} {q : Str} (e : cdQ cd = some q) : h.CodeRec cd q := by
  cases cd with
  | ref a =>
    have e1 : peekQ h a = some q := by
      refine map_look (f := peekQ h) (l := cdTab) ?_ e
      unfold cdTab
      rw [List.map_map, List.map_map]
      exact X.cd
    unfold peekQ at e1
    split at e1
    · rename_i c d vs sl ho
      split at e1
      · rename_i q' t hv
        cases e1
        exact ⟨_, _, vs, t, rfl, ho, rfl, hv⟩
      · cases e1
    · cases e1
  | _ => cases e
theorem peekG_ns {h : Heap} {x : Str} {v : Option Value} (e : peekG h x = some v) : ∃ K : Frag, K.In h ∧ nsIn K mainGlobals x = some v := by
  cases c : h.get? mainGlobals with
  | none => unfold peekG at e; rw [c] at e; cases e
  | some o =>
    refine ⟨[(mainGlobals, o)], fun a o' e' => ?_, ?_⟩
    · by_cases ha : a = mainGlobals
      · subst ha
        rw [List.lookup, beq_self_eq_true] at e'
        cases e'; exact c
      · rw [List.lookup, beq_eq_false_iff_ne.mpr ha] at e'
        cases e'
    · unfold peekG at e
      rw [c] at e
      unfold nsIn
      rw [List.lookup, beq_self_eq_true]
      exact e
theorem KIn.glob {h : Heap} (X : KIn h) {mg : Str → Option Value} (G : h.Ns mainGlobals mg) {x : Str} {v : Value} (e : gTab.lookup x = some (some v)) : mg x = some v := by
  obtain ⟨K, k1, k2⟩ := peekG_ns (map_look (f := peekG h) (l := gTab) X.gl e)
  exact mg_of k1 G k2
theorem KIn.built {h : Heap} (X : KIn h) {mg : Str → Option Value} (G : h.Ns mainGlobals mg) {x : Str} (e : gTab.lookup x = some none) : mg x = none := by
  obtain ⟨K, k1, k2⟩ := peekG_ns (map_look (f := peekG h) (l := gTab) X.gl e)
  exact mg_none_of k1 G k2
/-- the text without its rows that name a module -/
def view : Program := { PP with main := { PP.main with body := PP.main.body.filter fun s => match s with | .Assign [.Name x _] _ _ => x != "__name__" | _ => true } }

abbrev TT (mean : ExcName → Option Value) (mg mb : Str → Option Value) (h : Heap) : Prop := Top view (looseW view []) mean mg mb h
abbrev Keep (x y : Heap) : Prop := ∀ b o, x.get? b = some o → y.get? b = some o

/-! the abstract values -/
def Is (x : Heap) (v : Value) (d : PyData) : Prop := ∃ as, Reads x v d as
def IsAll (x : Heap) (vs : List Value) (ds : List PyData) : Prop := ∃ as, ReadsAll x vs ds as
section
variable {x y : Heap} {v : Value} {d : PyData} {vs ws : List Value} {ds es : List PyData}
theorem Is.mono (k : Keep x y) (h : Is x v d) : Is y v d := let ⟨as, r⟩ := h; ⟨as, PyProof.Rows.Reads.keeps k r⟩
theorem IsAll.mono (k : Keep x y) (h : IsAll x vs ds) : IsAll y vs ds := let ⟨as, r⟩ := h; ⟨as, PyProof.Rows.ReadsAll.keeps k r⟩
theorem Is.int (n : Int) (t : Tok) : Is x (.int n t) (.int n) := ⟨_, .int n t⟩
theorem Is.bool (b : Bool) : Is x (.bool b) (.bool b) := ⟨_, .bool b⟩
theorem Is.intE {n : Int} (h : Is x v (.int n)) : ∃ t, v = .int n t := by obtain ⟨_, r⟩ := h; cases r; exact ⟨_, rfl⟩
theorem Is.boolE {b : Bool} (h : Is x v (.bool b)) : v = .bool b := by obtain ⟨_, r⟩ := h; cases r; rfl
theorem Is.listE (h : Is x v (.list ds)) : ∃ a o vs n, v = .ref a ∧ x.get? a = some o ∧ o.cls = .type "list" ∧ o.data = .seq vs n ∧ IsAll x vs.toList ds := by
  obtain ⟨_, r⟩ := h; cases r with | list h1 h2 h3 h4 => exact ⟨_, _, _, _, rfl, h1, h2, h3, _, h4⟩
theorem Is.tupleE (h : Is x v (.tuple ds)) : ∃ a o vs n, v = .ref a ∧ x.get? a = some o ∧ o.cls = .type "tuple" ∧ o.data = .seq vs n ∧ IsAll x vs.toList ds := by
  obtain ⟨_, r⟩ := h; cases r with | tuple h1 h2 h3 h4 => exact ⟨_, _, _, _, rfl, h1, h2, h3, _, h4⟩
theorem Is.list {a : Addr} {o : Obj} {vs : Array Value} {n : Nat} (h1 : x.get? a = some o) (h2 : o.cls = .type "list") (h3 : o.data = .seq vs n) (h4 : IsAll x vs.toList ds) : Is x (.ref a) (.list ds) := let ⟨_, r⟩ := h4; ⟨_, .list h1 h2 h3 r⟩
theorem Is.tuple {a : Addr} {o : Obj} {vs : Array Value} {n : Nat} (h1 : x.get? a = some o) (h2 : o.cls = .type "tuple") (h3 : o.data = .seq vs n) (h4 : IsAll x vs.toList ds) : Is x (.ref a) (.tuple ds) := let ⟨_, r⟩ := h4; ⟨_, .tuple h1 h2 h3 r⟩
theorem IsAll.nil : IsAll x [] [] := ⟨_, .nil⟩
theorem IsAll.cons (h : Is x v d) (k : IsAll x vs ds) : IsAll x (v :: vs) (d :: ds) := let ⟨_, r⟩ := h; let ⟨_, q⟩ := k; ⟨_, .cons r q⟩
theorem IsAll.consE (h : IsAll x (v :: vs) (d :: ds)) : Is x v d ∧ IsAll x vs ds := by obtain ⟨_, r⟩ := h; cases r with | cons a b => exact ⟨⟨_, a⟩, ⟨_, b⟩⟩
theorem IsAll.length (h : IsAll x vs ds) : vs.length = ds.length := let ⟨_, r⟩ := h; SeqAt.ReadsAll.length _ _ _ r
theorem IsAll.append : ∀ {vs : List Value} {ds : List PyData}, IsAll x vs ds → IsAll x ws es → IsAll x (vs ++ ws) (ds ++ es)
  | [], [], _, k => k
  | [], _ :: _, h, _ => by have := h.length; simp at this
  | _ :: _, [], h, _ => by have := h.length; simp at this
  | v :: vs, d :: ds, h, k => .cons h.consE.1 (IsAll.append h.consE.2 k)
theorem IsAll.one (h : Is x v d) : IsAll x [v] [d] := .cons h .nil
theorem IsAll.get : ∀ {vs : List Value} {ds : List PyData} {i : Nat} {d : PyData}, IsAll x vs ds → ds[i]? = some d → ∃ v, vs[i]? = some v ∧ Is x v d
  | [], [], _, _, _, e => by simp at e
  | [], _ :: _, _, _, h, _ => by have := h.length; simp at this
  | _ :: _, [], _, _, _, e => by simp at e
  | v :: vs, d :: ds, 0, _, h, e => ⟨v, rfl, by simp at e; subst e; exact h.consE.1⟩
  | v :: vs, d :: ds, i + 1, _, h, e => by simpa using IsAll.get (i := i) h.consE.2 (by simpa using e)
theorem IsAll.getV : ∀ {vs : List Value} {ds : List PyData} {i : Nat} {v : Value}, IsAll x vs ds → vs[i]? = some v → ∃ d, ds[i]? = some d ∧ Is x v d
  | [], [], _, _, _, e => by simp at e
  | [], _ :: _, _, _, h, _ => by have := h.length; simp at this
  | _ :: _, [], _, _, h, _ => by have := h.length; simp at this
  | v :: vs, d :: ds, 0, _, h, e => ⟨d, rfl, by simp at e; subst e; exact h.consE.1⟩
  | v :: vs, d :: ds, i + 1, _, h, e => by simpa using IsAll.getV (i := i) h.consE.2 (by simpa using e)
theorem IsAll.set : ∀ {vs : List Value} {ds : List PyData} (i : Nat) {v : Value} {d : PyData}, IsAll x vs ds → Is x v d → IsAll x (vs.set i v) (ds.set i d)
  | [], [], _, _, _, h, _ => h
  | [], _ :: _, _, _, _, h, _ => by have := h.length; simp at this
  | _ :: _, [], _, _, _, h, _ => by have := h.length; simp at this
  | v :: vs, d :: ds, 0, _, _, h, k => .cons k h.consE.2
  | v :: vs, d :: ds, i + 1, _, _, h, k => .cons h.consE.1 (IsAll.set i h.consE.2 k)
theorem IsAll.take : ∀ {vs : List Value} {ds : List PyData} (i : Nat), IsAll x vs ds → IsAll x (vs.take i) (ds.take i)
  | [], [], _, h => by simpa using h
  | [], _ :: _, _, h => by have := h.length; simp at this
  | _ :: _, [], _, h => by have := h.length; simp at this
  | v :: vs, d :: ds, 0, h => by simpa using IsAll.nil
  | v :: vs, d :: ds, i + 1, h => by simpa using IsAll.cons h.consE.1 (IsAll.take i h.consE.2)
theorem IsAll.drop : ∀ {vs : List Value} {ds : List PyData} (i : Nat), IsAll x vs ds → IsAll x (vs.drop i) (ds.drop i)
  | [], [], _, h => by simpa using h
  | [], _ :: _, _, h => by have := h.length; simp at this
  | _ :: _, [], _, h => by have := h.length; simp at this
  | v :: vs, d :: ds, 0, h => by simpa using h
  | v :: vs, d :: ds, i + 1, h => by simpa using IsAll.drop i h.consE.2
theorem IsAll.replicate (n : Nat) (h : Is x v d) : IsAll x (List.replicate n v) (List.replicate n d) := by
  induction n with
  | zero => exact .nil
  | succ n ih => exact .cons h ih
end

inductive Ab where
  | dat (d : PyData)
  | own (l : Addr)
abbrev Ab.i (n : Int) : Ab := .dat (.int n)
abbrev Ab.b (b : Bool) : Ab := .dat (.bool b)
abbrev Ab.t (ds : List PyData) : Ab := .dat (.tuple ds)
abbrev Ab.l (ds : List PyData) : Ab := .dat (.list ds)
def AbIs (x : Heap) (v : Value) : Ab → Prop
  | .dat d => Is x v d
  | .own l => v = .ref l
theorem AbIs.mono {x y : Heap} {v : Value} {a : Ab} (k : Keep x y) (h : AbIs x v a) : AbIs y v a := by
  cases a with
  | dat d => exact Is.mono k h
  | own l => exact h
inductive AbAll (x : Heap) : List Value → List Ab → Prop
  | nil : AbAll x [] []
  | cons {v : Value} {vs : List Value} {a : Ab} {as : List Ab} : AbIs x v a → AbAll x vs as → AbAll x (v :: vs) (a :: as)
theorem AbAll.mono {x y : Heap} {vs : List Value} {as : List Ab} (k : Keep x y) (h : AbAll x vs as) : AbAll y vs as := by
  induction h with
  | nil => exact .nil
  | cons h _ ih => exact .cons (h.mono k) ih
theorem AbAll.dats {x : Heap} : ∀ {ds : List PyData} {vs : List Value}, AbAll x vs (ds.map Ab.dat) → IsAll x vs ds
  | [], _, h => by cases h; exact .nil
  | d :: ds, _, h => by cases h with | cons a b => exact .cons a (AbAll.dats b)

inductive Oc where
  | lst (ds : List PyData)
  | vac
abbrev Om := List (Addr × Oc)
def OcIs (x : Heap) (o : Obj) : Oc → Prop
  | .lst ds => ∃ vs n, o = W.listOf vs n ∧ IsAll x vs.toList ds
  | .vac => ∃ v, o.data = .cell v
theorem OcIs.mono {x y : Heap} {o : Obj} {c : Oc} (k : Keep x y) (h : OcIs x o c) : OcIs y o c := by
  cases c with
  | lst ds => obtain ⟨vs, n, e, r⟩ := h; exact ⟨vs, n, e, r.mono k⟩
  | vac => exact h
inductive OwnAre (x : Heap) : List (Addr × Obj) → Om → Prop
  | nil : OwnAre x [] []
  | cons {a : Addr} {o : Obj} {c : Oc} {led : List (Addr × Obj)} {ω : Om} : OcIs x o c → OwnAre x led ω → OwnAre x ((a, o) :: led) ((a, c) :: ω)
theorem OwnAre.mono {x y : Heap} {led : List (Addr × Obj)} {ω : Om} (k : Keep x y) (h : OwnAre x led ω) : OwnAre y led ω := by
  induction h with
  | nil => exact .nil
  | cons h _ ih => exact .cons (h.mono k) ih
theorem OwnAre.keys {x : Heap} {led : List (Addr × Obj)} {ω : Om} (h : OwnAre x led ω) : led.map (·.1) = ω.map (·.1) := by
  induction h with
  | nil => rfl
  | cons _ _ ih => simp [ih]
theorem OwnAre.split {x : Heap} : ∀ {ω₁ : Om} {led : List (Addr × Obj)} {l : Addr} {c : Oc} {ω₂ : Om}, OwnAre x led (ω₁ ++ (l, c) :: ω₂) →
    ∃ led₁ o led₂, led = led₁ ++ (l, o) :: led₂ ∧ OwnAre x led₁ ω₁ ∧ OcIs x o c ∧ OwnAre x led₂ ω₂
  | [], _, _, _, _, h => by cases h with | cons a b => exact ⟨[], _, _, rfl, .nil, a, b⟩
  | _ :: _, _, _, _, _, h => by
    cases h with
    | cons a b =>
      obtain ⟨led₁, o, led₂, rfl, h1, h2, h3⟩ := OwnAre.split b
      exact ⟨_ :: led₁, o, led₂, rfl, .cons a h1, h2, h3⟩
theorem OwnAre.append {x : Heap} {led₁ led₂ : List (Addr × Obj)} {ω₁ ω₂ : Om} (h : OwnAre x led₁ ω₁) (k : OwnAre x led₂ ω₂) : OwnAre x (led₁ ++ led₂) (ω₁ ++ ω₂) := by
  induction h with
  | nil => exact k
  | cons a _ ih => exact .cons a ih
theorem OwnAre.appendE {x : Heap} : ∀ {ω₁ : Om} {led : List (Addr × Obj)} {ω₂ : Om}, OwnAre x led (ω₁ ++ ω₂) → ∃ led₁ led₂, led = led₁ ++ led₂ ∧ OwnAre x led₁ ω₁ ∧ OwnAre x led₂ ω₂
  | [], _, _, h => ⟨[], _, rfl, .nil, h⟩
  | _ :: _, _, _, h => by
    cases h with
    | cons a b =>
      obtain ⟨led₁, led₂, rfl, h1, h2⟩ := OwnAre.appendE b
      exact ⟨_ :: led₁, led₂, rfl, .cons a h1, h2⟩

/-! a ghost heap: what stands and will not turn -/
open Classical in
theorem ghost_add {gx h : Heap} {a : Addr} {o : Obj} (k : Keep gx h) (e : h.get? a = some o) :
    ∃ gx', Keep gx gx' ∧ Keep gx' h ∧ gx'.get? a = some o ∧ ∀ b o', gx'.get? b = some o' → gx.get? b = some o' ∨ b = a := by
  let as := (List.range h.objs.size).filter fun b => decide (gx.get? b = none ∧ b ≠ a)
  refine ⟨hideAll h as, fun b o' h1 => hideAll_get _ (k b o' h1) fun hm => ?_, fun b o' h1 => of_hideAll _ h1, hideAll_get _ e fun hm => ?_, fun b o' h1 => ?_⟩
  · have := of_decide_eq_true (List.mem_filter.mp hm).2
    rw [this.1] at h1; cases h1
  · exact (of_decide_eq_true (List.mem_filter.mp hm).2).2 rfl
  · by_cases hb : b = a
    · exact .inr hb
    · left
      have h2 := of_hideAll _ h1
      cases q : gx.get? b with
      | some o'' => have := k b o'' q; rw [h2] at this; exact this.symm
      | none =>
        exfalso
        have hm : b ∈ as := List.mem_filter.mpr ⟨List.mem_range.mpr (Heap.lt_size h2), decide_eq_true ⟨q, hb⟩⟩
        have := hideAll_none (h := h) as hm
        rw [h1] at this; cases this

/-! the frame that runs -/
abbrev Rho := Str → Option Ab
def Rho.none : Rho := fun _ => Option.none
def Var (env : Env) (L : Addr) (m : Str → Option Value) (raw : List (Addr × Obj)) (x : Str) (v : Value) : Prop :=
  (env.locals = L ∧ env.kindOf x = some .local ∧ m x = some v) ∨
  (∃ c o, (env.kindOf x = some .cell ∨ env.kindOf x = some .free) ∧ env.cells.lookup x = some c ∧ (c, o) ∈ raw ∧ o.data = .cell (some v)) ∨
  (∃ oC m₂, env.kindOf x = some .local ∧ (env.locals, oC) ∈ raw ∧ LCg.NsObj oC m₂ ∧ m₂ x = some v)
theorem Var.mono {env : Env} {L : Addr} {m : Str → Option Value} {raw raw' : List (Addr × Obj)} {x : Str} {v : Value} (h : ∀ p ∈ raw, p ∈ raw') (V : Var env L m raw x v) : Var env L m raw' x v := by
  rcases V with V | ⟨c, o, h1, h2, h3, h4⟩ | ⟨oC, m₂, h1, h2, h3, h4⟩
  · exact .inl V
  · exact .inr (.inl ⟨c, o, h1, h2, h _ h3, h4⟩)
  · exact .inr (.inr ⟨oC, m₂, h1, h _ h2, h3, h4⟩)
def Vars (env : Env) (L : Addr) (m : Str → Option Value) (raw : List (Addr × Obj)) (gx : Heap) (ρ : Rho) : Prop := ∀ x a, ρ x = some a → ∃ v, Var env L m raw x v ∧ AbIs gx v a
theorem Vars.mono {env : Env} {L : Addr} {m : Str → Option Value} {raw : List (Addr × Obj)} {gx gx' : Heap} {ρ : Rho} (V : Vars env L m raw gx ρ) (k : Keep gx gx') : Vars env L m raw gx' ρ :=
  fun x a e => let ⟨v, h1, h2⟩ := V x a e; ⟨v, h1, h2.mono k⟩
theorem Vars.more {env : Env} {L : Addr} {m : Str → Option Value} {raw raw' : List (Addr × Obj)} {gx : Heap} {ρ : Rho} (V : Vars env L m raw gx ρ) (h : ∀ p ∈ raw, p ∈ raw') : Vars env L m raw' gx ρ :=
  fun x a e => let ⟨v, h1, h2⟩ := V x a e; ⟨v, h1.mono h, h2⟩
theorem Vars.none {env : Env} {L : Addr} {m : Str → Option Value} {raw : List (Addr × Obj)} {gx : Heap} {ρ : Rho} (h : ρ = Rho.none) : Vars env L m raw gx ρ := by
  subst h
  intro x a e
  cases e

structure Cx where
  w : World
  A : Around
  env : Env
  fenv : Env
  L : Addr
  g : Heap
  s₀ : Shared
  gx₀ : Heap
  n : Nat
  base : Heap
  outer : List Env
  A₀ : Around
  mean : ExcName → Option Value
  mg : Str → Option Value
  mb : Str → Option Value
  hh : A.handled = none
  below : Below A₀ base outer g
  frames : A.frames = some (fenv :: outer)
  ff : fenv.frame = some L
  fk : fenv.scope.kind = .function
  kin : KIn g
  top : TT mean mg mb g
  eg : env.globals = mainGlobals
  eb : env.builtins = builtinsNs
  ek : env.scope.kind = .function
  depth : A.depth + n < recursionLimit
  units : A.units + 8 * n + 100 < cLine
  oenv : Env
  oρ : Rho
  oz : env.locals = L → oρ = Rho.none
  r0 : Is gx₀ (.ref 49) (.tuple [.int 0, .int 1])
  r1 : Is gx₀ (.ref 50) (.tuple [.int 1, .int 1])

structure St (c : Cx) (ρ : Rho) (ω : Om) (gx : Heap) (raw : List (Addr × Obj)) (s : Shared) : Prop where
  same : ∃ h tk, s = { c.s₀ with heap := h, toks := tk }
  fr : ∃ m, Fr c.g c.L s.heap m ∧ Vars c.env c.L m raw gx ρ ∧ Vars c.oenv c.L m raw gx c.oρ
  nw : ∃ led, News c.g c.L s.heap (led ++ raw) ∧ OwnAre gx led ω
  nd : (ω.map (·.1)).Nodup
  apart : ∀ p ∈ ω, ∀ q ∈ raw, p.1 ≠ q.1
  sub : Keep gx s.heap
  offL : gx.get? c.L = none
  offO : ∀ p ∈ ω, gx.get? p.1 = none
  offR : ∀ q ∈ raw, gx.get? q.1 = none
  grow : Keep c.gx₀ gx
  new : ∀ b o, gx.get? b = some o → c.gx₀.get? b = some o ∨ c.g.get? b = Option.none

section
variable {c : Cx} {ρ : Rho} {ω : Om} {gx : Heap} {raw : List (Addr × Obj)} {s : Shared}
theorem St.step (S : St c ρ ω gx raw s) {h' : Heap} {tk : Nat} (k : Keep s.heap h') : St c ρ ω gx raw { s with heap := h', toks := tk } := by
  obtain ⟨⟨h, tk0, rfl⟩, ⟨m, F, V, V'⟩, ⟨led, N, O⟩, nd, ap, sub, oL, oO, oR, gr, nw⟩ := S
  exact ⟨⟨h', tk, rfl⟩, ⟨m, F.keeps k, V, V'⟩, ⟨led, N.grown k, O⟩, nd, ap, fun b o e => k _ _ (sub b o e), oL, oO, oR, gr, nw⟩
theorem St.toks (S : St c ρ ω gx raw s) (tk : Nat) : St c ρ ω gx raw { s with toks := tk } := S.step (h' := s.heap) fun _ _ e => e
theorem St.gsize (S : St c ρ ω gx raw s) : c.g.objs.size ≤ s.heap.objs.size := by
  obtain ⟨m, F, _⟩ := S.fr
  exact Nat.le_trans F.above (Nat.le_of_lt F.ns.lt)
/-- a new thing is laid, and frozen at once -/
theorem St.push (S : St c ρ ω gx raw s) {o : Obj} {tk : Nat} (hf : o.isFreed = false) :
    ∃ gx', Keep gx gx' ∧ St c ρ ω gx' raw { s with heap := s.heap.push o, toks := tk } ∧ gx'.get? s.heap.objs.size = some o := by
  have k : Keep s.heap (s.heap.push o) := fun b o e => Heap.get?_push_of_some _ e
  have S' := S.step (tk := tk) k
  obtain ⟨gx', k1, k2, e, nw'⟩ := ghost_add S'.sub (Heap.get?_push_size s.heap hf)
  obtain ⟨m, F, V, V'⟩ := S'.fr
  obtain ⟨led, N, O⟩ := S'.nw
  obtain ⟨m0, F0, _⟩ := S.fr
  obtain ⟨led0, N0, O0⟩ := S.nw
  have hne : ∀ b, b < s.heap.objs.size → gx.get? b = none → gx'.get? b = none := fun b hb hn => by
    cases q : gx'.get? b with
    | none => rfl
    | some o' =>
      rcases nw' b o' q with h | h
      · rw [hn] at h; cases h
      · exact absurd h (Nat.ne_of_lt hb)
  refine ⟨gx', k1, ⟨S'.same, ⟨m, F, fun x a e => ?_, V'.mono k1⟩, ⟨led, N, O.mono k1⟩, S'.nd, S'.apart, k2, hne _ F0.ns.lt S'.offL, fun p hp => hne _ ?_ (S'.offO p hp), fun q hq => hne _ ?_ (S'.offR q hq), fun b o e => k1 _ _ (S'.grow b o e), fun b o e => ?_⟩, e⟩
  · obtain ⟨v, h1, h2⟩ := V x a e
    exact ⟨v, h1, h2.mono k1⟩
  · have : p.1 ∈ led0.map (·.1) := by rw [O0.keys]; exact List.mem_map_of_mem hp
    obtain ⟨q, hq, e'⟩ := List.mem_map.mp this
    rw [← e']
    exact Heap.lt_size (N0 q (List.mem_append_left _ hq)).1
  · exact Heap.lt_size (N0 q (List.mem_append_right _ hq)).1
  · rcases nw' b o e with h | h
    · exact S'.new b o h
    · refine .inr ?_
      rw [h]
      cases q : c.g.get? s.heap.objs.size with
      | none => rfl
      | some o => exact absurd (Heap.lt_size (F0.keep _ _ q)) (Nat.lt_irrefl _)
end

def Rho.set (ρ : Rho) (x : Str) (a : Ab) : Rho := fun y => if y = x then some a else ρ y

/-- I is none of the frame's own -/
structure Off (c : Cx) (ω : Om) (gx : Heap) (raw : List (Addr × Obj)) (I : Addr) : Prop where
  l : I ≠ c.L
  g : c.g.get? I = none
  o : ∀ p ∈ ω, p.1 ≠ I
  r : ∀ q ∈ raw, q.1 ≠ I
  x : gx.get? I = none

section
variable {c : Cx} {ρ : Rho} {ω : Om} {gx : Heap} {raw : List (Addr × Obj)} {s : Shared} {I : Addr} {oI : Obj}
theorem St.addRaw (S : St c ρ ω gx raw s) (e : s.heap.get? I = some oI) (f : Off c ω gx raw I) : St c ρ ω gx ((I, oI) :: raw) s := by
  obtain ⟨sm, ⟨m, F, V, V'⟩, ⟨led, N, O⟩, nd, ap, sub, oL, oO, oR, gr, nw⟩ := S
  refine ⟨sm, ⟨m, F, fun x a e' => ?_, V'.more fun p hp => .tail _ hp⟩, ⟨led, fun p hp => ?_, O⟩, nd, fun p hp q hq => ?_, sub, oL, oO, fun q hq => ?_, gr, nw⟩
  · obtain ⟨v, h1, h2⟩ := V x a e'
    exact ⟨v, h1.mono fun p hp => .tail _ hp, h2⟩
  · rcases List.mem_append.mp hp with hp | hp
    · exact N p (List.mem_append_left _ hp)
    · rcases List.mem_cons.mp hp with rfl | hp
      · exact ⟨e, f.l, f.g⟩
      · exact N p (List.mem_append_right _ hp)
  · rcases List.mem_cons.mp hq with rfl | hq
    · exact f.o p hp
    · exact ap p hp q hq
  · rcases List.mem_cons.mp hq with rfl | hq
    · exact f.x
    · exact oR q hq
theorem St.dropRaw (S : St c ρ ω gx ((I, oI) :: raw) s) (hr : ∀ q ∈ raw, q.1 ≠ I) (hc : ∀ v, oI.data ≠ .cell v) (hL : c.env.locals = c.L) :
    St c ρ ω gx raw s ∧ s.heap.get? I = some oI ∧ Off c ω gx raw I := by
  obtain ⟨sm, ⟨m, F, V, V'⟩, ⟨led, N, O⟩, nd, ap, sub, oL, oO, oR, gr, nw⟩ := S
  have zI := N (I, oI) (List.mem_append_right _ (.head _))
  refine ⟨⟨sm, ⟨m, F, fun x a e' => ?_, Vars.none (c.oz hL)⟩, ⟨led, fun p hp => ?_, O⟩, nd, fun p hp q hq => ap p hp q (.tail _ hq), sub, oL, oO, fun q hq => oR q (.tail _ hq), gr, nw⟩, zI.1, ⟨zI.2.1, zI.2.2, fun p hp => ap p hp _ (.head _), hr, oR _ (.head _)⟩⟩
  · obtain ⟨v, h1, h2⟩ := V x a e'
    refine ⟨v, ?_, h2⟩
    rcases h1 with V | ⟨c', o, h1, h2, h3, h4⟩ | ⟨oC, m₂, h1, h2, h3, h4⟩
    · exact .inl V
    · rcases List.mem_cons.mp h3 with q | h3
      · cases q; exact absurd h4 (hc _)
      · exact .inr (.inl ⟨c', o, h1, h2, h3, h4⟩)
    · rcases List.mem_cons.mp h2 with q | h2
      · exact absurd (hL ▸ (Prod.mk.inj q).1).symm zI.2.1
      · exact .inr (.inr ⟨oC, m₂, h1, h2, h3, h4⟩)
  · rcases List.mem_append.mp hp with hp | hp
    · exact N p (List.mem_append_left _ hp)
    · exact N p (List.mem_append_right _ (.tail _ hp))
theorem St.but (S : St c ρ ω gx raw s) (f : Off c ω gx raw I) {h' : Heap} {tk : Nat} (k : ∀ b o, b ∉ [I] → s.heap.get? b = some o → h'.get? b = some o) : St c ρ ω gx raw { s with heap := h', toks := tk } := by
  obtain ⟨⟨h, tk0, rfl⟩, ⟨m, F, V, V'⟩, ⟨led, N, O⟩, nd, ap, sub, oL, oO, oR, gr, nw⟩ := S
  have kk : ∀ b o, b ≠ I → h.get? b = some o → h'.get? b = some o := fun b o hb => k b o (by simpa using hb)
  refine ⟨⟨h', tk, rfl⟩, ⟨m, ⟨F.ns.at' fun o e' => kk _ o (Ne.symm f.l) e', fun b o e' => kk b o (fun q => ?_) (F.keep b o e'), F.above⟩, V, V'⟩, ⟨led, fun p hp => ?_, O⟩, nd, ap, fun b o e' => kk b o (fun q => ?_) (sub b o e'), oL, oO, oR, gr, nw⟩
  · rw [q, f.g] at e'; cases e'
  · have z := N p hp
    refine ⟨kk _ _ ?_ z.1, z.2⟩
    rcases List.mem_append.mp hp with hp | hp
    · have : p.1 ∈ ω.map (·.1) := by rw [← O.keys]; exact List.mem_map_of_mem hp
      obtain ⟨q, hq, e1⟩ := List.mem_map.mp this
      exact e1 ▸ f.o q hq
    · exact f.r p hp
  · rw [q, f.x] at e'; cases e'
theorem St.offNew (S : St c ρ ω gx raw s) : Off c ω gx raw s.heap.objs.size := by
  obtain ⟨sm, ⟨m, F, V, V'⟩, ⟨led, N, O⟩, nd, ap, sub, oL, oO, oR, gr, nw⟩ := S
  refine ⟨Nat.ne_of_gt F.ns.lt, ?_, fun p hp => ?_, fun q hq => Nat.ne_of_lt (Heap.lt_size (N q (List.mem_append_right _ hq)).1), ?_⟩
  · cases q : c.g.get? s.heap.objs.size with
    | none => rfl
    | some o => exact absurd (Heap.lt_size (F.keep _ _ q)) (Nat.lt_irrefl _)
  · have : p.1 ∈ led.map (·.1) := by rw [O.keys]; exact List.mem_map_of_mem hp
    obtain ⟨q, hq, e1⟩ := List.mem_map.mp this
    exact e1 ▸ Nat.ne_of_lt (Heap.lt_size (N q (List.mem_append_left _ hq)).1)
  · cases q : gx.get? s.heap.objs.size with
    | none => rfl
    | some o => exact absurd (Heap.lt_size (sub _ _ q)) (Nat.lt_irrefl _)
theorem St.store {x : Str} {v : Value} {a : Ab} (S : St c ρ ω gx raw s) (hL : c.env.locals = c.L) (hk : c.env.kindOf x = some .local) (hv : AbIs gx v a) {Q : Unit → Shared → Prop} {E : Value → Shared → Prop}
    (h : ∀ s', St c (ρ.set x a) ω gx raw s' → Q () s') : wpAny (model PP c.w) c.A (storeName c.env x v) Q E s := by
  obtain ⟨⟨h0, tk0, rfl⟩, ⟨m, F, V, V'⟩, ⟨led, N, O⟩, nd, ap, sub, oL, oO, oR, gr, nw⟩ := S
  have F' : Fr c.g c.env.locals h0 m := hL.symm ▸ F
  refine wpAny_storeName_local hk F'.ns (fun h' hn hs => h _ ?_) (by rw [c.ek]; rfl)
  rw [hL] at hn hs
  refine ⟨⟨h', _, rfl⟩, ⟨_, F.set hn hs, fun y b e => ?_, Vars.none (c.oz hL)⟩, ⟨led, N.set hs, O⟩, nd, ap, fun b o e' => hs.extBut b o (fun q => ?_) (sub b o e'), oL, oO, oR, gr, nw⟩
  · by_cases hy : y = x
    · subst hy
      simp only [Rho.set, if_true] at e
      cases e
      exact ⟨v, .inl ⟨hL, hk, by simp⟩, hv⟩
    · simp only [Rho.set, if_neg hy] at e
      obtain ⟨u, h1, h2⟩ := V y b e
      refine ⟨u, ?_, h2⟩
      rcases h1 with ⟨a1, a2, a3⟩ | h1 | h1
      · exact .inl ⟨a1, a2, by simp only [if_neg hy]; exact a3⟩
      · exact .inr (.inl h1)
      · exact .inr (.inr h1)
  · have q' : b = c.L := q
    rw [q', oL] at e'; cases e'
end

/-! evaluation over abstract values -/
def evT (c : Cx) (ρ : Rho) (ω : Om) (t : Sem Value) (P : Ab → Om → Prop) : Prop :=
  ∀ gx raw s (Q : Value → Shared → Prop), St c ρ ω gx raw s →
    (∀ v s' gx' a ω', P a ω' → Keep gx gx' → St c ρ ω' gx' raw s' → AbIs gx' v a → Q v s') → wpAny (model PP c.w) c.A t Q (fun _ _ => False) s
abbrev ev (c : Cx) (ρ : Rho) (ω : Om) (e : Expr) (P : Ab → Om → Prop) : Prop := evT c ρ ω (eval e c.env) P
def tsT (c : Cx) (ρ : Rho) (ω : Om) (t : Sem Bool) (P : Bool → Om → Prop) : Prop :=
  ∀ gx raw s (Q : Bool → Shared → Prop), St c ρ ω gx raw s →
    (∀ b s' gx' ω', P b ω' → Keep gx gx' → St c ρ ω' gx' raw s' → Q b s') → wpAny (model PP c.w) c.A t Q (fun _ _ => False) s
abbrev ts (c : Cx) (ρ : Rho) (ω : Om) (e : Expr) (P : Bool → Om → Prop) : Prop := tsT c ρ ω (isTrue e c.env (eval e c.env)) P
def evL (c : Cx) (ρ : Rho) (ω : Om) (t : Sem (List Value)) (P : List Ab → Om → Prop) : Prop :=
  ∀ gx raw s (Q : List Value → Shared → Prop), St c ρ ω gx raw s →
    (∀ vs s' gx' as ω', P as ω' → Keep gx gx' → St c ρ ω' gx' raw s' → AbAll gx' vs as → Q vs s') → wpAny (model PP c.w) c.A t Q (fun _ _ => False) s
abbrev evs (c : Cx) (ρ : Rho) (ω : Om) (pos : Pos) (es : List Expr) (P : List Ab → Om → Prop) : Prop := evL c ρ ω (spliced (backTo pos (starEach es c.env))) P

theorem Keep.refl (x : Heap) : Keep x x := fun _ _ e => e
theorem Keep.trans {x y z : Heap} (h : Keep x y) (k : Keep y z) : Keep x z := fun _ _ e => k _ _ (h _ _ e)

section
variable {c : Cx} {ρ : Rho} {ω : Om} {P : Ab → Om → Prop}
theorem evT.mono {t : Sem Value} {P' : Ab → Om → Prop} (h : evT c ρ ω t P) (k : ∀ a ω', P a ω' → P' a ω') : evT c ρ ω t P' :=
  fun gx raw s Q S q => h gx raw s Q S fun v s' gx' a ω' p => q v s' gx' a ω' (k a ω' p)
theorem tsT.mono {t : Sem Bool} {P P' : Bool → Om → Prop} (h : tsT c ρ ω t P) (k : ∀ a ω', P a ω' → P' a ω') : tsT c ρ ω t P' :=
  fun gx raw s Q S q => h gx raw s Q S fun v s' gx' ω' p => q v s' gx' ω' (k v ω' p)
theorem ev_var {x : Str} {pos : Pos} {a : Ab} (hx : ρ x = some a) (h : P a ω) (hd : (x == ("__debug__" : Str)) = false := by decide) (hn : (x == ("__classdict__" : Str)) = false := by decide) : ev c ρ ω (.Name x pos) P := by
  intro gx raw s Q S q
  obtain ⟨m, F, V, _⟩ := S.fr
  obtain ⟨led, N, O⟩ := S.nw
  obtain ⟨v, h1, h2⟩ := V x a hx
  have hq : Q v s := q v s gx a ω h (Keep.refl _) S h2
  rcases h1 with ⟨a1, a2, a3⟩ | ⟨c', o, h3, h4, h5, h6⟩ | ⟨oC, m₂, h3, h4, h5, h6⟩
  · refine wpAny_Name (wpAny_loadName_local c.ek a2 ?_ a3 hq) hd
    rw [a1]; exact F.ns
  · have hcell : s.heap.IsCell c' (some v) := ⟨o, (N _ (List.mem_append_right _ h5)).1, h6⟩
    rcases h3 with h3 | h3
    · exact wpAny_Name (wpAny_loadName_cell c.ek h3 h4 hcell hq) hd
    · exact wpAny_Name (wpAny_loadName_free c.ek h3 h4 hcell hq hn) hd
  · exact wpAny_Name (wpAny_loadName_local c.ek h3 (h5.ns (N _ (List.mem_append_right _ h4)).1) h6 hq) hd
theorem ev_int {n : Int} {k : Nat} {pos : Pos} (h : P (.i n) ω) : ev c ρ ω (.Constant (.int n) k pos) P := by
  intro gx raw s Q S q
  exact wpAny_Constant_int (q _ _ gx _ ω h (Keep.refl _) (S.toks _) (Is.int _ _))
theorem ev_bool {b : Bool} {k : Nat} {pos : Pos} (h : P (.b b) ω) : ev c ρ ω (.Constant (.bool b) k pos) P := by
  intro gx raw s Q S q
  exact Constant_bool (q _ _ gx _ ω h (Keep.refl _) S (Is.bool _))
/-- a binary operation, by what it makes of the two values -/
def binT (c : Cx) (ρ : Rho) (ω : Om) (t : Value → Value → Sem Value) (a b : Ab) (P : Ab → Om → Prop) : Prop :=
  ∀ gx raw s (Q : Value → Shared → Prop) u v, St c ρ ω gx raw s → AbIs gx u a → AbIs gx v b →
    (∀ v s' gx' a ω', P a ω' → Keep gx gx' → St c ρ ω' gx' raw s' → AbIs gx' v a → Q v s') → wpAny (model PP c.w) c.A (t u v) Q (fun _ _ => False) s
theorem ev_bin {l r : Expr} {op : Operator} {pos : Pos} (h : ev c ρ ω l fun a ω₁ => ev c ρ ω₁ r fun b ω₂ => binT c ρ ω₂ (binaryOp op) a b P) : ev c ρ ω (.BinOp l op r pos) P := by
  intro gx raw s Q S q
  refine wpAny_BinOp (h gx raw s _ S fun u s₁ gx₁ a ω₁ h₁ k₁ S₁ i₁ => ?_)
  refine h₁ gx₁ raw s₁ _ S₁ fun v s₂ gx₂ b ω₂ h₂ k₂ S₂ i₂ => ?_
  exact h₂ gx₂ raw s₂ _ u v S₂ (i₁.mono k₂) i₂ fun v s' gx' a ω' p k => q v s' gx' a ω' p ((k₁.trans k₂).trans k)
theorem ev_cmp {l r : Expr} {op : CmpOp} {pos : Pos} (h : ev c ρ ω l fun a ω₁ => ev c ρ ω₁ r fun b ω₂ => binT c ρ ω₂ (compareOp op) a b P) (hm : behindInMarks op r = false := by with_unfolding_all rfl) : ev c ρ ω (.Compare l [op] [r] pos) P := by
  intro gx raw s Q S q
  refine wpAny_Compare1 (h gx raw s _ S fun u s₁ gx₁ a ω₁ h₁ k₁ S₁ i₁ => ?_) hm
  refine h₁ gx₁ raw s₁ _ S₁ fun v s₂ gx₂ b ω₂ h₂ k₂ S₂ i₂ => ?_
  exact h₂ gx₂ raw s₂ _ u v S₂ (i₁.mono k₂) i₂ fun v s' gx' a ω' p k => q v s' gx' a ω' p ((k₁.trans k₂).trans k)
theorem ts_cmp {l r : Expr} {op : CmpOp} {pos : Pos} {whole : Sem Value} {P : Bool → Om → Prop} (h : ev c ρ ω l fun a ω₁ => ev c ρ ω₁ r fun b ω₂ => binT c ρ ω₂ (compareOp op) a b fun d ω₃ => ∃ t, d = .b t ∧ P t ω₃) (hm : behindInMarks op r = false := by with_unfolding_all rfl) :
    tsT c ρ ω (isTrue (.Compare l [op] [r] pos) c.env whole) P := by
  intro gx raw s Q S q
  refine wpAny_isTrue_Compare1 (h gx raw s _ S fun u s₁ gx₁ a ω₁ h₁ k₁ S₁ i₁ => ?_) hm
  refine h₁ gx₁ raw s₁ _ S₁ fun v s₂ gx₂ b ω₂ h₂ k₂ S₂ i₂ => ?_
  refine h₂ gx₂ raw s₂ _ u v S₂ (i₁.mono k₂) i₂ fun v s' gx' a ω' p k S' i' => ?_
  obtain ⟨t, rfl, p⟩ := p
  obtain rfl := Is.boolE i'
  exact wpAny_truthy_bool (q _ _ _ _ p ((k₁.trans k₂).trans k) S')
theorem ts_plain {e : Expr} {whole : Sem Value} {P : Bool → Om → Prop} (h : evT c ρ ω whole fun d ω₃ => ∃ t, d = .b t ∧ P t ω₃)
    (he : isTrue e c.env whole = (do let v ← whole; standAt e.pos; holding [v] (truthy v)) := by first | rfl | (rename Cx.env _ = _ => heX; rw [heX]; rfl)) : tsT c ρ ω (isTrue e c.env whole) P := by
  intro gx raw s Q S q
  refine isTrue_plain (h gx raw s _ S fun u s₁ gx₁ a ω₁ h₁ k₁ S₁ i₁ => ?_) he
  obtain ⟨t, rfl, p⟩ := h₁
  obtain rfl := Is.boolE i₁
  exact wpAny_truthy_bool (q _ _ _ _ p k₁ S₁)
theorem ts_and {x : Expr} {rest : List Expr} {pos : Pos} {whole : Sem Value} {P : Bool → Om → Prop} (h : ts c ρ ω x fun b ω₁ => if b = true then tsT c ρ ω₁ (isTrue (.BoolOp .And rest pos) c.env whole) P else P false ω₁) :
    tsT c ρ ω (isTrue (.BoolOp .And (x :: rest) pos) c.env whole) P := by
  intro gx raw s Q S q
  refine isTrue_and (h gx raw s _ S fun b s₁ gx₁ ω₁ h₁ k₁ S₁ => ?_)
  cases b with
  | true => simp only [if_true] at h₁ ⊢; exact h₁ gx₁ raw s₁ _ S₁ fun b s' gx' ω' p k => q b s' gx' ω' p (k₁.trans k)
  | false => simp only [Bool.false_eq_true, if_false] at h₁ ⊢; exact q _ _ _ _ h₁ k₁ S₁
theorem ts_and_nil {pos : Pos} {whole : Sem Value} {P : Bool → Om → Prop} (h : P true ω) : tsT c ρ ω (isTrue (.BoolOp .And [] pos) c.env whole) P :=
  fun gx raw s Q S q => isTrue_and_nil (q _ _ _ _ h (Keep.refl _) S)
theorem ts_or {x : Expr} {rest : List Expr} {pos : Pos} {whole : Sem Value} {P : Bool → Om → Prop} (h : ts c ρ ω x fun b ω₁ => if b = true then P true ω₁ else tsT c ρ ω₁ (isTrue (.BoolOp .Or rest pos) c.env whole) P) :
    tsT c ρ ω (isTrue (.BoolOp .Or (x :: rest) pos) c.env whole) P := by
  intro gx raw s Q S q
  refine isTrue_or (h gx raw s _ S fun b s₁ gx₁ ω₁ h₁ k₁ S₁ => ?_)
  cases b with
  | true => simp only [if_true] at h₁ ⊢; exact q _ _ _ _ h₁ k₁ S₁
  | false => simp only [Bool.false_eq_true, if_false] at h₁ ⊢; exact h₁ gx₁ raw s₁ _ S₁ fun b s' gx' ω' p k => q b s' gx' ω' p (k₁.trans k)
theorem ts_or_nil {pos : Pos} {whole : Sem Value} {P : Bool → Om → Prop} (h : P false ω) : tsT c ρ ω (isTrue (.BoolOp .Or [] pos) c.env whole) P :=
  fun gx raw s Q S q => isTrue_or_nil (q _ _ _ _ h (Keep.refl _) S)
theorem ev_if {t b o : Expr} {pos : Pos} (h : ts c ρ ω t fun d ω₁ => if d = true then ev c ρ ω₁ b P else ev c ρ ω₁ o P) : ev c ρ ω (.IfExp t b o pos) P := by
  intro gx raw s Q S q
  refine IfExp_ (h gx raw s _ S fun d s₁ gx₁ ω₁ h₁ k₁ S₁ => ?_)
  cases d with
  | true => simp only [if_true] at h₁ ⊢; exact h₁ gx₁ raw s₁ _ S₁ fun b s' gx' a ω' p k => q b s' gx' a ω' p (k₁.trans k)
  | false => simp only [Bool.false_eq_true, if_false] at h₁ ⊢; exact h₁ gx₁ raw s₁ _ S₁ fun b s' gx' a ω' p k => q b s' gx' a ω' p (k₁.trans k)
/-- «x and y» as a value, x a bool -/
theorem ev_and {e₁ e₂ : Expr} {pos : Pos} (h : ev c ρ ω e₁ fun a ω₁ => ∃ t, a = .b t ∧ if t = true then ev c ρ ω₁ e₂ P else P (.b false) ω₁) : ev c ρ ω (.BoolOp .And [e₁, e₂] pos) P := by
  intro gx raw s Q S q
  refine BoolOp_and (h gx raw s _ S fun v s₁ gx₁ a ω₁ h₁ k₁ S₁ i₁ => ?_)
  obtain ⟨t, rfl, h₁⟩ := h₁
  obtain rfl := Is.boolE i₁
  refine wpAny_truthy_bool ?_
  cases t with
  | true => simp only [if_true] at h₁ ⊢; exact BoolOp_one (h₁ gx₁ raw s₁ _ S₁ fun b s' gx' a ω' p k => q b s' gx' a ω' p (k₁.trans k))
  | false => simp only [Bool.false_eq_true, if_false] at h₁ ⊢; exact q _ _ _ _ _ h₁ k₁ S₁ (Is.bool _)
theorem evs_nil {pos : Pos} {P : List Ab → Om → Prop} (h : P [] ω) : evs c ρ ω pos [] P :=
  fun gx raw s Q S q => spliced_nil (q _ _ _ _ _ h (Keep.refl _) S .nil)
theorem evs_cons {pos : Pos} {e : Expr} {es : List Expr} {P : List Ab → Om → Prop} (h : ev c ρ ω e fun a ω₁ => evs c ρ ω₁ pos es fun as ω₂ => P (a :: as) ω₂)
    (he : starEach (e :: es) c.env = (false, eval e c.env) :: starEach es c.env := by first | rfl | (rename Cx.env _ = _ => heX; rw [heX]; rfl)) : evs c ρ ω pos (e :: es) P := by
  intro gx raw s Q S q
  rw [he]
  refine spliced_cons (h gx raw s _ S fun v s₁ gx₁ a ω₁ h₁ k₁ S₁ i₁ => ?_)
  exact h₁ gx₁ raw s₁ _ S₁ fun vs s' gx' as ω' p k S' i' => q _ _ _ _ _ p (k₁.trans k) S' (.cons (i₁.mono k) i')
/-- a tuple's display -/
theorem ev_tuple {elts : List Expr} {k : Nat} {pos : Pos} (h : evs c ρ ω pos elts fun as ω₁ => ∃ ds, as = ds.map Ab.dat ∧ ds.length ≤ 1000 ∧ P (.t ds) ω₁) : ev c ρ ω (.Tuple elts k pos) P := by
  intro gx raw s Q S q
  refine Tuple_ (h gx raw s _ S fun vs s₁ gx₁ as ω₁ h₁ k₁ S₁ i₁ => ?_)
  obtain ⟨ds, rfl, hl, p⟩ := h₁
  have i₂ := i₁.dats
  obtain ⟨gx₂, k₂, S₂, e₂⟩ := S₁.push (o := { cls := .type "tuple", data := .seq vs.toArray }) (tk := s₁.toks) rfl
  refine wpAny_newObj_type (q _ _ gx₂ _ _ p (k₁.trans k₂) S₂ (Is.tuple e₂ rfl rfl (by simpa using i₂.mono k₂))) ?_
  show vs.toArray.size ≤ sizeLine
  rw [List.size_toArray, i₂.length, sizeLine_eq]; omega
/-- a list's display, that nothing will turn -/
theorem ev_list {elts : List Expr} {pos : Pos} (h : evs c ρ ω pos elts fun as ω₁ => ∃ ds, as = ds.map Ab.dat ∧ ds.length ≤ 1000 ∧ P (.l ds) ω₁) : ev c ρ ω (.List elts pos) P := by
  intro gx raw s Q S q
  refine List_ (h gx raw s _ S fun vs s₁ gx₁ as ω₁ h₁ k₁ S₁ i₁ => ?_)
  obtain ⟨ds, rfl, hl, p⟩ := h₁
  have i₂ := i₁.dats
  obtain ⟨gx₂, k₂, S₂, e₂⟩ := S₁.push (o := { cls := .type "list", data := .seq vs.toArray }) (tk := s₁.toks) rfl
  refine wpAny_newObj_type (q _ _ gx₂ _ _ p (k₁.trans k₂) S₂ (Is.list e₂ rfl rfl (by simpa using i₂.mono k₂))) ?_
  show vs.toArray.size ≤ sizeLine
  rw [List.size_toArray, i₂.length, sizeLine_eq]; omega
/-- a list's display, the frame's own -/
theorem St.pushOwn {gx : Heap} {raw : List (Addr × Obj)} {s : Shared} {vs : List Value} {ds : List PyData} {n : Nat} {tk : Nat} (S : St c ρ ω gx raw s) (i : IsAll gx vs ds) :
    St c ρ ((s.heap.objs.size, .lst ds) :: ω) gx raw { s with heap := s.heap.push (W.listOf vs.toArray n), toks := tk } := by
  have kk : Keep s.heap (s.heap.push (W.listOf vs.toArray n)) := fun b o e => Heap.get?_push_of_some _ e
  have S' := S.step (tk := tk) kk
  have f := S.offNew
  obtain ⟨sm, ⟨m, F, V, V'⟩, ⟨led, N, O⟩, nd, ap, sub, oL, oO, oR, gr, nw⟩ := S'
  refine ⟨sm, ⟨m, F, V, V'⟩, ⟨(s.heap.objs.size, W.listOf vs.toArray n) :: led, fun p hp => ?_, .cons ⟨vs.toArray, n, rfl, by simpa using i⟩ O⟩, ?_, fun p hp q hq => ?_, sub, oL, fun p hp => ?_, oR, gr, nw⟩
  · rcases List.mem_cons.mp hp with rfl | hp
    · exact ⟨Heap.get?_push_size _ rfl, f.l, f.g⟩
    · exact N p hp
  · refine List.nodup_cons.mpr ⟨fun hm => ?_, nd⟩
    obtain ⟨p, hp, e⟩ := List.mem_map.mp hm
    exact f.o p hp e
  · rcases List.mem_cons.mp hp with rfl | hp
    · exact fun e => f.r q hq e.symm
    · exact ap p hp q hq
  · rcases List.mem_cons.mp hp with rfl | hp
    · exact f.x
    · exact oO p hp
theorem ev_listOwn {elts : List Expr} {pos : Pos} (h : evs c ρ ω pos elts fun as ω₁ => ∃ ds, as = ds.map Ab.dat ∧ ds.length ≤ 1000 ∧ ∀ l, P (.own l) ((l, .lst ds) :: ω₁)) : ev c ρ ω (.List elts pos) P := by
  intro gx raw s Q S q
  refine List_ (h gx raw s _ S fun vs s₁ gx₁ as ω₁ h₁ k₁ S₁ i₁ => ?_)
  obtain ⟨ds, rfl, hl, p⟩ := h₁
  have i₂ := i₁.dats
  refine wpAny_newObj_type (q _ _ gx₁ _ _ (p _) k₁ (S₁.pushOwn (tk := s₁.toks) (n := 0) i₂) rfl) ?_
  show vs.toArray.size ≤ sizeLine
  rw [List.size_toArray, i₂.length, sizeLine_eq]; omega
end

/-! rules of the library that tell the frame and the ledger alone -/
def fzOf (g gx : Heap) : List (Addr × Obj) := (List.range gx.objs.size).filterMap fun b => match g.get? b, gx.get? b with
  | none, some o => some (b, o)
  | _, _ => none
theorem mem_fzOf {g gx : Heap} {b : Addr} {o : Obj} : (b, o) ∈ fzOf g gx ↔ gx.get? b = some o ∧ g.get? b = none := by
  unfold fzOf
  rw [List.mem_filterMap]
  constructor
  · rintro ⟨a, ha, e⟩
    split at e
    · rename_i h1 h2; cases e; exact ⟨h2, h1⟩
    · cases e
  · rintro ⟨h1, h2⟩
    exact ⟨b, List.mem_range.mpr (Heap.lt_size h1), by rw [h1, h2]⟩

section
variable {c : Cx} {ρ : Rho} {ω : Om} {gx : Heap} {raw : List (Addr × Obj)} {s : Shared}
theorem St.frame (S : St c ρ ω gx raw s) : ∃ m led, Fr c.g c.L s.heap m ∧ News c.g c.L s.heap (led ++ (raw ++ fzOf c.g gx)) ∧ (∀ p ∈ led, ∃ q ∈ ω, q.1 = p.1) ∧ (∀ q ∈ ω, ∃ p ∈ led, p.1 = q.1) ∧
    ∀ h' tk, Fr c.g c.L h' m → News c.g c.L h' (led ++ (raw ++ fzOf c.g gx)) → St c ρ ω gx raw { s with heap := h', toks := tk } := by
  obtain ⟨⟨h, tk0, rfl⟩, ⟨m, F, V, V'⟩, ⟨led, N, O⟩, nd, ap, sub, oL, oO, oR, gr, nw⟩ := S
  have nfz : News c.g c.L h (fzOf c.g gx) := fun p hp => by
    obtain ⟨b, o⟩ := p
    obtain ⟨h1, h2⟩ := mem_fzOf.mp hp
    exact ⟨sub _ _ h1, ⟨(fun e => by have e' : b = c.L := e; rw [e', oL] at h1; cases h1), h2⟩⟩
  refine ⟨m, led, F, fun p hp => ?_, fun p hp => ?_, fun q hq => ?_, fun h' tk F' N' => ⟨⟨h', tk, rfl⟩, ⟨m, F', V, V'⟩, ⟨led, fun p hp => N' p ?_, O⟩, nd, ap, fun b o e => ?_, oL, oO, oR, gr, nw⟩⟩
  · rcases List.mem_append.mp hp with hp | hp
    · exact N p (List.mem_append_left _ hp)
    · rcases List.mem_append.mp hp with hp | hp
      · exact N p (List.mem_append_right _ hp)
      · exact nfz p hp
  · have : p.1 ∈ ω.map (·.1) := by rw [← O.keys]; exact List.mem_map_of_mem hp
    obtain ⟨q, hq, e1⟩ := List.mem_map.mp this
    exact ⟨q, hq, e1⟩
  · have : q.1 ∈ led.map (·.1) := by rw [O.keys]; exact List.mem_map_of_mem hq
    obtain ⟨p, hp, e1⟩ := List.mem_map.mp this
    exact ⟨p, hp, e1⟩
  · rcases List.mem_append.mp hp with hp | hp
    · exact List.mem_append_left _ hp
    · exact List.mem_append_right _ (List.mem_append_left _ hp)
  · cases q : c.g.get? b with
    | none => exact (N' (b, o) (List.mem_append_right _ (List.mem_append_right _ (mem_fzOf.mpr ⟨e, q⟩)))).1
    | some o' =>
      have h1 := F'.keep b o' q
      have h2 := F.keep b o' q
      have h3 := sub b o e
      rw [h2] at h3; cases h3
      exact h1
/-- a new list that a rule of the library laid: the frame's own -/
theorem St.ownNew {D : Addr} {vs : Array Value} {ds : List PyData} {n : Nat} (S : St c ρ ω gx raw s) (e : s.heap.get? D = some (W.listOf vs n)) (f : Off c ω gx raw D) (i : IsAll gx vs.toList ds) : St c ρ ((D, .lst ds) :: ω) gx raw s := by
  obtain ⟨sm, ⟨m, F, V, V'⟩, ⟨led, N, O⟩, nd, ap, sub, oL, oO, oR, gr, nw⟩ := S
  refine ⟨sm, ⟨m, F, V, V'⟩, ⟨(D, W.listOf vs n) :: led, fun p hp => ?_, .cons ⟨vs, n, rfl, i⟩ O⟩, ?_, fun p hp q hq => ?_, sub, oL, fun p hp => ?_, oR, gr, nw⟩
  · rcases List.mem_cons.mp hp with rfl | hp
    · exact ⟨e, f.l, f.g⟩
    · exact N p hp
  · refine List.nodup_cons.mpr ⟨fun hm => ?_, nd⟩
    obtain ⟨p, hp, e⟩ := List.mem_map.mp hm
    exact f.o p hp e
  · rcases List.mem_cons.mp hp with rfl | hp
    · exact fun e => f.r q hq e.symm
    · exact ap p hp q hq
  · rcases List.mem_cons.mp hp with rfl | hp
    · exact f.x
    · exact oO p hp
/-- a thing that stands off the frame's own is frozen -/
theorem St.freezeAt {D : Addr} {o : Obj} (S : St c ρ ω gx raw s) (e : s.heap.get? D = some o) (f : Off c ω gx raw D) : ∃ gx', Keep gx gx' ∧ St c ρ ω gx' raw s ∧ gx'.get? D = some o := by
  obtain ⟨gx', k1, k2, e', nw'⟩ := ghost_add S.sub e
  have hne : ∀ b, b ≠ D → gx.get? b = none → gx'.get? b = none := fun b hb hn => by
    cases q : gx'.get? b with
    | none => rfl
    | some o' =>
      rcases nw' b o' q with h | h
      · rw [hn] at h; cases h
      · exact absurd h hb
  obtain ⟨sm, ⟨m, F, V, V'⟩, ⟨led, N, O⟩, nd, ap, sub, oL, oO, oR, gr, nw⟩ := S
  refine ⟨gx', k1, ⟨sm, ⟨m, F, fun x a e1 => ?_, V'.mono k1⟩, ⟨led, N, O.mono k1⟩, nd, ap, k2, hne _ (Ne.symm f.l) oL, fun p hp => hne _ (f.o p hp) (oO p hp), fun q hq => hne _ (f.r q hq) (oR q hq), fun b o e1 => k1 _ _ (gr b o e1), fun b o e1 => ?_⟩, e'⟩
  · obtain ⟨v, h1, h2⟩ := V x a e1
    exact ⟨v, h1, h2.mono k1⟩
  · rcases nw' b o e1 with h | h
    · exact nw b o h
    · exact .inr (h ▸ f.g)
def Rho.froze (ρ : Rho) (l : Addr) (ds : List PyData) : Rho := fun x => match ρ x with
  | some (.own l') => if l' = l then some (.l ds) else some (.own l')
  | a => a
/-- one of the frame's own lists comes off, and is frozen -/
theorem St.freeze {l : Addr} {ds : List PyData} {ω₁ ω₂ : Om} (S : St c ρ (ω₁ ++ (l, .lst ds) :: ω₂) gx raw s) :
    ∃ gx', Keep gx gx' ∧ St c (ρ.froze l ds) (ω₁ ++ ω₂) gx' raw s ∧ Is gx' (.ref l) (.list ds) := by
  obtain ⟨sm, ⟨m, F, V, V'⟩, ⟨led, N, O⟩, nd, ap, sub, oL, oO, oR, gr, nw⟩ := S
  obtain ⟨led₁, o, led₂, rfl, O₁, ⟨vs, n, rfl, i⟩, O₂⟩ := O.split
  have zl := N (l, W.listOf vs n) (by simp)
  obtain ⟨gx', k1, k2, e', nw'⟩ := ghost_add sub zl.1
  have hne : ∀ b, b ≠ l → gx.get? b = none → gx'.get? b = none := fun b hb hn => by
    cases q : gx'.get? b with
    | none => rfl
    | some o' =>
      rcases nw' b o' q with h | h
      · rw [hn] at h; cases h
      · exact absurd h hb
  have il : Is gx' (.ref l) (.list ds) := Is.list e' rfl rfl (i.mono k1)
  simp only [List.map_append, List.map_cons] at nd
  have hnl : ∀ p ∈ ω₁ ++ ω₂, p.1 ≠ l := fun p hp e => by
    have hn := List.nodup_append.mp nd
    rcases List.mem_append.mp hp with hp | hp
    · exact hn.2.2 p.1 (List.mem_map_of_mem hp) l (by simp) e
    · have := List.nodup_cons.mp hn.2.1
      exact this.1 (e ▸ List.mem_map_of_mem hp)
  refine ⟨gx', k1, ⟨sm, ⟨m, F, fun x a e1 => ?_, V'.mono k1⟩, ⟨led₁ ++ led₂, fun p hp => N p ?_, (O₁.append O₂).mono k1⟩, ?_, fun p hp q hq => ap p ?_ q hq, k2, hne _ (Ne.symm zl.2.1) oL, fun p hp => hne _ (hnl p hp) (oO p ?_), fun q hq => hne _ (fun e => ap (l, .lst ds) (by simp) q hq e.symm) (oR q hq), fun b o e1 => k1 _ _ (gr b o e1), fun b o e1 => ?_⟩, il⟩
  · unfold Rho.froze at e1
    cases q : ρ x with
    | none => rw [q] at e1; cases e1
    | some b =>
      obtain ⟨v, h1, h2⟩ := V x b q
      rw [q] at e1
      cases b with
      | dat d => cases e1; exact ⟨v, h1, h2.mono k1⟩
      | own l' =>
        dsimp only at e1
        split at e1
        · rename_i hl
          cases e1
          subst hl
          have h2' : v = .ref l' := h2
          exact ⟨v, h1, h2' ▸ il⟩
        · cases e1; exact ⟨v, h1, h2⟩
  · simp only [List.mem_append, List.mem_cons] at hp ⊢
    rcases hp with (hp | hp) | hp
    · exact .inl (.inl hp)
    · exact .inl (.inr (.inr hp))
    · exact .inr hp
  · have hn := List.nodup_append.mp nd
    rw [List.map_append]
    exact List.nodup_append.mpr ⟨hn.1, (List.nodup_cons.mp hn.2.1).2, fun a ha b hb => hn.2.2 a ha b (List.mem_cons_of_mem _ hb)⟩
  · simp only [List.mem_append, List.mem_cons] at hp ⊢
    rcases hp with hp | hp
    · exact .inl hp
    · exact .inr (.inr hp)
  · simp only [List.mem_append, List.mem_cons] at hp ⊢
    rcases hp with hp | hp
    · exact .inl hp
    · exact .inr (.inr hp)
  · rcases nw' b o e1 with h | h
    · exact nw b o h
    · exact .inr (h ▸ zl.2.2)
/-- one of the frame's own things is forgotten -/
theorem St.dropOwn {q : Addr × Oc} {ω₁ ω₂ : Om} (S : St c ρ (ω₁ ++ q :: ω₂) gx raw s) : St c ρ (ω₁ ++ ω₂) gx raw s := by
  obtain ⟨l, oc⟩ := q
  obtain ⟨sm, ⟨m, F, V, V'⟩, ⟨led, N, O⟩, nd, ap, sub, oL, oO, oR, gr, nw⟩ := S
  obtain ⟨led₁, o, led₂, rfl, O₁, i, O₂⟩ := O.split
  have up : ∀ p ∈ ω₁ ++ ω₂, p ∈ ω₁ ++ (l, oc) :: ω₂ := fun p hp => by
    simp only [List.mem_append, List.mem_cons] at hp ⊢
    rcases hp with hp | hp
    · exact .inl hp
    · exact .inr (.inr hp)
  refine ⟨sm, ⟨m, F, V, V'⟩, ⟨led₁ ++ led₂, fun p hp => N p ?_, O₁.append O₂⟩, ?_, fun p hp => ap p (up p hp), sub, oL, fun p hp => oO p (up p hp), oR, gr, nw⟩
  · simp only [List.mem_append, List.mem_cons] at hp ⊢
    rcases hp with (hp | hp) | hp
    · exact .inl (.inl hp)
    · exact .inl (.inr (.inr hp))
    · exact .inr hp
  · simp only [List.map_append, List.map_cons] at nd ⊢
    have hn := List.nodup_append.mp nd
    exact List.nodup_append.mpr ⟨hn.1, (List.nodup_cons.mp hn.2.1).2, fun a ha b hb => hn.2.2 a ha b (List.mem_cons_of_mem _ hb)⟩
/-- one of the frame's own lists is turned -/
theorem St.turn {l : Addr} {ds ds' : List PyData} {ω₁ ω₂ : Om} {h' : Heap} {tk : Nat} {vs' : Array Value} {n' : Nat} (S : St c ρ (ω₁ ++ (l, .lst ds) :: ω₂) gx raw s) (hs : Heap.SameBut l s.heap h')
    (e : h'.get? l = some (W.listOf vs' n')) (i : IsAll gx vs'.toList ds') : St c ρ (ω₁ ++ (l, .lst ds') :: ω₂) gx raw { s with heap := h', toks := tk } := by
  obtain ⟨⟨h, tk0, rfl⟩, ⟨m, F, V, V'⟩, ⟨led, N, O⟩, nd, ap, sub, oL, oO, oR, gr, nw⟩ := S
  obtain ⟨led₁, o, led₂, rfl, O₁, _, O₂⟩ := O.split
  have zl := N (l, o) (by simp)
  simp only [List.map_append, List.map_cons] at nd
  have hn := List.nodup_append.mp nd
  have n1 : ∀ p ∈ led₁, p.1 ≠ l := fun p hp e => by
    have : p.1 ∈ ω₁.map (·.1) := by rw [← O₁.keys]; exact List.mem_map_of_mem hp
    exact hn.2.2 p.1 this l (by simp) e
  have n2 : ∀ p ∈ led₂, p.1 ≠ l := fun p hp e => by
    have : p.1 ∈ ω₂.map (·.1) := by rw [← O₂.keys]; exact List.mem_map_of_mem hp
    exact (List.nodup_cons.mp hn.2.1).1 (e ▸ this)
  have n3 : ∀ p ∈ raw, p.1 ≠ l := fun p hp e => ap (l, .lst ds) (by simp) p hp e.symm
  refine ⟨⟨h', tk, rfl⟩, ⟨m, F.change hs zl.2.1 zl.2.2, V, V'⟩, ⟨led₁ ++ (l, W.listOf vs' n') :: led₂, fun p hp => ?_, O₁.append (.cons ⟨vs', n', rfl, i⟩ O₂)⟩, ?_, fun p hp q hq => ?_, fun b o' e1 => hs.extBut b o' (fun q => ?_) (sub b o' e1), oL, fun p hp => ?_, oR, gr, nw⟩
  · have old : ∀ p ∈ led₁ ++ (l, o) :: led₂ ++ raw, p.1 ≠ l → h'.get? p.1 = some p.2 ∧ p.1 ≠ c.L ∧ c.g.get? p.1 = none := fun p hp hne => by
      have z := N p hp
      exact ⟨hs.extBut _ _ hne z.1, z.2⟩
    simp only [List.mem_append, List.mem_cons] at hp
    rcases hp with (hp | rfl | hp) | hp
    · exact old p (by simp [hp]) (n1 p hp)
    · exact ⟨e, zl.2⟩
    · exact old p (by simp [hp]) (n2 p hp)
    · exact old p (by simp [hp]) (n3 p hp)
  · simpa [List.map_append] using nd
  · simp only [List.mem_append, List.mem_cons] at hp
    rcases hp with hp | rfl | hp
    · exact ap p (by simp [hp]) q hq
    · exact ap (l, .lst ds) (by simp) q hq
    · exact ap p (by simp [hp]) q hq
  · have q' : b = l := q
    rw [q', oO (l, .lst ds) (by simp)] at e1; cases e1
  · simp only [List.mem_append, List.mem_cons] at hp
    rcases hp with hp | rfl | hp
    · exact oO p (by simp [hp])
    · exact oO (l, .lst ds) (by simp)
    · exact oO p (by simp [hp])
theorem St.ownGet {l : Addr} {ds : List PyData} {ω₁ ω₂ : Om} (S : St c ρ (ω₁ ++ (l, .lst ds) :: ω₂) gx raw s) : ∃ vs n, s.heap.get? l = some (W.listOf vs n) ∧ IsAll gx vs.toList ds := by
  obtain ⟨led, N, O⟩ := S.nw
  obtain ⟨led₁, o, led₂, rfl, O₁, ⟨vs, n, rfl, i⟩, O₂⟩ := O.split
  exact ⟨vs, n, (N (l, W.listOf vs n) (by simp)).1, i⟩
end

theorem AbAll.one {x : Heap} {vs : List Value} {a : Ab} (h : AbAll x vs [a]) : ∃ v, vs = [v] ∧ AbIs x v a := by
  cases h with
  | cons h k => cases k; exact ⟨_, rfl, h⟩
theorem AbAll.two {x : Heap} {vs : List Value} {a b : Ab} (h : AbAll x vs [a, b]) : ∃ u v, vs = [u, v] ∧ AbIs x u a ∧ AbIs x v b := by
  cases h with
  | cons h k =>
    obtain ⟨v, rfl, i⟩ := k.one
    exact ⟨_, _, rfl, h, i⟩
theorem AbAll.three {x : Heap} {vs : List Value} {a b d : Ab} (h : AbAll x vs [a, b, d]) : ∃ u v w, vs = [u, v, w] ∧ AbIs x u a ∧ AbIs x v b ∧ AbIs x w d := by
  cases h with
  | cons h k =>
    obtain ⟨v, w, rfl, i, j⟩ := k.two
    exact ⟨_, _, _, rfl, h, i, j⟩

/-! sizes -/
def Sz (k : Nat) (a : Int) : Prop := a.natAbs < 2 ^ k
theorem Sz.bits {k : Nat} {a : Int} (h : Sz k a) : Builtin.Int.intBits a ≤ k := by
  unfold Builtin.Int.intBits
  split
  · exact Nat.zero_le _
  · rename_i h0
    have hp : a.natAbs ≠ 0 := by
      intro e; apply h0; have : a = 0 := Int.natAbs_eq_zero.mp e
      subst this; rfl
    have : a.natAbs.log2 < k := (Nat.log2_lt hp).mpr h
    omega
theorem mulOk {j k : Nat} {a b : Int} (h : Sz j a) (g : Sz k b) (hl : j + k ≤ 100000000) : IntMulOk a b := by
  unfold IntMulOk
  intro q
  simp only [Bool.and_eq_true] at q
  have q2 := q.2
  unfold Builtin.Int.intTooBig at q2
  have h1 := h.bits
  have h2 := g.bits
  simp only [gt_iff_lt, decide_eq_true_eq, bitsLine_eq] at q2
  omega

section
variable {c : Cx} {ρ : Rho} {ω : Om} {P : Ab → Om → Prop}
theorem bin_add {m n : Int} (h : P (.i (m + n)) ω) : binT c ρ ω (binaryOp .Add) (.i m) (.i n) P := by
  intro gx raw s Q u v S i j q
  obtain ⟨t, rfl⟩ := Is.intE i; obtain ⟨t', rfl⟩ := Is.intE j
  exact PyProof.Rows.add_int (q _ _ gx _ ω h (Keep.refl _) (S.toks _) (Is.int _ _))
theorem bin_sub {m n : Int} (h : P (.i (m - n)) ω) : binT c ρ ω (binaryOp .Sub) (.i m) (.i n) P := by
  intro gx raw s Q u v S i j q
  obtain ⟨t, rfl⟩ := Is.intE i; obtain ⟨t', rfl⟩ := Is.intE j
  exact PyProof.Rows.sub_int (q _ _ gx _ ω h (Keep.refl _) (S.toks _) (Is.int _ _))
theorem bin_mul {m n : Int} (hm : IntMulOk m n) (h : P (.i (m * n)) ω) : binT c ρ ω (binaryOp .Mult) (.i m) (.i n) P := by
  intro gx raw s Q u v S i j q
  obtain ⟨t, rfl⟩ := Is.intE i; obtain ⟨t', rfl⟩ := Is.intE j
  exact PyProof.Rows.mul_int (q _ _ gx _ ω h (Keep.refl _) (S.toks _) (Is.int _ _)) hm
theorem bin_mod {m n : Int} (hn : n ≠ 0) (h : P (.i (m.fmod n)) ω) : binT c ρ ω (binaryOp .Mod) (.i m) (.i n) P := by
  intro gx raw s Q u v S i j q
  obtain ⟨t, rfl⟩ := Is.intE i; obtain ⟨t', rfl⟩ := Is.intE j
  exact PyProof.Rows.mod_int hn (q _ _ gx _ ω h (Keep.refl _) (S.toks _) (Is.int _ _))
theorem bin_fdiv {m n : Int} {k : Nat} (hn : n ≠ 0) (hz : Sz k n) (hk : k ≤ 9000) (h : P (.i (m.fdiv n)) ω) : binT c ρ ω (binaryOp .FloorDiv) (.i m) (.i n) P := by
  intro gx raw s Q u v S i j q
  obtain ⟨t, rfl⟩ := Is.intE i; obtain ⟨t', rfl⟩ := Is.intE j
  refine PyProof.Rows.floordiv_int hn (q _ _ gx _ ω h (Keep.refl _) (S.toks _) (Is.int _ _)) (.inl (PyProof.noPylong_of_log2 ?_))
  have : n.natAbs ≠ 0 := by omega
  exact Nat.lt_of_lt_of_le ((Nat.log2_lt this).mpr hz) hk
theorem bin_pow {m n : Int} (hn : 0 ≤ n) (hsz : (Builtin.Int.intBits m : Int) * n ≤ 2 ^ 27) (h : P (.i (m ^ n.toNat)) ω) : binT c ρ ω (binaryOp .Pow) (.i m) (.i n) P := by
  intro gx raw s Q u v S i j q
  obtain ⟨t, rfl⟩ := Is.intE i; obtain ⟨t', rfl⟩ := Is.intE j
  exact PyProof.Rows.pow_int hn hsz (q _ _ gx _ ω h (Keep.refl _) (S.toks _) (Is.int _ _))
theorem bin_subb {m n : Bool} (h : P (.i (b2i m - b2i n)) ω) : binT c ρ ω (binaryOp .Sub) (.b m) (.b n) P := by
  intro gx raw s Q u v S i j q
  obtain rfl := Is.boolE i; obtain rfl := Is.boolE j
  exact PyProof.Rows.sub_bool (q _ _ gx _ ω h (Keep.refl _) (S.toks _) (Is.int _ _))
theorem bin_lt {m n : Int} (h : P (.b (decide (m < n))) ω) : binT c ρ ω (compareOp .Lt) (.i m) (.i n) P := by
  intro gx raw s Q u v S i j q
  obtain ⟨t, rfl⟩ := Is.intE i; obtain ⟨t', rfl⟩ := Is.intE j
  exact PyProof.Rows.lt_int (q _ _ gx _ ω h (Keep.refl _) S (Is.bool _))
theorem bin_gt {m n : Int} (h : P (.b (decide (n < m))) ω) : binT c ρ ω (compareOp .Gt) (.i m) (.i n) P := by
  intro gx raw s Q u v S i j q
  obtain ⟨t, rfl⟩ := Is.intE i; obtain ⟨t', rfl⟩ := Is.intE j
  exact PyProof.Rows.gt_int (q _ _ gx _ ω h (Keep.refl _) S (Is.bool _))
theorem bin_ge {m n : Int} (h : P (.b (decide (n ≤ m))) ω) : binT c ρ ω (compareOp .GtE) (.i m) (.i n) P := by
  intro gx raw s Q u v S i j q
  obtain ⟨t, rfl⟩ := Is.intE i; obtain ⟨t', rfl⟩ := Is.intE j
  exact PyProof.Rows.ge_int (q _ _ gx _ ω h (Keep.refl _) S (Is.bool _))
theorem bin_eq {m n : Int} (h : P (.b (m == n)) ω) : binT c ρ ω (compareOp .Eq) (.i m) (.i n) P := by
  intro gx raw s Q u v S i j q
  obtain ⟨t, rfl⟩ := Is.intE i; obtain ⟨t', rfl⟩ := Is.intE j
  exact PyProof.Rows.eq_int (q _ _ gx _ ω h (Keep.refl _) S (Is.bool _))
theorem bin_ne {m n : Int} (h : P (.b (m != n)) ω) : binT c ρ ω (compareOp .NotEq) (.i m) (.i n) P := by
  intro gx raw s Q u v S i j q
  obtain ⟨t, rfl⟩ := Is.intE i; obtain ⟨t', rfl⟩ := Is.intE j
  exact PyProof.Rows.ne_int (q _ _ gx _ ω h (Keep.refl _) S (Is.bool _))
theorem bin_eqD {d e : PyData} (hd : SeqAt.shaped d = true) (he : SeqAt.shaped e = true) (h : P (.b (PyData.eqv d e)) ω) : binT c ρ ω (compareOp .Eq) (.dat d) (.dat e) P := by
  intro gx raw s Q u v S i j q
  obtain ⟨as, r⟩ := i.mono S.sub
  obtain ⟨bs, r'⟩ := j.mono S.sub
  exact eq_dataH r r' hd he (by have := c.units; omega) (q _ _ gx _ ω h (Keep.refl _) S (Is.bool _))
theorem bin_neD {d e : PyData} (hd : SeqAt.shaped d = true) (he : SeqAt.shaped e = true) (h : P (.b (!PyData.eqv d e)) ω) : binT c ρ ω (compareOp .NotEq) (.dat d) (.dat e) P := by
  intro gx raw s Q u v S i j q
  obtain ⟨as, r⟩ := i.mono S.sub
  obtain ⟨bs, r'⟩ := j.mono S.sub
  exact ne_dataH r r' hd he (by have := c.units; omega) (q _ _ gx _ ω h (Keep.refl _) S (Is.bool _))
theorem ev_neg {n : Int} {k : Nat} {p pos : Pos} (h : P (.i (-n)) ω) : ev c ρ ω (.UnaryOp .USub (.Constant (.int n) k p) pos) P := by
  intro gx raw s Q S q
  refine UnaryOp_ (wpAny_Constant_int ?_)
  exact PyProof.Rows.neg_int (q _ _ gx _ ω h (Keep.refl _) ((S.toks _).toks _) (Is.int _ _))

/-! items -/
def itemAt (a : Ab) (n : Int) (ω : Om) (P : Ab → Om → Prop) : Prop :=
  ∃ ds d, (a = .t ds ∨ a = .l ds ∨ ∃ l ω₁ ω₂, a = .own l ∧ ω = ω₁ ++ (l, .lst ds) :: ω₂) ∧ 0 ≤ n ∧ n < 2 ^ 62 ∧ ds[n.toNat]? = some d ∧ P (.dat d) ω
theorem itemAt.tup {ds : List PyData} {d : PyData} {n : Int} (h0 : 0 ≤ n) (h1 : n < 2 ^ 62) (hd : ds[n.toNat]? = some d) (h : P (.dat d) ω) : itemAt (.t ds) n ω P := ⟨ds, d, .inl rfl, h0, h1, hd, h⟩
theorem itemAt.lst {ds : List PyData} {d : PyData} {n : Int} (h0 : 0 ≤ n) (h1 : n < 2 ^ 62) (hd : ds[n.toNat]? = some d) (h : P (.dat d) ω) : itemAt (.l ds) n ω P := ⟨ds, d, .inr (.inl rfl), h0, h1, hd, h⟩
theorem itemAt.own {l : Addr} {ω₁ ω₂ : Om} {ds : List PyData} {d : PyData} {n : Int} (h0 : 0 ≤ n) (h1 : n < 2 ^ 62) (hd : ds[n.toNat]? = some d) (h : P (.dat d) (ω₁ ++ (l, .lst ds) :: ω₂)) : itemAt (.own l) n (ω₁ ++ (l, .lst ds) :: ω₂) P :=
  ⟨ds, d, .inr (.inr ⟨l, ω₁, ω₂, rfl, rfl⟩), h0, h1, hd, h⟩
theorem ev_sub {value slice : Expr} {pos : Pos} (h : ev c ρ ω value fun a ω₁ => ev c ρ ω₁ slice fun b ω₂ => ∃ n, b = .i n ∧ itemAt a n ω₂ P)
    (hs : ∀ a k u, subscripted slice false (.ref a) (.int k u) = operate [.ref a, .int k u] (getItem (.ref a) (.int k u)) := by intro _ _ _; with_unfolding_all rfl) : ev c ρ ω (.Subscript value slice pos) P := by
  intro gx raw s Q S q
  refine Subscript_ (h gx raw s _ S fun u s₁ gx₁ a ω₁ h₁ k₁ S₁ i₁ => ?_)
  refine h₁ gx₁ raw s₁ _ S₁ fun v s₂ gx₂ b ω₂ h₂ k₂ S₂ i₂ => ?_
  obtain ⟨n, rfl, ds, d, ha, h0, hlt, hd, p⟩ := h₂
  obtain ⟨t, rfl⟩ := Is.intE i₂
  have i₁ := i₁.mono k₂
  have kk := k₁.trans k₂
  rcases ha with rfl | rfl | ⟨l, w1, w2, rfl, rfl⟩
  · obtain ⟨r, o, vs, z, rfl, e1, e2, e3, e4⟩ := Is.tupleE i₁
    obtain ⟨x, hx, ix⟩ := e4.get hd
    have hlen : n.toNat < ds.length := (List.getElem?_eq_some_iff.mp hd).1
    refine item_tupleT (l := vs.toList) (j := n.toNat) ⟨o, S₂.sub _ _ e1, e2, z, by simpa using e3⟩ (by omega) (by omega) ?_ hx (q _ _ _ _ _ p kk S₂ ix) (hs _ _ _)
    unfold seqIndex?
    have hl := e4.length
    have hneg : ¬ n < 0 := by omega
    simp only [hneg, if_false]
    have : (decide (0 ≤ n) && decide (n < (vs.toList.length : Int))) = true := by
      rw [Bool.and_eq_true]; exact ⟨decide_eq_true h0, decide_eq_true (by omega)⟩
    rw [this]; rfl
  · obtain ⟨r, o, vs, z, rfl, e1, e2, e3, e4⟩ := Is.listE i₁
    obtain ⟨x, hx, ix⟩ := e4.get hd
    have hl : s₂.heap.IsList r vs := ⟨o, S₂.sub _ _ e1, e2, z, e3⟩
    exact tail_any hl.typeIs slot_list_getitem.lookup (wpAny_getItem_list hl h0 (by omega) (by simpa using hx) (q _ _ _ _ _ p kk S₂ ix)) (hs _ _ _)
  · obtain rfl : u = .ref l := i₁
    obtain ⟨vs, z, e, i⟩ := S₂.ownGet
    obtain ⟨x, hx, ix⟩ := i.get hd
    have hl : s₂.heap.IsList l vs := ⟨_, e, rfl, z, rfl⟩
    exact tail_any hl.typeIs slot_list_getitem.lookup (wpAny_getItem_list hl h0 (by omega) (by simpa using hx) (q _ _ _ _ _ p kk S₂ ix)) (hs _ _ _)

/-! calls -/
def callT (c : Cx) (ρ : Rho) (ω : Om) (f : Value) (as : List Ab) (P : Ab → Om → Prop) : Prop :=
  ∀ gx raw s (Q : Value → Shared → Prop) vs, St c ρ ω gx raw s → AbAll gx vs as →
    (∀ v s' gx' a ω', P a ω' → Keep gx gx' → St c ρ ω' gx' raw s' → AbIs gx' v a → Q v s') → wpAny (model PP c.w) c.A (call f vs) Q (fun _ _ => False) s
theorem callT.mono {f : Value} {as : List Ab} {P' : Ab → Om → Prop} (h : callT c ρ ω f as P) (k : ∀ a ω', P a ω' → P' a ω') : callT c ρ ω f as P' :=
  fun gx raw s Q vs S i q => h gx raw s Q vs S i fun v s' gx' a ω' p => q v s' gx' a ω' (k a ω' p)

theorem St.kin {gx : Heap} {raw : List (Addr × Obj)} {s : Shared} (S : St c ρ ω gx raw s) : KIn s.heap := by
  obtain ⟨m, F, _⟩ := S.fr
  exact c.kin.keeps F.keep
/-- a global name -/
theorem glob_val {x : Str} {p : Pos} {v : Value} {gx : Heap} {raw : List (Addr × Obj)} {s : Shared} {Q : Value → Shared → Prop} {E : Value → Shared → Prop} (S : St c ρ ω gx raw s)
    (hk : c.env.kindOf x = some .globalImplicit) (hn : gTab.lookup x = some (some v)) (h : Q v s) (hd : (x == ("__debug__" : Str)) = false := by decide) : wpAny (model PP c.w) c.A (eval (.Name x p) c.env) Q E s := by
  obtain ⟨m, F, _⟩ := S.fr
  exact Name_function_global c.ek hk (loadGlobal_global (by rw [c.eg]; exact c.top.g.keeps F.keep) (c.kin.glob c.top.g hn) h) hd
theorem built_val {x : Str} {p : Pos} {v : Value} {gx : Heap} {raw : List (Addr × Obj)} {s : Shared} {Q : Value → Shared → Prop} {E : Value → Shared → Prop} (S : St c ρ ω gx raw s)
    (hk : c.env.kindOf x = some .globalImplicit) (hn : gTab.lookup x = some none) (hb : bootBuiltins x = some v) (h : Q v s) (hx : x ≠ "__name__" := by decide) (hd : (x == ("__debug__" : Str)) = false := by decide) :
    wpAny (model PP c.w) c.A (eval (.Name x p) c.env) Q E s := by
  obtain ⟨m, F, _⟩ := S.fr
  refine Name_function_global c.ek hk (loadGlobal_builtin (by rw [c.eg]; exact c.top.g.keeps F.keep) (c.kin.built c.top.g hn) (by rw [c.eb]; exact c.top.b.keeps F.keep) ?_ h) hd
  exact (c.top.builtins x hx).trans hb
theorem ev_R0 {p : Pos} (hk : c.env.kindOf (Str.ofString "R0") = some .globalImplicit) (h : P (.t [.int 0, .int 1]) ω) : ev c ρ ω (.Name (Str.ofString "R0") p) P := by
  intro gx raw s Q S q
  exact glob_val S hk (v := .ref 49) (by rfl) (q _ _ gx _ ω h (Keep.refl _) S (c.r0.mono S.grow))
theorem ev_R1 {p : Pos} (hk : c.env.kindOf (Str.ofString "R1") = some .globalImplicit) (h : P (.t [.int 1, .int 1]) ω) : ev c ρ ω (.Name (Str.ofString "R1") p) P := by
  intro gx raw s Q S q
  exact glob_val S hk (v := .ref 50) (by rfl) (q _ _ gx _ ω h (Keep.refl _) S (c.r1.mono S.grow))
theorem ev_call {f : Str} {p pos : Pos} {e : Expr} {es : List Expr} {fa : Addr} (hk : c.env.kindOf f = some .globalImplicit) (hn : gTab.lookup f = some (some (.ref fa))) (hkeep : keepIn FK (.ref fa) = true)
    (h : evs c ρ ω pos (e :: es) fun as ω₁ => callT c ρ ω₁ (.ref fa) as P)
    (hc : eval (.Call (.Name f p) (e :: es) [] pos) c.env = (do let g ← eval (.Name f p) c.env; callWith pos g [] (backTo pos (starEach (e :: es) c.env)) (backToKw pos (keywordEach [] c.env))) := by first | rfl | (rename Cx.env _ = _ => heX; rw [heX]; rfl))
    (he : starEach (e :: es) c.env = (false, eval e c.env) :: starEach es c.env := by first | rfl | (rename Cx.env _ = _ => heX; rw [heX]; rfl)) (hp : (backTo pos (starEach es c.env)).any (·.1) = false := by first | rfl | (rename Cx.env _ = _ => heX; rw [heX]; rfl)) (hd : (f == ("__debug__" : Str)) = false := by decide) :
    ev c ρ ω (.Call (.Name f p) (e :: es) [] pos) P := by
  intro gx raw s Q S q
  refine Call_ (glob_val S hk hn ?_ hd) hc
  refine callWith_K c.kin.fk hkeep (h gx raw s _ S fun vs s₁ gx₁ as ω₁ h₁ k₁ S₁ i₁ => ⟨S₁.kin.fk, ?_⟩) he hp
  exact h₁ gx₁ raw s₁ _ vs S₁ i₁ fun v s' gx' a ω' p k => q v s' gx' a ω' p (k₁.trans k)
theorem ev_builtin {f : Str} {p pos : Pos} {e : Expr} {es : List Expr} {id : String} (hk : c.env.kindOf f = some .globalImplicit) (hn : gTab.lookup f = some none) (hb : bootBuiltins f = some (.builtin id))
    (h : evs c ρ ω pos (e :: es) fun as ω₁ => callT c ρ ω₁ (.builtin id) as P)
    (hc : eval (.Call (.Name f p) (e :: es) [] pos) c.env = (do let g ← eval (.Name f p) c.env; callWith pos g [] (backTo pos (starEach (e :: es) c.env)) (backToKw pos (keywordEach [] c.env))) := by first | rfl | (rename Cx.env _ = _ => heX; rw [heX]; rfl))
    (he : starEach (e :: es) c.env = (false, eval e c.env) :: starEach es c.env := by first | rfl | (rename Cx.env _ = _ => heX; rw [heX]; rfl)) (hp : (backTo pos (starEach es c.env)).any (·.1) = false := by first | rfl | (rename Cx.env _ = _ => heX; rw [heX]; rfl)) (hx : f ≠ "__name__" := by decide) (hd : (f == ("__debug__" : Str)) = false := by decide) :
    ev c ρ ω (.Call (.Name f p) (e :: es) [] pos) P := by
  intro gx raw s Q S q
  refine Call_ (built_val S hk hn hb ?_ hx hd) hc
  refine callWith_method1 (first := []) (h gx raw s _ S fun vs s₁ gx₁ as ω₁ h₁ k₁ S₁ i₁ => ?_) he hp
  exact h₁ gx₁ raw s₁ _ vs S₁ i₁ fun v s' gx' a ω' p k => q v s' gx' a ω' p (k₁.trans k)
theorem ev_type {f : Str} {p pos : Pos} {e : Expr} {es : List Expr} {T : String} (hk : c.env.kindOf f = some .globalImplicit) (hn : gTab.lookup f = some none) (hb : bootBuiltins f = some (.type T))
    (h : evs c ρ ω pos (e :: es) fun as ω₁ => callT c ρ ω₁ (.type T) as P)
    (hc : eval (.Call (.Name f p) (e :: es) [] pos) c.env = (do let g ← eval (.Name f p) c.env; callWith pos g [] (backTo pos (starEach (e :: es) c.env)) (backToKw pos (keywordEach [] c.env))) := by first | rfl | (rename Cx.env _ = _ => heX; rw [heX]; rfl))
    (he : starEach (e :: es) c.env = (false, eval e c.env) :: starEach es c.env := by first | rfl | (rename Cx.env _ = _ => heX; rw [heX]; rfl)) (hp : (backTo pos (starEach es c.env)).any (·.1) = false := by first | rfl | (rename Cx.env _ = _ => heX; rw [heX]; rfl)) (hx : f ≠ "__name__" := by decide) (hd : (f == ("__debug__" : Str)) = false := by decide) :
    ev c ρ ω (.Call (.Name f p) (e :: es) [] pos) P := by
  intro gx raw s Q S q
  refine Call_ (built_val S hk hn hb ?_ hx hd) hc
  refine PyProof.Rows.callWith_type1 (h gx raw s _ S fun vs s₁ gx₁ as ω₁ h₁ k₁ S₁ i₁ => ?_) he hp
  exact h₁ gx₁ raw s₁ _ vs S₁ i₁ fun v s' gx' a ω' p k => q v s' gx' a ω' p (k₁.trans k)
theorem call_len {ds : List PyData} (hl : ds.length ≤ 100000) (h : P (.i ds.length) ω) : callT c ρ ω (.builtin "len") [.l ds] P := by
  intro gx raw s Q vs S ia q
  obtain ⟨u, rfl, i⟩ := ia.one
  obtain ⟨r, o, vs, z, rfl, e1, e2, e3, e4⟩ := Is.listE i
  have hl' : s.heap.IsList r vs := ⟨o, S.sub _ _ e1, e2, z, e3⟩
  have hz : vs.size = ds.length := by have := e4.length; simpa using this
  refine PyProof.Rows.len_list hl' (by rw [hz]; omega) (q _ _ gx _ ω h (Keep.refl _) (S.toks _) ?_)
  rw [hz]; exact Is.int _ _
theorem call_abs {n : Int} (h : P (.i (if n < 0 then -n else n)) ω) : callT c ρ ω (.builtin "abs") [.i n] P := by
  intro gx raw s Q vs S ia q
  obtain ⟨u, rfl, i⟩ := ia.one
  obtain ⟨t, rfl⟩ := Is.intE i
  exact call_abs_int fun u tk => q _ _ gx _ ω h (Keep.refl _) (S.toks _) (Is.int _ _)
theorem call_max {m n : Int} (h : P (.i (if n > m then n else m)) ω) : callT c ρ ω (.builtin "max") [.i m, .i n] P := by
  intro gx raw s Q vs S ia q
  obtain ⟨u, v, rfl, i, j⟩ := ia.two
  obtain ⟨t, rfl⟩ := Is.intE i; obtain ⟨t', rfl⟩ := Is.intE j
  obtain ⟨m', led, F, N, _, _, back⟩ := S.frame
  exact max_two_N c.hh F N fun h' tk F' N' => q _ _ gx _ ω h (Keep.refl _) (back h' tk F' N') (Is.int _ _)
theorem call_min {m n : Int} (h : P (.i (if n < m then n else m)) ω) : callT c ρ ω (.builtin "min") [.i m, .i n] P := by
  intro gx raw s Q vs S ia q
  obtain ⟨u, v, rfl, i, j⟩ := ia.two
  obtain ⟨t, rfl⟩ := Is.intE i; obtain ⟨t', rfl⟩ := Is.intE j
  obtain ⟨m', led, F, N, _, _, back⟩ := S.frame
  exact min_two_N c.hh F N fun h' tk F' N' => q _ _ gx _ ω h (Keep.refl _) (back h' tk F' N') (Is.int _ _)
theorem call_int {n : Int} (h : P (.i n) ω) : callT c ρ ω (.type "int") [.i n] P := by
  intro gx raw s Q vs S ia q
  obtain ⟨u, rfl, i⟩ := ia.one
  obtain ⟨t, rfl⟩ := Is.intE i
  exact call_int_int (q _ _ gx _ ω h (Keep.refl _) S (Is.int _ _))
theorem Off.of {gx : Heap} {raw : List (Addr × Obj)} {s : Shared} {D : Addr} {led : List (Addr × Obj)} (S : St c ρ ω gx raw s) (ha : ∀ q ∈ ω, ∃ p ∈ led, p.1 = q.1) (hl : D ≠ c.L) (hg : c.g.get? D = none) (hlt : ∀ p ∈ led ++ (raw ++ fzOf c.g gx), p.1 ≠ D) : Off c ω gx raw D := by
  refine ⟨hl, hg, fun p hp => ?_, fun p hp => hlt p (by simp [hp]), ?_⟩
  · obtain ⟨q, hq, e⟩ := ha p hp
    exact e ▸ hlt q (by simp [hq])
  · cases q : gx.get? D with
    | none => rfl
    | some o => exact absurd rfl (hlt (D, o) (by simp [mem_fzOf.mpr ⟨q, hg⟩]))
/-- list(xs), frozen -/
theorem call_list {ds : List PyData} (hl : ds.length ≤ 100000) (h : P (.l ds) ω) : callT c ρ ω (.type "list") [.l ds] P := by
  intro gx raw s Q vs S ia q
  obtain ⟨u, rfl, i⟩ := ia.one
  obtain ⟨r, o, vs, z, rfl, e1, e2, e3, e4⟩ := Is.listE i
  have hl' : s.heap.IsList r vs := ⟨o, S.sub _ _ e1, e2, z, e3⟩
  have hz : vs.size = ds.length := by have := e4.length; simpa using this
  obtain ⟨m', led, F, N, _, ha, back⟩ := S.frame
  refine list_copyK F N hl' (fun D k h' F' N' hlt => ?_) (by rw [hz, sizeLine_eq]; omega)
  have S' := back h' s.toks F' fun p hp => N' p (.tail _ hp)
  have zD := N' (D, W.listOf vs k) (.head _)
  have f : Off c ω gx raw D := Off.of S' ha zD.2.1 zD.2.2 fun p hp => Nat.ne_of_lt (hlt p hp)
  obtain ⟨gx', k1, S2, e⟩ := S'.freezeAt zD.1 f
  exact q _ _ gx' _ ω h k1 S2 (Is.list e rfl rfl (e4.mono k1))
end

inductive Out where
  | next (ρ : Rho) (ω : Om)
  | ret (a : Ab) (ω : Om)
def OutIs (c : Cx) (gx : Heap) (raw : List (Addr × Obj)) : Out → Flow → Shared → Prop
  | .next ρ ω, .next, s => St c ρ ω gx raw s
  | .ret a ω, .ret v, s => AbIs gx v a ∧ ∃ ρ, St c ρ ω gx raw s
  | _, _, _ => False
def exT (c : Cx) (ρ : Rho) (ω : Om) (t : Sem Flow) (R : Out → Prop) : Prop :=
  ∀ gx raw s (Q : Flow → Shared → Prop), St c ρ ω gx raw s →
    (∀ f s' gx' out, R out → Keep gx gx' → OutIs c gx' raw out f s' → Q f s') → wpAny (model PP c.w) c.A t Q (fun _ _ => False) s
abbrev ex1 (c : Cx) (ρ : Rho) (ω : Om) (st : Stmt) (R : Out → Prop) : Prop := exT c ρ ω (exec st c.env) R
abbrev ex (c : Cx) (ρ : Rho) (ω : Om) (body : List Stmt) (R : Out → Prop) : Prop := exT c ρ ω (execs body c.env) R

section
variable {c : Cx} {ρ : Rho} {ω : Om} {R : Out → Prop}
theorem exT.mono {t : Sem Flow} {R' : Out → Prop} (h : exT c ρ ω t R) (k : ∀ o, R o → R' o) : exT c ρ ω t R' :=
  fun gx raw s Q S q => h gx raw s Q S fun f s' gx' o p => q f s' gx' o (k o p)
theorem ex_nil (h : R (.next ρ ω)) : ex c ρ ω [] R :=
  fun gx raw s Q S q => wpAny_execs_nil (q _ _ gx _ h (Keep.refl _) S)
theorem ex_cons {st : Stmt} {rest : List Stmt} (h : ex1 c ρ ω st fun o => match o with | .next ρ' ω' => ex c ρ' ω' rest R | .ret a ω' => R (.ret a ω')) : ex c ρ ω (st :: rest) R := by
  intro gx raw s Q S q
  refine wpAny_execs_cons (h gx raw s _ S fun f s₁ gx₁ o h₁ k₁ i₁ => ?_)
  cases o with
  | next ρ' ω' =>
    cases f with
    | next => exact h₁ gx₁ raw s₁ _ i₁ fun f s' gx' o p k => q f s' gx' o p (k₁.trans k)
    | _ => exact i₁.elim
  | ret a ω' =>
    cases f with
    | ret v => exact q _ _ _ _ h₁ k₁ i₁
    | _ => exact i₁.elim
theorem ex_return {e : Expr} {pos : Pos} (h : ev c ρ ω e fun a ω' => R (.ret a ω')) : ex1 c ρ ω (.Return (some e) pos) R := by
  intro gx raw s Q S q
  exact wpAny_Return_some (h gx raw s _ S fun v s' gx' a ω' p k S' i => q _ _ _ _ p k ⟨i, ρ, S'⟩)
/-- what is handed back is one of the frame's own lists: it is frozen -/
theorem ex_returnOwn {e : Expr} {pos : Pos} (h : ev c ρ ω e fun a ω' => ∃ l ds ω₁ ω₂, a = .own l ∧ ω' = ω₁ ++ (l, .lst ds) :: ω₂ ∧ R (.ret (.l ds) (ω₁ ++ ω₂))) : ex1 c ρ ω (.Return (some e) pos) R := by
  intro gx raw s Q S q
  refine wpAny_Return_some (h gx raw s _ S fun v s' gx' a ω' p k S' i => ?_)
  obtain ⟨l, ds, ω₁, ω₂, rfl, rfl, p⟩ := p
  obtain rfl : v = .ref l := i
  obtain ⟨gx₂, k₂, S₂, i₂⟩ := S'.freeze
  exact q _ _ gx₂ _ p (k.trans k₂) ⟨i₂, _, S₂⟩
theorem exT_drop {t : Sem Flow} {p : Addr × Oc} {ω₁ ω₂ : Om} (h : exT c ρ (ω₁ ++ ω₂) t R) : exT c ρ (ω₁ ++ p :: ω₂) t R :=
  fun gx raw s Q S q => h gx raw s Q S.dropOwn q
theorem exT_freeze {t : Sem Flow} {l : Addr} {ds : List PyData} {ω₁ ω₂ : Om} (h : exT c (ρ.froze l ds) (ω₁ ++ ω₂) t R) : exT c ρ (ω₁ ++ (l, .lst ds) :: ω₂) t R := by
  intro gx raw s Q S q
  obtain ⟨gx', k, S', _⟩ := S.freeze
  exact h gx' raw s Q S' fun f s' gx₂ o p k₂ => q f s' gx₂ o p (k.trans k₂)
/-- names may be forgotten -/
theorem St.weaken {ρ' : Rho} {gx : Heap} {raw : List (Addr × Obj)} {s : Shared} (S : St c ρ ω gx raw s) (h : ∀ x a, ρ' x = some a → ρ x = some a) : St c ρ' ω gx raw s := by
  obtain ⟨sm, ⟨m, F, V, V'⟩, nw, nd, ap, sub, oL, oO, oR, gr, nw'⟩ := S
  exact ⟨sm, ⟨m, F, fun x a e => V x a (h x a e), V'⟩, nw, nd, ap, sub, oL, oO, oR, gr, nw'⟩
theorem exT_env {t : Sem Flow} {ρ' : Rho} (h : exT c ρ' ω t R) (k : ∀ x a, ρ' x = some a → ρ x = some a) : exT c ρ ω t R :=
  fun gx raw s Q S q => h gx raw s Q (S.weaken k) q
theorem ex_assign {x : Str} {pos' pos : Pos} {value : Expr} (hL : c.env.locals = c.L) (hk : c.env.kindOf x = some .local) (h : ev c ρ ω value fun a ω' => R (.next (ρ.set x a) ω'))
    (hs : swapsWith value (some (.Name x pos')) pos.line c.env = pure false := by first | rfl | (rename Cx.env _ = _ => heX; rw [heX]; rfl)) : ex1 c ρ ω (.Assign [.Name x pos'] value pos) R := by
  intro gx raw s Q S q
  refine wpAny_Assign_Name (h gx raw s _ S fun v s' gx' a ω' p k S' i => ?_) hs
  exact S'.store hL hk i fun s₂ S₂ => q _ _ gx' _ p k S₂
theorem ex_if {test : Expr} {body orelse : List Stmt} {pos : Pos} (h : ts c ρ ω test fun b ω' => if b = true then ex c ρ ω' body R else ex c ρ ω' orelse R) : ex1 c ρ ω (.If test body orelse pos) R := by
  intro gx raw s Q S q
  refine wpAny_If (h gx raw s _ S fun b s₁ gx₁ ω₁ h₁ k₁ S₁ => ?_)
  cases b with
  | true => simp only [if_true] at h₁ ⊢; exact h₁ gx₁ raw s₁ _ S₁ fun f s' gx' o p k => q f s' gx' o p (k₁.trans k)
  | false => simp only [Bool.false_eq_true, if_false] at h₁ ⊢; exact h₁ gx₁ raw s₁ _ S₁ fun f s' gx' o p k => q f s' gx' o p (k₁.trans k)
/-- x -= n -/
theorem ex_subAug {x : Str} {pos' pos : Pos} {e : Expr} {m : Int} (hL : c.env.locals = c.L) (hk : c.env.kindOf x = some .local) (hx : ρ x = some (.i m)) (h : ev c ρ ω e fun a ω' => ∃ n, a = .i n ∧ R (.next (ρ.set x (.i (m - n))) ω')) :
    ex1 c ρ ω (.AugAssign (.Name x pos') .Sub e pos) R := by
  intro gx raw s Q S q
  obtain ⟨m', F, V, _⟩ := S.fr
  obtain ⟨v, h1, h2⟩ := V x _ hx
  obtain ⟨t, rfl⟩ := Is.intE h2
  have hm : m' x = some (.int m t) := by
    rcases h1 with h1 | ⟨c', o, h3, _⟩ | ⟨oC, m₂, h3, h4, _⟩
    · exact h1.2.2
    · rw [hk] at h3; rcases h3 with h3 | h3 <;> cases h3
    · obtain ⟨led, N, _⟩ := S.nw
      exact absurd hL (N _ (List.mem_append_right _ h4)).2.1
  have F' : Fr c.g c.env.locals s.heap m' := hL.symm ▸ F
  refine wpAny_AugAssign_Name (wpAny_loadName_local c.ek hk F'.ns hm (h gx raw s _ S fun v s₁ gx₁ a ω₁ p k S₁ i => ?_))
  obtain ⟨n, rfl, p⟩ := p
  obtain ⟨t', rfl⟩ := Is.intE i
  exact PyProof.Rows.isub_int ((S₁.toks _).store (a := .i (m - n)) hL hk (show Is gx₁ _ _ from Is.int _ _) fun s₂ S₂ => q _ _ gx₁ _ p k S₂)
/-- xs.append(e) -/
theorem ex_append {x : Str} {p1 p2 pos pos' : Pos} {e : Expr} {l : Addr} (hx : ρ x = some (.own l)) (hm : ∃ ds ω₁ ω₂, ω = ω₁ ++ (l, .lst ds) :: ω₂)
    (h : ev c ρ ω e fun a ω' => ∃ d ds ω₁ ω₂, a = .dat d ∧ ω' = ω₁ ++ (l, .lst ds) :: ω₂ ∧ ds.length ≤ 1000 ∧ R (.next ρ (ω₁ ++ (l, .lst (ds ++ [d])) :: ω₂))) {pl : Sem Bool}
    (hc : eval (.Call (.Attribute (.Name x p1) (Str.ofString "append") p2) [e] [] pos) c.env = (do
          let ov ← eval (.Name x p1) c.env
          standAt p2.atName
          let fx ← holding [ov] (getMethod ov (Str.ofString "append") pl)
          match fx with
            | (f, first) => callWith pos f first (backTo pos (starEach [e] c.env)) []) := by first | rfl | (rename Cx.env _ = _ => heX; rw [heX]; rfl))
    (he : starEach [e] c.env = (false, eval e c.env) :: starEach [] c.env := by first | rfl | (rename Cx.env _ = _ => heX; rw [heX]; rfl)) (hi : interactive c.env = false := by first | rfl | (rename Cx.env _ = _ => heX; rw [heX]; rfl))
    (hs : swapsWith (.Call (.Attribute (.Name x p1) (Str.ofString "append") p2) [e] [] pos) none pos'.line c.env = pure false := by first | rfl | (rename Cx.env _ = _ => heX; rw [heX]; rfl)) (hd : (x == ("__debug__" : Str)) = false := by decide) (hn : (x == ("__classdict__" : Str)) = false := by decide) :
    ex1 c ρ ω (.Expr (.Call (.Attribute (.Name x p1) (Str.ofString "append") p2) [e] [] pos) pos') R := by
  intro gx raw s Q S q
  refine wpAny_Expr ?_ hi hs
  refine MethodCall_ (pl := pl) ?_ hc
  refine ev_var (P := fun a ω' => a = .own l ∧ ω' = ω) hx ⟨rfl, rfl⟩ hd hn gx raw s _ S fun v s₁ gx₁ a ω₁ p k S₁ i => ?_
  obtain ⟨rfl, rfl⟩ := p
  obtain rfl : v = .ref l := i
  obtain ⟨ds0, w1, w2, rfl⟩ := hm
  obtain ⟨led, N, O⟩ := S₁.nw
  obtain ⟨led₁, o, led₂, rfl, O₁, ⟨vs, n, rfl, i0⟩, O₂⟩ := O.split
  refine getMethod_append_N N (o := W.listOf vs n) (by simp) ?_ rfl rfl
  refine callWith_method1 ?_ he rfl
  refine evs_cons (P := fun as ω' => ∃ d ds ω₁ ω₂, as = [.dat d] ∧ ω' = ω₁ ++ (l, .lst ds) :: ω₂ ∧ ds.length ≤ 1000 ∧ R (.next ρ (ω₁ ++ (l, .lst (ds ++ [d])) :: ω₂))) (pos := pos) (es := []) ?_ he gx₁ raw s₁ _ S₁ fun vs s₂ gx₂ as ω₂ p k₂ S₂ i => ?_
  · refine evT.mono h fun a ω' p => evs_nil ?_
    obtain ⟨d, ds, ω₁, ω₂, rfl, p⟩ := p
    exact ⟨d, ds, ω₁, ω₂, rfl, p⟩
  · obtain ⟨d, ds, w3, w4, rfl, rfl, hl, p⟩ := p
    obtain ⟨v, rfl, iv⟩ := i.one
    obtain ⟨vs', n', e', i'⟩ := S₂.ownGet
    have hz : vs'.size = ds.length := by have := i'.length; simpa using this
    show wpAny _ _ (call (.builtin "list.append") [.ref l, v]) _ _ _
    refine append_at e' (fun h' hsb e2 => ?_) (by rw [hz, sizeLine_eq]; omega)
    have S₃ := S₂.turn (tk := s₂.toks) (vs' := vs'.push v) (n' := n' + 1) (ds' := ds ++ [d]) hsb e2 (by simpa using i'.append (IsAll.one iv))
    exact q _ _ gx₂ _ p (k.trans k₂) S₃
/-- xs[i] = e -/
theorem ex_setitem {x : Str} {p1 p2 pos : Pos} {value ie : Expr} {l : Addr} (hx : ρ x = some (.own l))
    (h : ev c ρ ω value fun a ω' => ∃ d, a = .dat d ∧ ev c ρ ω' ie fun b ω'' => ∃ n ds ω₁ ω₂, b = .i n ∧ ω'' = ω₁ ++ (l, .lst ds) :: ω₂ ∧ 0 ≤ n ∧ n < 2 ^ 62 ∧ n.toNat < ds.length ∧ R (.next ρ (ω₁ ++ (l, .lst (ds.set n.toNat d)) :: ω₂)))
    (hs : swapsWith value (some (.Subscript (.Name x p1) ie p2)) pos.line c.env = pure false := by first | rfl | (rename Cx.env _ = _ => heX; rw [heX]; rfl)) (hd : (x == ("__debug__" : Str)) = false := by decide) (hn : (x == ("__classdict__" : Str)) = false := by decide) :
    ex1 c ρ ω (.Assign [.Subscript (.Name x p1) ie p2] value pos) R := by
  intro gx raw s Q S q
  refine wpAny_Assign_Subscript (h gx raw s _ S fun v s₁ gx₁ a ω₁ p k S₁ i => ?_) hs
  obtain ⟨d, rfl, p⟩ := p
  refine ev_var (P := fun a ω' => a = .own l ∧ ω' = ω₁) hx ⟨rfl, rfl⟩ hd hn gx₁ raw s₁ _ S₁ fun u s₂ gx₂ a ω₂ p' k₂ S₂ i₂ => ?_
  obtain ⟨rfl, rfl⟩ := p'
  obtain rfl : u = .ref l := i₂
  refine p gx₂ raw s₂ _ S₂ fun z s₃ gx₃ b ω₃ p k₃ S₃ i₃ => ?_
  obtain ⟨n, ds, w1, w2, rfl, rfl, h0, h1, h2, p⟩ := p
  obtain ⟨t, rfl⟩ := Is.intE i₃
  obtain ⟨vs, n', e', i'⟩ := S₃.ownGet
  have hz : vs.size = ds.length := by have := i'.length; simpa using this
  have iv : AbIs gx₃ v (.dat d) := i.mono (k₂.trans k₃)
  refine ki_setAt e' h0 (by omega) (by omega) ?_
  have up := PySem.IsL.update e' (·.setIfInBounds n.toNat v)
  have S₄ := S₃.turn (tk := s₃.toks) (ds' := ds.set n.toNat d) (Heap.SameBut.update ..) up (by simpa using i'.set n.toNat iv)
  exact q _ _ gx₃ _ p ((k.trans k₂).trans k₃) S₄
end

section
variable {c : Cx} {ρ : Rho} {ω : Om} {R : Out → Prop}
theorem AbAll.keep2 {x : Heap} {u v : Value} {a b : Ab} (h : AbAll x [u, v] [a, b]) : AbIs x u a ∧ AbIs x v b := by
  obtain ⟨_, _, e, i, j⟩ := h.two; cases e; exact ⟨i, j⟩
theorem AbAll.keep3 {x : Heap} {u v w : Value} {a b d : Ab} (h : AbAll x [u, v, w] [a, b, d]) : AbIs x u a ∧ AbIs x v b ∧ AbIs x w d := by
  obtain ⟨_, _, _, e, i, j, k⟩ := h.three; cases e; exact ⟨i, j, k⟩
/-- x, y = e1, e2 -/
theorem ex_pair {x y : Str} {p1 p2 tp tp' pos : Pos} {k k' : Nat} {e1 e2 : Expr} (hL : c.env.locals = c.L) (hx : c.env.kindOf x = some .local) (hy : c.env.kindOf y = some .local)
    (h : evs c ρ ω tp' [e1, e2] fun as ω' => ∃ a b, as = [a, b] ∧ R (.next ((ρ.set y b).set x a) ω'))
    (hs : swapsWithSole [.Tuple [.Name x p1, .Name y p2] k tp] (.Tuple [e1, e2] k' tp') pos.line c.env = pure false := by first | rfl | (rename Cx.env _ = _ => heX; rw [heX]; rfl))
    (hw : swappedStores [.Tuple [.Name x p1, .Name y p2] k tp] (.Tuple [e1, e2] k' tp') c.env = pure (some [x, y]) := by first | rfl | (rename Cx.env _ = _ => heX; rw [heX]; rfl)) :
    ex1 c ρ ω (.Assign [.Tuple [.Name x p1, .Name y p2] k tp] (.Tuple [e1, e2] k' tp') pos) R := by
  intro gx raw s Q S q
  refine Assign_Tuple_swapped (names := [x, y]) (Tuple_ (h gx raw s _ S fun vs s₁ gx₁ as ω₁ p k₁ S₁ i => ?_)) hs hw
  obtain ⟨a, b, rfl, p⟩ := p
  obtain ⟨u, v, rfl, iu, iv⟩ := i.two
  refine wpAny_newObj_type ?_ (by show (2 : Nat) ≤ sizeLine; rw [sizeLine_eq]; omega)
  have S₂ := S₁.step (tk := s₁.toks) (h' := s₁.heap.push { cls := .type "tuple", data := .seq [u, v].toArray }) fun b o e => Heap.get?_push_of_some _ e
  refine unpackItems_tuple (items := #[u, v]) c.hh ⟨_, Heap.get?_push_size _ rfl, rfl, 0, rfl⟩ fun h' hx' => ?_
  have S₃ := S₂.step (tk := s₁.toks) (h' := h') fun b o e => hx' b o (Nat.ne_of_lt (Heap.lt_size e)) e
  show wpAny _ _ (assignInOrder [bindName c.env y, bindName c.env x] [v, u]) _ _ _
  refine assignInOrder_cons (bindName_ (S₃.store hL hy iv fun s₄ S₄ => ?_))
  refine assignInOrder_cons (bindName_ (S₄.store hL hx iu fun s₅ S₅ => assignInOrder_nil ?_))
  exact q _ _ gx₁ _ p k₁ S₅
theorem ex_triple {x y z : Str} {p1 p2 p3 tp tp' pos : Pos} {k k' : Nat} {e1 e2 e3 : Expr} (hL : c.env.locals = c.L) (hx : c.env.kindOf x = some .local) (hy : c.env.kindOf y = some .local) (hz : c.env.kindOf z = some .local)
    (h : evs c ρ ω tp' [e1, e2, e3] fun as ω' => ∃ a b d, as = [a, b, d] ∧ R (.next (((ρ.set z d).set y b).set x a) ω'))
    (hs : swapsWithSole [.Tuple [.Name x p1, .Name y p2, .Name z p3] k tp] (.Tuple [e1, e2, e3] k' tp') pos.line c.env = pure false := by first | rfl | (rename Cx.env _ = _ => heX; rw [heX]; rfl))
    (hw : swappedStores [.Tuple [.Name x p1, .Name y p2, .Name z p3] k tp] (.Tuple [e1, e2, e3] k' tp') c.env = pure (some [x, y, z]) := by first | rfl | (rename Cx.env _ = _ => heX; rw [heX]; rfl)) :
    ex1 c ρ ω (.Assign [.Tuple [.Name x p1, .Name y p2, .Name z p3] k tp] (.Tuple [e1, e2, e3] k' tp') pos) R := by
  intro gx raw s Q S q
  refine Assign_Tuple_swapped (names := [x, y, z]) (Tuple_ (h gx raw s _ S fun vs s₁ gx₁ as ω₁ p k₁ S₁ i => ?_)) hs hw
  obtain ⟨a, b, d, rfl, p⟩ := p
  obtain ⟨u, v, w, rfl, iu, iv, iw⟩ := i.three
  refine wpAny_newObj_type ?_ (by show (3 : Nat) ≤ sizeLine; rw [sizeLine_eq]; omega)
  have S₂ := S₁.step (tk := s₁.toks) (h' := s₁.heap.push { cls := .type "tuple", data := .seq [u, v, w].toArray }) fun b o e => Heap.get?_push_of_some _ e
  refine unpackItems_tuple (items := #[u, v, w]) c.hh ⟨_, Heap.get?_push_size _ rfl, rfl, 0, rfl⟩ fun h' hx' => ?_
  have S₃ := S₂.step (tk := s₁.toks) (h' := h') fun b o e => hx' b o (Nat.ne_of_lt (Heap.lt_size e)) e
  show wpAny _ _ (assignInOrder [bindName c.env z, bindName c.env y, bindName c.env x] [w, v, u]) _ _ _
  refine assignInOrder_cons (bindName_ (S₃.store hL hz iw fun s₄ S₄ => ?_))
  refine assignInOrder_cons (bindName_ (S₄.store hL hy iv fun s₅ S₅ => ?_))
  refine assignInOrder_cons (bindName_ (S₅.store hL hx iu fun s₆ S₆ => assignInOrder_nil ?_))
  exact q _ _ gx₁ _ p k₁ S₆

/-! loops -/
structure Iter (c : Cx) (ω : Om) (gx : Heap) (raw : List (Addr × Obj)) (ds : List PyData) (I : Addr) (s : Shared) : Prop where
  off : Off c ω gx raw I
  ex : ∃ fp Pv Stw, Walks PP c.w c.A I fp [I] ds.length Pv Stw ∧ (∀ i v, Pv i v → ∃ d, ds[i]? = some d ∧ Is gx v d) ∧ (∀ b ∈ fp, b = I ∨ ∃ o, gx.get? b = some o) ∧ Stw 0 s.heap ∧
    ∀ i h, Stw i h → ∃ o, h.get? I = some o ∧ ∀ v, o.data ≠ .cell v
def itr (c : Cx) (ρ : Rho) (ω : Om) (iter : Expr) (P : List PyData → Om → Prop) : Prop :=
  ∀ gx raw s (Q : Value → Shared → Prop), St c ρ ω gx raw s → (∀ I s' gx' ds ω', P ds ω' → Keep gx gx' → St c ρ ω' gx' raw s' → Iter c ω' gx' raw ds I s' → Q (.ref I) s') →
    wpAny (model PP c.w) c.A (eval iter c.env) (fun xv s₁ => wpAny (model PP c.w) c.A (pyIter xv) Q (fun _ _ => False) s₁) (fun _ _ => False) s
theorem ex_for {x : Str} {px pos : Pos} {iter : Expr} {body : List Stmt} (hL : c.env.locals = c.L) (hk : c.env.kindOf x = some .local)
    (h : itr c ρ ω iter fun ds ω₁ => ∃ Inv : Nat → Rho → Om → Prop, Inv 0 ρ ω₁ ∧
      (∀ i d ρ' ω', ds[i]? = some d → Inv i ρ' ω' → ex c (ρ'.set x (.dat d)) ω' body fun o => match o with | .next ρ'' ω'' => Inv (i + 1) ρ'' ω'' | .ret a ω'' => R (.ret a ω'')) ∧ ∀ ρ' ω', Inv ds.length ρ' ω' → R (.next ρ' ω'))
    (hs : ∀ x, foldedSetIterable iter c.env x = pure x := by first | (intro _; rfl) | (rename Cx.env _ = _ => heX; rw [heX]; intro _; rfl)) : ex1 c ρ ω (.For (.Name x px) iter body [] pos) R := by
  intro gx raw s Q S q
  refine wpAny_For (h gx raw s _ S fun I s₁ gx₁ ds ω₁ p k S₁ it => ?_) hs
  obtain ⟨Inv, h0, step, fin⟩ := p
  obtain ⟨off, fp, Pv, Stw, W, hPv, hfp, hst0, hobj⟩ := it
  refine codeAny_forLoop (fun k s' => ∃ i gx' ρ' ω', i ≤ ds.length ∧ k = ds.length + 1 - i ∧ Keep gx₁ gx' ∧ Inv i ρ' ω' ∧ St c ρ' ω' gx' raw s' ∧ Off c ω' gx' raw I ∧ Stw i s'.heap) ?_ (ds.length + 1)
    ⟨0, gx₁, ρ, ω₁, Nat.zero_le _, rfl, Keep.refl _, h0, S₁, off, hst0⟩
  rintro n s' ⟨i, gx', ρ', ω', hi, rfl, kg, hI, S', off', hst⟩
  by_cases hlt : i < ds.length
  · refine W.item i _ _ _ hlt hst fun v h₁ tk₁ hP hst₁ hk₁ => ?_
    have S₂ := S'.but (tk := tk₁) off' hk₁
    obtain ⟨d, hd, iv⟩ := hPv i v hP
    obtain ⟨oI, eI, nc⟩ := hobj _ _ hst₁
    have S₂' := S₂.addRaw (oI := oI) eI off'
    have fr : ∀ h₂ gx₂, Keep gx' gx₂ → Keep gx₂ h₂ → h₂.get? I = some oI → Stw (i + 1) h₂ := fun h₂ gx₂ k1 k2 e2 => by
      refine W.frame _ _ _ hst₁ fun b hb o e => ?_
      rcases hfp b hb with rfl | ⟨o', e'⟩
      · rw [eI] at e; cases e; exact e2
      · have z := S₂.sub b o' (kg _ _ e')
        have z' : h₁.get? b = some o' := z
        rw [z'] at e; cases e
        exact k2 _ _ (k1 _ _ (kg _ _ e'))
    refine wpAny_assign_Name (S₂'.store (a := .dat d) hL hk (iv.mono kg) fun s₃ S₃ => ?_)
    refine wpAny_mono (step i d ρ' ω' hd hI gx' _ s₃ _ S₃ fun f s₄ gx₄ out p₄ k₄ i₄ => ?_) (fun _ _ x => x) fun _ _ e => e.elim
    cases out with
    | next ρ'' ω'' =>
      cases f with
      | next =>
        obtain ⟨S₄, e₄, off₄⟩ := St.dropRaw i₄ off'.r nc hL
        exact ⟨ds.length + 1 - (i + 1), by omega, i + 1, gx₄, ρ'', ω'', hlt, rfl, kg.trans k₄, p₄, S₄, off₄, fr _ gx₄ k₄ S₄.sub e₄⟩
      | _ => exact i₄.elim
    | ret a ω'' =>
      cases f with
      | ret v =>
        obtain ⟨j, ρ₅, S₅⟩ := i₄
        obtain ⟨S₄, e₄, off₄⟩ := St.dropRaw S₅ off'.r nc hL
        exact q _ _ gx₄ _ p₄ ((k.trans kg).trans k₄) ⟨j, ρ₅, S₄⟩
      | _ => exact i₄.elim
  · obtain rfl : i = ds.length := by omega
    refine W.done _ _ _ hst fun h₁ tk₁ hk₁ => wpAny_execs_nil ?_
    exact q _ _ gx' _ (fin _ _ hI) (k.trans kg) (S'.but off' hk₁)
theorem ex_while {test : Expr} {body : List Stmt} {pos : Pos} (Inv : Nat → Rho → Om → Prop) (n₀ : Nat) (h0 : Inv n₀ ρ ω)
    (step : ∀ n ρ' ω', Inv n ρ' ω' → ts c ρ' ω' test fun b ω'' => if b = true then ex c ρ' ω'' body (fun o => match o with | .next ρ3 ω3 => ∃ m, m < n ∧ Inv m ρ3 ω3 | .ret a ω3 => R (.ret a ω3)) else R (.next ρ' ω'')) :
    ex1 c ρ ω (.While test body [] pos) R := by
  intro gx raw s Q S q
  refine wpAny_While (codeAny_whileLoop (fun n s' => ∃ gx' ρ' ω', Keep gx gx' ∧ Inv n ρ' ω' ∧ St c ρ' ω' gx' raw s') ?_ n₀ ⟨gx, ρ, ω, Keep.refl _, h0, S⟩)
  rintro n s' ⟨gx', ρ', ω', kg, hI, S'⟩
  refine wpAny_mono (step n ρ' ω' hI gx' raw s' _ S' fun b s₂ gx₂ ω₂ p₂ k₂ S₂ => ?_) (fun _ _ x => x) fun _ _ e => e.elim
  cases b with
  | false =>
    simp only [Bool.false_eq_true, if_false] at p₂ ⊢
    exact wpAny_execs_nil (q _ _ gx₂ _ p₂ (kg.trans k₂) S₂)
  | true =>
    simp only [if_true] at p₂ ⊢
    refine wpAny_mono (p₂ gx₂ raw s₂ _ S₂ fun f s₄ gx₄ out p₄ k₄ i₄ => ?_) (fun _ _ x => x) fun _ _ e => e.elim
    cases out with
    | next ρ'' ω'' =>
      cases f with
      | next =>
        obtain ⟨m, hm, p₄⟩ := p₄
        exact ⟨m, hm, gx₄, ρ'', ω'', (kg.trans k₂).trans k₄, p₄, i₄⟩
      | _ => exact i₄.elim
    | ret a ω'' =>
      cases f with
      | ret v => exact q _ _ gx₄ _ p₄ ((kg.trans k₂).trans k₄) i₄
      | _ => exact i₄.elim
theorem itr_list {iter : Expr} {P : List PyData → Om → Prop} (h : ev c ρ ω iter fun a ω' => ∃ ds, a = .l ds ∧ P ds ω') : itr c ρ ω iter P := by
  intro gx raw s Q S q
  refine h gx raw s _ S fun v s₁ gx₁ a ω₁ p k S₁ i => ?_
  obtain ⟨ds, rfl, p⟩ := p
  obtain ⟨r, o, vs, z, rfl, e1, e2, e3, e4⟩ := Is.listE i
  have hl : s₁.heap.IsList r vs := ⟨o, S₁.sub _ _ e1, e2, z, e3⟩
  have hz : vs.size = ds.length := by have := e4.length; simpa using this
  refine wpAny_pyIter_list hl ?_
  have up : Keep s₁.heap (s₁.heap.push { cls := .type "list_iterator", data := .fields #[.ref r, .int 0 0] }) := fun b o e => Heap.get?_push_of_some _ e
  have hlt : r < s₁.heap.objs.size := Heap.lt_size (S₁.sub _ _ e1)
  refine q _ _ gx₁ ds ω₁ p k (S₁.step up) ⟨S₁.offNew, [s₁.heap.objs.size, r], _, _, hz ▸ Walks.list c.hh s₁.heap.objs.size r (Nat.ne_of_lt hlt) vs, fun i v hv => ?_, fun b hb => ?_, ⟨⟨_, Heap.get?_push_size _ rfl, rfl, rfl⟩, hl.push _⟩, fun i h st => ?_⟩
  · obtain ⟨d, hd, iv⟩ := e4.getV (i := i) (v := v) (by simpa using hv)
    exact ⟨d, hd, iv⟩
  · rcases List.mem_cons.mp hb with rfl | hb
    · exact .inl rfl
    · rw [List.mem_singleton.mp hb]; exact .inr ⟨o, e1⟩
  · obtain ⟨⟨o, e, h1, h2⟩, _⟩ := st
    exact ⟨o, e, fun v => by rw [h2]; simp⟩
end

/-- the frame of a def that is called from c -/
def callee (c : Cx) (n : Nat) (s : Shared) (gx : Heap) (hide : List Addr) (env : Env) (L : Addr) (hn : c.n = n + 1) (hf : env.frame = some L) (hk : env.scope.kind = .function) (eg : env.globals = mainGlobals) (eb : env.builtins = builtinsNs)
    (B : Below c.A c.base (c.fenv :: c.outer) (hideAll s.heap hide)) (st : c.g.StaysIn (hideAll s.heap hide)) (kx : Keep c.gx₀ gx) : Cx where
  w := c.w
  A := c.A.deeper env
  env := env
  fenv := env
  L := L
  g := hideAll s.heap hide
  s₀ := s
  gx₀ := gx
  n := n
  base := c.base
  outer := c.fenv :: c.outer
  A₀ := c.A
  mean := c.mean
  mg := c.mg
  mb := c.mb
  hh := c.hh
  below := B
  frames := by show c.A.frames.map _ = _; rw [c.frames]; rfl
  ff := hf
  fk := hk
  kin := c.kin.keeps st
  top := c.top.keeps st
  eg := eg
  eb := eb
  ek := hk
  depth := by have := c.depth; show c.A.depth + 1 + n < recursionLimit; omega
  units := by have := c.units; show c.A.units + 3 + 8 * n + 100 < cLine; omega
  oenv := env
  oρ := Rho.none
  oz := fun _ => rfl
  r0 := c.r0.mono kx
  r1 := c.r1.mono kx

theorem St.back {c c' : Cx} {ρ ρ' : Rho} {ω₀ ω₁ ω' : Om} {gx gx2 : Heap} {raw more : List (Addr × Obj)} {s s2 : Shared} {led₀ led₁ : List (Addr × Obj)} {m : Str → Option Value}
    (S : St c ρ (ω₀ ++ ω₁) gx raw s) (F : Fr c.g c.L s.heap m) (V : Vars c.env c.L m raw gx ρ) (V' : Vars c.oenv c.L m raw gx c.oρ) (N : News c.g c.L s.heap (led₀ ++ led₁ ++ raw)) (O₁ : OwnAre gx led₁ ω₁)
    (hg : c'.g = hideAll s.heap ((led₀ ++ led₁ ++ raw).map (·.1))) (hs : c'.s₀ = s) (hx : c'.gx₀ = gx) (S2 : St c' ρ' ω' gx2 (more ++ (led₁ ++ raw)) s2) : St c ρ (ω' ++ ω₁) gx2 raw s2 := by
  obtain ⟨FG, BG, st, lv⟩ := groundX (R := fun _ s' => Fr c.g c.L s'.heap m ∧ ∃ led2, News c.g c.L s'.heap (led2 ++ (more ++ (led₁ ++ raw))) ∧ OwnAre gx2 led2 ω') c.below F N c.frames c.ff c.fk
  obtain ⟨m2, F2, V2⟩ := S2.fr
  obtain ⟨led2, N2, O2⟩ := S2.nw
  have gr : Keep gx gx2 := hx ▸ S2.grow
  rw [hg] at F2 N2
  obtain ⟨F', led2', N', O'⟩ := lv Value.none s2 ⟨c'.L, m2, led2 ++ (more ++ (led₁ ++ raw)), F2, N2, fun F N => ⟨F, led2, N, O2⟩⟩
  have keys1 : ∀ p ∈ ω₁, ∃ q ∈ led₁, q.1 = p.1 := fun p hp => by
    have : p.1 ∈ led₁.map (·.1) := by rw [O₁.keys]; exact List.mem_map_of_mem hp
    obtain ⟨q, hq, e⟩ := List.mem_map.mp this
    exact ⟨q, hq, e⟩
  have ndS := S.nd
  rw [List.map_append] at ndS
  have hn := List.nodup_append.mp ndS
  refine ⟨?_, ⟨m, F', fun x a e => ?_, V'.mono gr⟩, ⟨led2' ++ led₁, fun p hp => N' p ?_, O'.append (O₁.mono gr)⟩, ?_, fun p hp q hq => ?_, S2.sub, ?_, fun p hp => ?_, fun q hq => S2.offR q (by simp [hq]), S.grow.trans gr, fun b o e => ?_⟩
  · obtain ⟨h, tk, e⟩ := S2.same
    obtain ⟨h0, tk0, e0⟩ := S.same
    rw [hs] at e
    exact ⟨h, tk, by rw [e, e0]⟩
  · obtain ⟨v, h1, h2⟩ := V x a e
    exact ⟨v, h1, h2.mono gr⟩
  · simp only [List.mem_append] at hp ⊢
    rcases hp with (hp | hp) | hp
    · exact .inl hp
    · exact .inr (.inr (.inl hp))
    · exact .inr (.inr (.inr hp))
  · rw [List.map_append]
    refine List.nodup_append.mpr ⟨S2.nd, hn.2.1, fun a ha b hb e => ?_⟩
    obtain ⟨p, hp, rfl⟩ := List.mem_map.mp ha
    obtain ⟨q, hq, rfl⟩ := List.mem_map.mp hb
    obtain ⟨r, hr, e'⟩ := keys1 q hq
    exact S2.apart p hp r (by simp [hr]) (e.trans e'.symm)
  · rcases List.mem_append.mp hp with hp | hp
    · exact S2.apart p hp q (by simp [hq])
    · exact S.apart p (by simp [hp]) q hq
  · cases q : gx2.get? c.L with
    | none => rfl
    | some o =>
      exfalso
      rcases S2.new _ _ q with h | h
      · rw [hx, S.offL] at h; cases h
      · obtain ⟨oL, _, _, hL, _⟩ := FG.ns
        rw [hg, hL] at h; cases h
  · rcases List.mem_append.mp hp with hp | hp
    · exact S2.offO p hp
    · obtain ⟨r, hr, e'⟩ := keys1 p hp
      exact e' ▸ S2.offR r (by simp [hr])
  · rcases S2.new _ _ e with h | h
    · rw [hx] at h; exact S.new _ _ h
    · refine .inr ?_
      rw [hg] at h
      cases q : c.g.get? b with
      | none => rfl
      | some o' => have := st b o' q; rw [h] at this; cases this

/-- what the body has to show, whoever calls -/
def Body (w : World) (n : Nat) (qual : Str) (scope : Scope) (f : Addr) (cdv : Value) (body : List Stmt) (ρ₀ : Rho) (ω₀ : Om) (P : Ab → Om → Prop) : Prop :=
  ∀ c' : Cx, c'.w = w → c'.n = n → c'.env = envOf qual scope c'.L f cdv → ex c' ρ₀ ω₀ body fun o => ∃ a ω', o = .ret a ω' ∧ P a ω'

theorem call_def {w : World} {c : Cx} {ρ : Rho} {ω₀ ω₁ : Om} {n : Nat} {f : Addr} {as : List Ab} {P : Ab → Om → Prop} {ρ₀ : Rho} {name qual : Str} {params : Arguments} {body : List Stmt} {scope : Scope} {dV kV doc pm cdv ct oc : Value} {an od : Option Addr} {osl : Array (Option Value)}
    (ho : FK.lookup f = some ⟨oc, od, .func (fnOf name qual params body scope dV kV doc pm an cdv ct), osl⟩) (hcd : cdQ cdv = some qual)
    (hbind : ∀ gx vs, AbAll gx vs as → ∃ binds, bindArgs (fnOf name qual params body scope dV kV doc pm an cdv ct) ⟨vs, []⟩ = pure binds ∧ (∀ y ∈ binds, scope.names.lookup y.1 = some .local) ∧ ∀ x a, ρ₀ x = some a → ∃ v, binds.reverse.lookup x = some v ∧ scope.names.lookup x = some .local ∧ AbIs gx v a)
    (hbody : Body w n qual scope f cdv body ρ₀ ω₀ fun a ω' => P a (ω' ++ ω₁))
    (hco : scope.isCoroutine = false) (hgen : scope.isGenerator = false) (hk : scope.kind = .function) (hcell : ∀ x ∈ scope.names, x.2 ≠ .cell) (hw : c.w = w) (hn : c.n = n + 1) :
    callT c ρ (ω₀ ++ ω₁) (.ref f) as P := by
  subst hw
  intro gx raw s Q vs S ia q
  obtain ⟨binds, hb, hloc, hρ⟩ := hbind gx vs ia
  obtain ⟨m, F, V, V'⟩ := S.fr
  obtain ⟨led, N, O⟩ := S.nw
  obtain ⟨led₀, led₁, rfl, O₀, O₁⟩ := O.appendE
  obtain ⟨FG, BG, st, lv⟩ := groundX (R := fun _ _ => True) c.below F N c.frames c.ff c.fk
  refine wpAny_call (codeAny_call_def (fd := fnOf name qual params body scope dV kV doc pm an cdv ct) (body := body) (binds := binds) (by have := c.depth; omega) (S.kin.fk _ _ ho) rfl (c.top.nolimit.keeps F.keep) (S.kin.code hcd) rfl (BindsTo.of_eq hb) hcell hloc (fun h₁ hns hk₁ => ?_) hco hgen hk)
  have ff : (envOf qual scope s.heap.objs.size f cdv).frame = some s.heap.objs.size := rfl
  have ek : (envOf qual scope s.heap.objs.size f cdv).scope.kind = .function := hk
  let c' := callee c n s gx ((led₀ ++ led₁ ++ raw).map (·.1)) (envOf qual scope s.heap.objs.size f cdv) s.heap.objs.size hn ff ek rfl rfl BG st S.grow
  have sz := S.offNew
  have S1 : St c' ρ₀ ω₀ gx (led₁ ++ raw) { s with heap := h₁, toks := s.toks + binds.length } := by
    have ndS := S.nd
    rw [List.map_append] at ndS
    have hnd := List.nodup_append.mp ndS
    have keys1 : ∀ q ∈ led₁, ∃ p ∈ ω₁, p.1 = q.1 := fun p hp => by
      have : p.1 ∈ ω₁.map (·.1) := by rw [← O₁.keys]; exact List.mem_map_of_mem hp
      obtain ⟨q, hq, e⟩ := List.mem_map.mp this
      exact ⟨q, hq, e⟩
    refine ⟨⟨h₁, _, rfl⟩, ⟨_, ⟨hns, fun b o e => hk₁ b o (of_hideAll _ e), Nat.le_of_eq (hideAll_size _ _)⟩, fun x a e => ?_, Vars.none rfl⟩, ⟨led₀, fun p hp => ?_, O₀⟩, hnd.1, fun p hp q hq => ?_, fun b o e => hk₁ _ _ (S.sub b o e), sz.x, fun p hp => S.offO p (by simp [hp]), fun q hq => ?_, Keep.refl _, fun b o e => .inl e⟩
    · obtain ⟨v, h1, h2, h3⟩ := hρ x a e
      exact ⟨v, .inl ⟨rfl, h2, h1⟩, h3⟩
    · have hp' : p ∈ led₀ ++ led₁ ++ raw := by simpa using hp
      exact ⟨hk₁ _ _ (N p hp').1, Nat.ne_of_lt (Heap.lt_size (N p hp').1), hideAll_none _ (List.mem_map_of_mem hp')⟩
    · rcases List.mem_append.mp hq with hq | hq
      · obtain ⟨r, hr, e⟩ := keys1 q hq
        exact fun e' => hnd.2.2 p.1 (List.mem_map_of_mem hp) r.1 (List.mem_map_of_mem hr) (e'.trans e.symm)
      · exact S.apart p (by simp [hp]) q hq
    · rcases List.mem_append.mp hq with hq | hq
      · obtain ⟨r, hr, e⟩ := keys1 q hq
        exact e ▸ S.offO r (by simp [hr])
      · exact S.offR q hq
  refine wpAny_mono (hbody c' rfl rfl rfl gx _ _ _ S1 fun fl s2 gx2 out p k i => ?_) (fun _ _ x => x) fun _ _ e => e.elim
  obtain ⟨a, ω', rfl, p⟩ := p
  cases fl with
  | ret v =>
    obtain ⟨j, ρ', S2⟩ := i
    refine q v s2 gx2 a (ω' ++ ω₁) p k ?_ j
    exact S.back (more := []) (c' := c') F V V' N O₁ rfl rfl rfl S2
  | _ => exact i.elim
section
variable {w : World} {c : Cx} {ρ : Rho} {ω₀ ω₁ : Om} {n : Nat} {f : Addr} {P : Ab → Om → Prop} {name qual : Str} {params : Arguments} {body : List Stmt} {scope : Scope} {dV kV doc pm cdv ct oc : Value} {an od : Option Addr} {osl : Array (Option Value)}
theorem call_def1 {x : Str} {a : Ab} (ho : FK.lookup f = some ⟨oc, od, .func (fnOf name qual params body scope dV kV doc pm an cdv ct), osl⟩) (hcd : cdQ cdv = some qual)
    (hbind : ∀ u, bindArgs (fnOf name qual params body scope dV kV doc pm an cdv ct) ⟨[u], []⟩ = pure [(x, u)]) (hx : scope.names.lookup x = some .local) (hn : 1 ≤ c.n)
    (hco : scope.isCoroutine = false) (hgen : scope.isGenerator = false) (hk : scope.kind = .function) (hcell : ∀ x ∈ scope.names, x.2 ≠ .cell)
    (hbody : Body c.w (c.n - 1) qual scope f cdv body (Rho.none.set x a) ω₀ fun a ω' => P a (ω' ++ ω₁)) : callT c ρ (ω₀ ++ ω₁) (.ref f) [a] P := by
  refine call_def ho hcd (fun gx vs ia => ?_) hbody hco hgen hk hcell rfl (by omega)
  obtain ⟨u, rfl, iu⟩ := ia.one
  refine ⟨[(x, u)], hbind u, fun y hy => by rw [List.mem_singleton.mp hy]; exact hx, fun y b e => ?_⟩
  by_cases h1 : y = x
  · subst h1
    simp only [Rho.set, if_true] at e
    cases e
    exact ⟨u, by simp, hx, iu⟩
  · simp [Rho.set, Rho.none, h1] at e
theorem call_def2 {x y : Str} {a b : Ab} (ho : FK.lookup f = some ⟨oc, od, .func (fnOf name qual params body scope dV kV doc pm an cdv ct), osl⟩) (hcd : cdQ cdv = some qual)
    (hbind : ∀ u v, bindArgs (fnOf name qual params body scope dV kV doc pm an cdv ct) ⟨[u, v], []⟩ = pure [(x, u), (y, v)]) (hx : scope.names.lookup x = some .local) (hy : scope.names.lookup y = some .local) (hxy : x ≠ y) (hn : 1 ≤ c.n)
    (hco : scope.isCoroutine = false) (hgen : scope.isGenerator = false) (hk : scope.kind = .function) (hcell : ∀ x ∈ scope.names, x.2 ≠ .cell)
    (hbody : Body c.w (c.n - 1) qual scope f cdv body ((Rho.none.set x a).set y b) ω₀ fun a ω' => P a (ω' ++ ω₁)) : callT c ρ (ω₀ ++ ω₁) (.ref f) [a, b] P := by
  refine call_def ho hcd (fun gx vs ia => ?_) hbody hco hgen hk hcell rfl (by omega)
  obtain ⟨u, v, rfl, iu, iv⟩ := ia.two
  refine ⟨[(x, u), (y, v)], hbind u v, fun z hz => ?_, fun z d e => ?_⟩
  · simp only [List.mem_cons, List.not_mem_nil, or_false] at hz
    rcases hz with rfl | rfl
    · exact hx
    · exact hy
  · by_cases h2 : z = y
    · subst h2
      simp only [Rho.set, if_true] at e
      cases e
      exact ⟨v, by simp, hy, iv⟩
    · by_cases h1 : z = x
      · subst h1
        simp only [Rho.set, if_neg h2, if_true] at e
        cases e
        refine ⟨u, ?_, hx, iu⟩
        have : (z == y) = false := by simpa using h2
        simp [List.lookup, this]
      · simp [Rho.set, Rho.none, h1, h2] at e
theorem call_def3 {x y z : Str} {a b d : Ab} (ho : FK.lookup f = some ⟨oc, od, .func (fnOf name qual params body scope dV kV doc pm an cdv ct), osl⟩) (hcd : cdQ cdv = some qual)
    (hbind : ∀ u v w, bindArgs (fnOf name qual params body scope dV kV doc pm an cdv ct) ⟨[u, v, w], []⟩ = pure [(x, u), (y, v), (z, w)]) (hx : scope.names.lookup x = some .local) (hy : scope.names.lookup y = some .local) (hz : scope.names.lookup z = some .local)
    (hxy : x ≠ y) (hxz : x ≠ z) (hyz : y ≠ z) (hn : 1 ≤ c.n)
    (hco : scope.isCoroutine = false) (hgen : scope.isGenerator = false) (hk : scope.kind = .function) (hcell : ∀ x ∈ scope.names, x.2 ≠ .cell)
    (hbody : Body c.w (c.n - 1) qual scope f cdv body (((Rho.none.set x a).set y b).set z d) ω₀ fun a ω' => P a (ω' ++ ω₁)) : callT c ρ (ω₀ ++ ω₁) (.ref f) [a, b, d] P := by
  refine call_def ho hcd (fun gx vs ia => ?_) hbody hco hgen hk hcell rfl (by omega)
  obtain ⟨u, v, w, rfl, iu, iv, iw⟩ := ia.three
  refine ⟨[(x, u), (y, v), (z, w)], hbind u v w, fun t ht => ?_, fun t r e => ?_⟩
  · simp only [List.mem_cons, List.not_mem_nil, or_false] at ht
    rcases ht with rfl | rfl | rfl
    · exact hx
    · exact hy
    · exact hz
  · by_cases h3 : t = z
    · subst h3
      simp only [Rho.set, if_true] at e
      cases e
      exact ⟨w, by simp, hz, iw⟩
    · have b3 : (t == z) = false := by simpa using h3
      by_cases h2 : t = y
      · subst h2
        simp only [Rho.set, if_neg h3, if_true] at e
        cases e
        exact ⟨v, by simp [List.lookup, b3], hy, iv⟩
      · have b2 : (t == y) = false := by simpa using h2
        by_cases h1 : t = x
        · subst h1
          simp only [Rho.set, if_neg h3, if_neg h2, if_true] at e
          cases e
          exact ⟨u, by simp [List.lookup, b2, b3], hx, iu⟩
        · simp [Rho.set, Rho.none, h1, h2, h3] at e
end

section
variable {c : Cx} {ρ : Rho} {ω : Om} {P : Ab → Om → Prop}
/-- xs[:e] -/
theorem ev_sliceTo {value e : Expr} {sp pos : Pos} (h : ev c ρ ω value fun a ω₁ => ∃ ds, a = .l ds ∧ ds.length ≤ 100000 ∧ ev c ρ ω₁ e fun b ω₂ => ∃ n, b = .i n ∧ 0 ≤ n ∧ P (.l (ds.take n.toNat)) ω₂)
    (hs : ∀ l D, subscripted (.Slice none (some e) none sp) false (.ref l) (.ref D) = operate [.ref D, .ref l] (getItem (.ref l) (.ref D)) := by intro _ _; with_unfolding_all rfl) :
    ev c ρ ω (.Subscript value (.Slice none (some e) none sp) pos) P := by
  intro gx raw s Q S q
  refine Subscript_ (h gx raw s _ S fun u s₁ gx₁ a ω₁ h₁ k₁ S₁ i₁ => ?_)
  obtain ⟨ds, rfl, hlen, h₁⟩ := h₁
  refine wpAny_Slice (evalPart_none_step (evalPart_some_step (h₁ gx₁ raw s₁ _ S₁ fun v s₂ gx₂ b ω₂ h₂ k₂ S₂ i₂ => evalPart_none_step ?_)))
  obtain ⟨n, rfl, h0, p⟩ := h₂
  obtain ⟨t, rfl⟩ := Is.intE i₂
  obtain ⟨r, o, vs, z, rfl, e1, e2, e3, e4⟩ := Is.listE (i₁.mono k₂)
  have hz : vs.size = ds.length := by have := e4.length; simpa using this
  have up : Keep s₂.heap (s₂.heap.push { cls := .type "slice", data := .fields #[.none, .int n t, .none] }) := fun b o e => Heap.get?_push_of_some _ e
  have S₃ := S₂.step (tk := s₂.toks) up
  have hl : (s₂.heap.push { cls := .type "slice", data := .fields #[.none, .int n t, .none] }).IsList r vs := ⟨o, up _ _ (S₂.sub _ _ e1), e2, z, e3⟩
  refine tail_any (s := { s₂ with heap := s₂.heap.push _ }) hl.typeIs list_getitem_lookup (wpAny_getItem_list_slice hl (Heap.IsSliceOf.new ..) .none (.int n t) .none (by simp) ?_ (by rw [hz, sizeLine_eq]; omega)) (hs _ _)
  obtain ⟨gx₄, k₄, S₄, e₄⟩ := S₃.push (o := { cls := .type "list", data := .seq (slicePick vs none (some n) none) }) (tk := s₂.toks) rfl
  refine q _ _ gx₄ _ _ p ((k₁.trans k₂).trans k₄) S₄ (Is.list e₄ rfl rfl ?_)
  have en : n = (n.toNat : Int) := by omega
  have ep : slicePick vs none (some n) none = (vs.toList.take n.toNat).toArray := by have e5 := slicePick_upto' vs n.toNat; rw [← en] at e5; exact e5
  rw [ep]
  simpa using (e4.take n.toNat).mono k₄
/-- xs[e:] -/
theorem ev_sliceFrom {value e : Expr} {sp pos : Pos} (h : ev c ρ ω value fun a ω₁ => ∃ ds, a = .l ds ∧ ds.length ≤ 100000 ∧ ev c ρ ω₁ e fun b ω₂ => ∃ n, b = .i n ∧ 0 ≤ n ∧ P (.l (ds.drop n.toNat)) ω₂)
    (hs : ∀ l D, subscripted (.Slice (some e) none none sp) false (.ref l) (.ref D) = operate [.ref D, .ref l] (getItem (.ref l) (.ref D)) := by intro _ _; with_unfolding_all rfl) :
    ev c ρ ω (.Subscript value (.Slice (some e) none none sp) pos) P := by
  intro gx raw s Q S q
  refine Subscript_ (h gx raw s _ S fun u s₁ gx₁ a ω₁ h₁ k₁ S₁ i₁ => ?_)
  obtain ⟨ds, rfl, hlen, h₁⟩ := h₁
  refine wpAny_Slice (evalPart_some_step (h₁ gx₁ raw s₁ _ S₁ fun v s₂ gx₂ b ω₂ h₂ k₂ S₂ i₂ => evalPart_none_step (evalPart_none_step ?_)))
  obtain ⟨n, rfl, h0, p⟩ := h₂
  obtain ⟨t, rfl⟩ := Is.intE i₂
  obtain ⟨r, o, vs, z, rfl, e1, e2, e3, e4⟩ := Is.listE (i₁.mono k₂)
  have hz : vs.size = ds.length := by have := e4.length; simpa using this
  have up : Keep s₂.heap (s₂.heap.push { cls := .type "slice", data := .fields #[.int n t, .none, .none] }) := fun b o e => Heap.get?_push_of_some _ e
  have S₃ := S₂.step (tk := s₂.toks) up
  have hl : (s₂.heap.push { cls := .type "slice", data := .fields #[.int n t, .none, .none] }).IsList r vs := ⟨o, up _ _ (S₂.sub _ _ e1), e2, z, e3⟩
  refine tail_any (s := { s₂ with heap := s₂.heap.push _ }) hl.typeIs list_getitem_lookup (wpAny_getItem_list_slice hl (Heap.IsSliceOf.new ..) (.int n t) .none .none (by simp) ?_ (by rw [hz, sizeLine_eq]; omega)) (hs _ _)
  obtain ⟨gx₄, k₄, S₄, e₄⟩ := S₃.push (o := { cls := .type "list", data := .seq (slicePick vs (some n) none none) }) (tk := s₂.toks) rfl
  refine q _ _ gx₄ _ _ p ((k₁.trans k₂).trans k₄) S₄ (Is.list e₄ rfl rfl ?_)
  have en : n = (n.toNat : Int) := by omega
  have ep : slicePick vs (some n) none none = (vs.toList.drop n.toNat).toArray := by have e5 := slicePick_from' vs n.toNat; rw [← en] at e5; exact e5
  rw [ep]
  simpa using (e4.drop n.toNat).mono k₄
theorem rep_one (v : Value) (n : Nat) : (List.foldl (fun x1 x2 => x1 ++ x2) #[] (List.replicate n #[v])) = (List.replicate n v).toArray := by
  have : ∀ (n : Nat) (a : Array Value), List.foldl (fun x1 x2 => x1 ++ x2) a (List.replicate n #[v]) = a ++ (List.replicate n v).toArray := by
    intro n
    induction n with
    | zero => intro a; simp
    | succ n ih => intro a; rw [List.replicate_succ, List.foldl_cons, ih, List.replicate_succ]; apply Array.toList_inj.mp; simp
  rw [this]; simp
/-- [x] * n -/
theorem bin_rep {l : Addr} {d : PyData} {n : Int} (h0 : 0 ≤ n) (h1 : n ≤ 1000) (h : ∀ D, P (.own D) ((D, .lst (List.replicate n.toNat d)) :: ω)) : binT c ρ ((l, .lst [d]) :: ω) (binaryOp .Mult) (.own l) (.i n) P := by
  intro gx raw s Q u v S i j q
  obtain rfl : u = .ref l := i
  obtain ⟨t, rfl⟩ := Is.intE j
  obtain ⟨vs, z, e, iv⟩ := S.ownGet (ω₁ := [])
  have hv : ∃ x, vs = #[x] ∧ Is gx x d := by
    have hl := iv.length
    obtain ⟨vl⟩ := vs
    match vl, hl with
    | [x], _ => exact ⟨x, rfl, iv.consE.1⟩
  obtain ⟨x, rfl, ix⟩ := hv
  obtain ⟨m, led, F, N, _, ha, back⟩ := S.frame
  refine mul_list F N e (by omega) (by omega) ?_ fun h' F' N' => ?_
  · show 1 * n.toNat ≤ 2 ^ 24
    omega
  · have S' := back h' s.toks F' fun p hp => N' p (.tail _ hp)
    have zD := (N' _ (.head _)).1
    have hemp : (if (#[x] : Array Value).isEmpty = true then 0 else n.toNat) = n.toNat := by simp
    rw [hemp, rep_one] at zD
    have S2 := S'.ownNew (D := s.heap.objs.size) (vs := (List.replicate n.toNat x).toArray) (ds := List.replicate n.toNat d) (n := 0) zD S.offNew (by simpa using IsAll.replicate n.toNat ix)
    exact q _ _ gx _ _ (h _) (Keep.refl _) (St.dropOwn (ω₁ := [(s.heap.objs.size, _)]) S2) rfl
def rangeD (a : Int) (n : Nat) : List PyData := (List.range n).map fun (i : Nat) => PyData.int (a + (i : Int))
theorem rangeD_get {a : Int} {n i : Nat} (h : i < n) : (rangeD a n)[i]? = some (.int (a + i)) := by simp [rangeD, h]
theorem rangeD_length {a : Int} {n : Nat} : (rangeD a n).length = n := by simp [rangeD]
theorem iter_range {a b : Int} {t u v : Tok} {gx : Heap} {raw : List (Addr × Obj)} {s : Shared} {r : Addr} {Q : Value → Shared → Prop} (S : St c ρ ω gx raw s) (hr : IsRange s.heap r a b 1 t u v) (h1 : -1000000 ≤ a) (h2 : a ≤ 1000000) (h3 : -1000000 ≤ b) (h4 : b ≤ 1000000)
    (q : ∀ I s', St c ρ ω gx raw s' → Iter c ω gx raw (rangeD a (b - a).toNat) I s' → Q (.ref I) s') : wpAny (model PP c.w) c.A (pyIter (.ref r)) Q (fun _ _ => False) s := by
  refine wpAny_pyIter_range hr (small_one (by omega) (by omega) (by omega) (by omega)) ?_
  have up : Keep s.heap (s.heap.push { cls := .type "range_iterator", data := .fields #[rawInt a, rawInt (Builtin.Range.rangeSize a b 1), rawInt 1] }) := fun b o e => Heap.get?_push_of_some _ e
  have hsz : Builtin.Range.rangeSize a b 1 = ((b - a).toNat : Int) := by rw [rangeSize_one]; split <;> omega
  refine q s.heap.objs.size _ (S.step up) ⟨S.offNew, [s.heap.objs.size], _, _, by rw [rangeD_length]; exact (Walks.range c.hh s.heap.objs.size a 1 (b - a).toNat).bound, fun i v hv => ?_, fun b hb => .inl (List.mem_singleton.mp hb), ?_, fun i h st => ⟨_, st, fun v => by simp⟩⟩
  · obtain ⟨hi, t, rfl⟩ := hv
    exact ⟨_, rangeD_get hi, by rw [Int.mul_one]; exact Is.int _ _⟩
  · show IsRangeIter _ _ _ _ _
    rw [hsz]; simpa using Heap.get?_push_size _ rfl
theorem itr_range1 {p pos : Pos} {e : Expr} {P : List PyData → Om → Prop} (hk : c.env.kindOf (Str.ofString "range") = some .globalImplicit)
    (h : ev c ρ ω e fun a ω₁ => ∃ n, a = .i n ∧ -1000000 ≤ n ∧ n ≤ 1000000 ∧ P (rangeD 0 n.toNat) ω₁)
    (hc : eval (.Call (.Name (Str.ofString "range") p) [e] [] pos) c.env = (do let g ← eval (.Name (Str.ofString "range") p) c.env; callWith pos g [] (backTo pos (starEach [e] c.env)) (backToKw pos (keywordEach [] c.env))) := by first | rfl | (rename Cx.env _ = _ => heX; rw [heX]; rfl))
    (he : starEach [e] c.env = (false, eval e c.env) :: starEach [] c.env := by first | rfl | (rename Cx.env _ = _ => heX; rw [heX]; rfl)) : itr c ρ ω (.Call (.Name (Str.ofString "range") p) [e] [] pos) P := by
  intro gx raw s Q S q
  refine Call_ (built_val S hk (by rfl) (v := .type "range") (by decide +kernel) ?_) hc
  refine PyProof.Rows.callWith_type1 (evs_cons (P := fun as ω₁ => ∃ n, as = [.i n] ∧ -1000000 ≤ n ∧ n ≤ 1000000 ∧ P (rangeD 0 n.toNat) ω₁) (h.mono fun a ω' p => evs_nil (by obtain ⟨n, rfl, p⟩ := p; exact ⟨n, rfl, p⟩)) he gx raw s _ S fun vs s₁ gx₁ as ω₁ p k S₁ ia => ?_) he rfl
  obtain ⟨n, rfl, l1, l2, p⟩ := p
  obtain ⟨v, rfl, iv⟩ := ia.one
  obtain ⟨t, rfl⟩ := Is.intE iv
  obtain ⟨m, F, V⟩ := S₁.fr
  refine range1_rows F News.nil fun h' tk t₁ u₁ v₁ hr F' N' kp => ?_
  refine iter_range (S₁.step (tk := tk) kp) hr (by omega) (by omega) l1 l2 fun I s' S' it => ?_
  exact q I s' gx₁ _ ω₁ (by rw [Int.sub_zero]; exact p) k S' it
theorem itr_range2 {p pos : Pos} {e e' : Expr} {P : List PyData → Om → Prop} (hk : c.env.kindOf (Str.ofString "range") = some .globalImplicit)
    (h : ev c ρ ω e fun a ω₁ => ∃ l, a = .i l ∧ -1000000 ≤ l ∧ l ≤ 1000000 ∧ ev c ρ ω₁ e' fun b ω₂ => ∃ n, b = .i n ∧ -1000000 ≤ n ∧ n ≤ 1000000 ∧ P (rangeD l (n - l).toNat) ω₂)
    (hc : eval (.Call (.Name (Str.ofString "range") p) [e, e'] [] pos) c.env = (do let g ← eval (.Name (Str.ofString "range") p) c.env; callWith pos g [] (backTo pos (starEach [e, e'] c.env)) (backToKw pos (keywordEach [] c.env))) := by first | rfl | (rename Cx.env _ = _ => heX; rw [heX]; rfl))
    (he : starEach [e, e'] c.env = (false, eval e c.env) :: starEach [e'] c.env := by first | rfl | (rename Cx.env _ = _ => heX; rw [heX]; rfl)) (he' : starEach [e'] c.env = (false, eval e' c.env) :: starEach [] c.env := by first | rfl | (rename Cx.env _ = _ => heX; rw [heX]; rfl))
    (hp : (backTo pos (starEach [e'] c.env)).any (·.1) = false := by first | rfl | (rename Cx.env _ = _ => heX; rw [heX]; rfl)) : itr c ρ ω (.Call (.Name (Str.ofString "range") p) [e, e'] [] pos) P := by
  intro gx raw s Q S q
  refine Call_ (built_val S hk (by rfl) (v := .type "range") (by decide +kernel) ?_) hc
  refine PyProof.Rows.callWith_type1 (evs_cons (P := fun as ω₁ => ∃ l n, as = [.i l, .i n] ∧ -1000000 ≤ l ∧ l ≤ 1000000 ∧ -1000000 ≤ n ∧ n ≤ 1000000 ∧ P (rangeD l (n - l).toNat) ω₁) (h.mono fun a ω' p => ?_) he gx raw s _ S fun vs s₁ gx₁ as ω₁ p k S₁ ia => ?_) he hp
  · obtain ⟨l, rfl, l1, l2, p⟩ := p
    exact evs_cons (p.mono fun b ω'' p => evs_nil (by obtain ⟨n, rfl, l3, l4, p⟩ := p; exact ⟨l, n, rfl, l1, l2, l3, l4, p⟩)) he'
  obtain ⟨l, n, rfl, l1, l2, l3, l4, p⟩ := p
  obtain ⟨v, w, rfl, iv, iw⟩ := ia.two
  obtain ⟨t, rfl⟩ := Is.intE iv
  obtain ⟨t', rfl⟩ := Is.intE iw
  obtain ⟨m, F, V⟩ := S₁.fr
  refine range2_rows F News.nil fun h' tk t₁ u₁ v₁ hr F' N' kp => ?_
  exact iter_range (S₁.step (tk := tk) kp) hr l1 l2 l3 l4 fun I s' S' it => q I s' gx₁ _ ω₁ p k S' it
theorem itr_reversed {p pos : Pos} {e : Expr} {P : List PyData → Om → Prop} (hk : c.env.kindOf (Str.ofString "reversed") = some .globalImplicit)
    (h : ev c ρ ω e fun a ω₁ => ∃ ds, a = .l ds ∧ P ds.reverse ω₁)
    (hc : eval (.Call (.Name (Str.ofString "reversed") p) [e] [] pos) c.env = (do let g ← eval (.Name (Str.ofString "reversed") p) c.env; callWith pos g [] (backTo pos (starEach [e] c.env)) (backToKw pos (keywordEach [] c.env))) := by first | rfl | (rename Cx.env _ = _ => heX; rw [heX]; rfl))
    (he : starEach [e] c.env = (false, eval e c.env) :: starEach [] c.env := by first | rfl | (rename Cx.env _ = _ => heX; rw [heX]; rfl)) : itr c ρ ω (.Call (.Name (Str.ofString "reversed") p) [e] [] pos) P := by
  intro gx raw s Q S q
  refine Call_ (built_val S hk (by rfl) (v := .type "reversed") (by decide +kernel) ?_) hc
  refine PyProof.Rows.callWith_type1 (evs_cons (P := fun as ω₁ => ∃ ds, as = [.l ds] ∧ P ds.reverse ω₁) (h.mono fun a ω' p => evs_nil (by obtain ⟨n, rfl, p⟩ := p; exact ⟨n, rfl, p⟩)) he gx raw s _ S fun vs s₁ gx₁ as ω₁ p k S₁ ia => ?_) he rfl
  obtain ⟨ds, rfl, p⟩ := p
  obtain ⟨v, rfl, iv⟩ := ia.one
  obtain ⟨r, o, vs, z, rfl, e1, e2, e3, e4⟩ := Is.listE iv
  have hl : s₁.heap.IsList r vs := ⟨o, S₁.sub _ _ e1, e2, z, e3⟩
  have hz : vs.size = ds.length := by have := e4.length; simpa using this
  refine call_reversed_list hl ?_
  have up : Keep s₁.heap (s₁.heap.push (revObj r ((vs.size : Int) - 1))) := fun b o e => Heap.get?_push_of_some _ e
  have S₂ := S₁.step (tk := s₁.toks) up
  have hit : (s₁.heap.push (revObj r ((vs.size : Int) - 1))).IsRevIter s₁.heap.objs.size r ((vs.size : Int) - 1) := ⟨_, Heap.get?_push_size _ rfl, rfl, rfl⟩
  refine wpAny_pyIter_revIter hit ?_
  have hlt : r < s₁.heap.objs.size := Heap.lt_size (S₁.sub _ _ e1)
  have W := (Walks.listRev (prog := PP) (w := c.w) c.hh s₁.heap.objs.size r (Nat.ne_of_lt hlt) vs).bound
  have W' : Walks PP c.w c.A s₁.heap.objs.size [s₁.heap.objs.size, r] [s₁.heap.objs.size] ds.reverse.length (fun i v => i < vs.size ∧ vs[vs.size - 1 - i]? = some v)
    (fun i h => i ≤ vs.size ∧ h.IsRevIter s₁.heap.objs.size r ((vs.size : Int) - 1 - i) ∧ h.IsList r vs) := by
    rw [List.length_reverse, ← hz]; exact W
  refine q _ _ gx₁ ds.reverse ω₁ p k S₂ ⟨S₁.offNew, _, _, _, W', fun i v hv => ?_, fun b hb => ?_, ?_, fun i h st => ?_⟩
  · obtain ⟨hi, hv⟩ := hv
    obtain ⟨d, hd, ix⟩ := e4.getV (i := vs.size - 1 - i) (v := v) (by simpa using hv)
    refine ⟨d, ?_, ix⟩
    rw [List.getElem?_reverse (by omega), ← hz]; exact hd
  · rcases List.mem_cons.mp hb with rfl | hb
    · exact .inl rfl
    · rw [List.mem_singleton.mp hb]; exact .inr ⟨o, e1⟩
  · exact ⟨Nat.zero_le _, by simpa using hit, ⟨o, up _ _ (S₁.sub _ _ e1), e2, z, e3⟩⟩
  · obtain ⟨_, ⟨o, e, h1, h2⟩, _⟩ := st
    exact ⟨o, e, fun v => by rw [h2]; simp⟩
end

/-- the block of a comprehension, within c -/
def compCx (c : Cx) (ρ : Rho) (scope : Scope) (cl : List (Str × Addr)) (C : Addr) (hk : scope.kind = .function) (hne : C ≠ c.L) : Cx :=
  { c with env := compEnvC scope cl C c.env, oenv := c.env, oρ := ρ, oz := fun h => absurd h hne, eg := c.eg, eb := c.eb, ek := hk }

def Frees (c : Cx) (ρ : Rho) (scope : Scope) (cl : List (Str × Addr)) (ρf : Rho) : Prop :=
  ∀ y a, ρf y = some a → ρ y = some a ∧ c.env.kindOf y = some .cell ∧ (compEnvC scope cl 0 c.env).kindOf y = some .cell ∧ cl.lookup y = c.env.cells.lookup y
theorem Frees.nil {c : Cx} {ρ : Rho} {scope : Scope} {cl : List (Str × Addr)} : Frees c ρ scope cl Rho.none := fun y a e => by cases e
theorem Frees.set {c : Cx} {ρ ρf : Rho} {scope : Scope} {cl : List (Str × Addr)} {y : Str} {a : Ab} (h : Frees c ρ scope cl ρf) (h1 : ρ y = some a) (h2 : c.env.kindOf y = some .cell) (h3 : (compEnvC scope cl 0 c.env).kindOf y = some .cell) (h4 : cl.lookup y = c.env.cells.lookup y) :
    Frees c ρ scope cl (ρf.set y a) := by
  intro z b e
  by_cases hz : z = y
  · subst hz
    simp only [Rho.set, if_true] at e
    cases e
    exact ⟨h1, h2, h3, h4⟩
  · simp only [Rho.set, if_neg hz] at e
    exact h z b e

section
variable {c : Cx} {ρ : Rho} {ω : Om} {P : Ab → Om → Prop}
theorem St.inner {ρ' : Rho} {gx : Heap} {raw : List (Addr × Obj)} {s : Shared} {scope : Scope} {cl : List (Str × Addr)} {C : Addr} {hk : scope.kind = .function} {hne : C ≠ c.L} (S : St c ρ ω gx raw s)
    (h : ∀ m, Vars c.env c.L m raw gx ρ → Vars (compEnvC scope cl C c.env) c.L m raw gx ρ') : St (compCx c ρ scope cl C hk hne) ρ' ω gx raw s := by
  obtain ⟨sm, ⟨m, F, V, V'⟩, nw, nd, ap, sub, oL, oO, oR, gr, nw'⟩ := S
  exact ⟨sm, ⟨m, F, h m V, V⟩, nw, nd, ap, sub, oL, oO, oR, gr, nw'⟩
theorem St.outer {ρ' : Rho} {gx : Heap} {raw : List (Addr × Obj)} {s : Shared} {scope : Scope} {cl : List (Str × Addr)} {C : Addr} {hk : scope.kind = .function} {hne : C ≠ c.L} (S : St (compCx c ρ scope cl C hk hne) ρ' ω gx raw s)
    (hL : c.env.locals = c.L) : St c ρ ω gx raw s := by
  obtain ⟨sm, ⟨m, F, V, V'⟩, nw, nd, ap, sub, oL, oO, oR, gr, nw'⟩ := S
  exact ⟨sm, ⟨m, F, V', Vars.none (c.oz hL)⟩, nw, nd, ap, sub, oL, oO, oR, gr, nw'⟩
set_option maxHeartbeats 1000000 in
theorem comp_gen {use : Option (Value → Sem Unit)} {Qc : Value → Shared → Prop} {Pd : List PyData → Om → Prop} {elt iter : Expr} {x : Str} {px pos pos2 : Pos} {scope : Scope} {cl : List (Str × Addr)} {ρf : Rho} (hL : c.env.locals = c.L) (hclos : closureFor scope c.env = pure cl) (hcell : ∀ y ∈ scope.names, y.2 ≠ .cell) (hkind : scope.kind = .function)
    (hnames : ∀ y ∈ scope.names, y.2 = .local → scope.names.lookup y.1 = some .local) (hx : scope.names.lookup x = some .local) (hf : Frees c ρ scope cl ρf) {gx : Heap} {raw : List (Addr × Obj)} {s : Shared} (S : St c ρ ω gx raw s)
    (h : itr c ρ ω iter fun ds ω₁ => ∃ out : List PyData, out.length = ds.length ∧ ds.length ≤ 1000 ∧ (∀ (c' : Cx) (C : Addr) (i : Nat) (d y : PyData), c'.w = c.w → c'.n = c.n → c'.env = compEnvC scope cl C c.env → ds[i]? = some d → out[i]? = some y →
      ev c' (ρf.set x (.dat d)) ω₁ elt fun a ω₂ => a = .dat y ∧ ω₂ = ω₁) ∧ Pd out ω₁)
    (hs : ∀ x, foldedSetIterable iter c.env x = pure x)
    (fin : ∀ gx' s' C D m' (vs : Array Value) nn out ω₁, Pd out ω₁ → Keep gx gx' → St c ρ ω₁ gx' raw s' → Off c ω₁ gx' raw C → Off c ω₁ gx' raw D → s'.heap.get? D = some (PySem.W.listOf vs nn) → D ≠ C → IsAll gx' vs.toList out → s'.heap.Ns C m' →
      compPost (model PP c.w) c.A (fun _ _ => False) use Qc (.ref D) C (.ok .next) s') :
    wpAny (model PP c.w) c.A (comprehension (.ListComp elt [⟨.Name x px, iter, [], 0⟩] scope pos) scope c.env pos2 (newList []) false (eval iter c.env) use) Qc (fun _ _ => False) s := by
  refine wpAny_comprehension_free (use := use) rfl hs hclos hkind hnames (h gx raw s _ S fun I s₂ gx₂ ds ω₂ p k S₂ it => ?_)
  obtain ⟨out, hol, hdl, step, p⟩ := p
  obtain ⟨offI, fp, Pv, Stw, W, hPv, hfp, hst0, hobj⟩ := it
  refine wpAny_newObj_type (wpAny_newFunctionEnv hcell (by intro y hy; simp at hy) (fun h₁ hns₁ hsb₁ => ?_) hkind)
  dsimp only at hns₁ hsb₁ ⊢
  have offD := S₂.offNew
  have upD : Keep s₂.heap (s₂.heap.push { cls := .type "list", dict := none, data := .seq ([] : List Value).toArray }) := fun b o e => Heap.get?_push_of_some _ e
  have offC := (S₂.step (tk := s₂.toks) upD).offNew
  dsimp only at offC
  generalize hH2 : s₂.heap.push { cls := .type "list", dict := none, data := .seq ([] : List Value).toArray } = H2 at hns₁ hsb₁ upD offC ⊢
  have hC : H2.objs.size = s₂.heap.objs.size + 1 := by rw [← hH2, Heap.size_push]
  have hDC : s₂.heap.objs.size ≠ H2.objs.size := by rw [hC]; exact Nat.ne_of_lt (Nat.lt_succ_self _)
  have old : Keep s₂.heap h₁ := fun b o e => hsb₁.extBut b o (by rw [hC]; exact Nat.ne_of_lt (Nat.lt_succ_of_lt (Heap.lt_size e))) (Heap.get?_push_of_some _ (upD b o e))
  have hacc : h₁.get? s₂.heap.objs.size = some (PySem.W.listOf #[] 0) := hsb₁.extBut _ _ hDC (Heap.get?_push_of_some _ (hH2 ▸ Heap.get?_push_size _ rfl))
  have hIlt : I < s₂.heap.objs.size := by
    obtain ⟨o, e, _⟩ := hobj _ _ hst0
    exact Heap.lt_size e
  have hID : I ≠ s₂.heap.objs.size := Nat.ne_of_lt hIlt
  have hIC : I ≠ H2.objs.size := by rw [hC]; exact Nat.ne_of_lt (Nat.lt_succ_of_lt hIlt)
  have hst₁ : Stw 0 h₁ := W.frame _ _ _ hst0 fun b _ o e => old b o e
  generalize s₂.heap.objs.size = D at hacc offD hDC hID hsb₁ hns₁ hIlt hC
  generalize H2.objs.size = C at hns₁ hsb₁ offC hDC hIC hC
  have loop : codeAny (model PP c.w) c.A (.compLoop (.ListComp elt [⟨.Name x px, iter, [], 0⟩] scope pos) 0 (.ref I) (.ref D) (compEnvC scope cl C c.env)) (compPost (model PP c.w) c.A (fun _ _ => False) use Qc (.ref D) C)
      { s₂ with heap := h₁, toks := s₂.toks + ([] : List (Str × Value)).length } := by
    refine codeAny_compLoop_list (fun k s' => ∃ i gx' m' vs n, i ≤ ds.length ∧ k = ds.length + 1 - i ∧ Keep gx₂ gx' ∧ St c ρ ω₂ gx' raw s' ∧ Off c ω₂ gx' raw I ∧ Off c ω₂ gx' raw C ∧ Off c ω₂ gx' raw D ∧
      s'.heap.get? D = some (PySem.W.listOf vs n) ∧ IsAll gx' vs.toList (out.take i) ∧ s'.heap.Ns C m' ∧ Stw i s'.heap) ?_ (ds.length + 1)
      ⟨0, gx₂, _, #[], 0, Nat.zero_le _, rfl, Keep.refl _, S₂.step old, offI, offC, offD, hacc, by simpa using IsAll.nil, hns₁, hst₁⟩
    rintro n s' ⟨i, gx', m', vs, nn, hi, rfl, kg, S', oI, oC, oD, eD, iD, nC, hst⟩
    by_cases hlt : i < ds.length
    · refine W.item i _ _ _ hlt hst fun v h₂ tk₂ hP hst₂ hk₂ => ?_
      have S₃ := S'.but (tk := tk₂) oI hk₂
      obtain ⟨d, hd, iv⟩ := hPv i v hP
      obtain ⟨y, hy⟩ : ∃ y, out[i]? = some y := ⟨_, List.getElem?_eq_getElem (by omega)⟩
      obtain ⟨obI, eI, nc⟩ := hobj _ _ hst₂
      have nC₂ : h₂.Ns C m' := nC.at' fun o e => hk₂ _ o (by simpa using Ne.symm hIC) e
      have eD₂ := hk₂ D _ (by simpa using Ne.symm hID) eD
      refine wpAny_assign_Name (wpAny_storeName_local (lookup_relabel_local hx) nC₂ (fun h₃ hn₃ hs₃ => ?_) (by simp [compEnvC, relabel, hkind]))
      have hs₃' : Heap.SameBut C h₂ h₃ := hs₃
      have S₄ := S₃.but (tk := tk₂ + 1) (h' := h₃) oC fun b o hb e => hs₃'.extBut b o (by simpa using hb) e
      have eI₃ : h₃.get? I = some obI := hs₃'.extBut _ _ hIC eI
      have eD₃ : h₃.get? D = some (PySem.W.listOf vs nn) := hs₃'.extBut _ _ hDC eD₂
      obtain ⟨obC, eC, hoC⟩ := LCg.ns_obj hn₃
      have S₅ := S₄.addRaw (I := D) (oI := PySem.W.listOf vs nn) eD₃ oD
      have S₆ := S₅.addRaw (I := C) (oI := obC) eC ⟨oC.l, oC.g, oC.o, fun q hq => by rcases List.mem_cons.mp hq with rfl | hq; exact hDC; exact oC.r q hq, oC.x⟩
      have S₇ := S₆.addRaw (I := I) (oI := obI) eI₃ ⟨oI.l, oI.g, oI.o, fun q hq => by
        rcases List.mem_cons.mp hq with rfl | hq
        · exact Ne.symm hIC
        · rcases List.mem_cons.mp hq with rfl | hq
          · exact Ne.symm hID
          · exact oI.r q hq, oI.x⟩
      have S₈ : St (compCx c ρ scope cl C hkind oC.l) (ρf.set x (.dat d)) ω₂ gx' _ _ := S₇.inner fun m V z b e => by
        by_cases hz : z = x
        · subst hz
          simp only [Rho.set, if_true] at e
          cases e
          exact ⟨v, .inr (.inr ⟨obC, _, lookup_relabel_local hx, .tail _ (.head _), hoC, by simp⟩), iv.mono kg⟩
        · simp only [Rho.set, if_neg hz] at e
          obtain ⟨f1, f2, f3, f4⟩ := hf z b e
          obtain ⟨u, hu, iu⟩ := V z b f1
          refine ⟨u, ?_, iu⟩
          rcases hu with ⟨_, h2, _⟩ | ⟨c', o, _, h2, h3, h4⟩ | ⟨_, _, h2, _⟩
          · rw [f2] at h2; cases h2
          · exact .inr (.inl ⟨c', o, .inl f3, f4.trans h2, h3, h4⟩)
          · rw [f2] at h2; cases h2
      refine wpAny_mono (step (compCx c ρ scope cl C hkind oC.l) C i d y rfl rfl rfl hd hy gx' _ _ _ S₈ fun yv s₉ gx₉ a ω₉ p₉ k₉ S₉ i₉ => ?_) (fun _ _ x => x) fun _ _ e => e.elim
      obtain ⟨rfl, rfl⟩ := p₉
      obtain ⟨T₁, eI₉, oI₉⟩ := St.dropRaw (S₉.outer hL) (fun q hq => by
        rcases List.mem_cons.mp hq with rfl | hq
        · exact Ne.symm hIC
        · rcases List.mem_cons.mp hq with rfl | hq
          · exact Ne.symm hID
          · exact oI.r q hq) nc hL
      obtain ⟨T₂, eC₉, oC₉⟩ := St.dropRaw T₁ (fun q hq => by rcases List.mem_cons.mp hq with rfl | hq; exact hDC; exact oC.r q hq) (fun w => by obtain ⟨es, ep, hd, _⟩ := hoC; rw [hd]; simp) hL
      obtain ⟨T₃, eD₉, oD₉⟩ := St.dropRaw T₂ oD.r (fun w => by show Data.seq _ _ ≠ _; simp) hL
      have hz : vs.size = i := by
        have := iD.length
        rw [List.length_take, Array.length_toList] at this; omega
      refine append_at eD₉ (fun h₅ hs₅ e₅ => ?_) (by rw [hz, sizeLine_eq]; omega)
      have T₄ := T₃.but (tk := s₉.toks) (h' := h₅) oD₉ fun b o hb e => hs₅.extBut b o (by simpa using hb) e
      have iI : ∀ {ω' : Om}, Off c ω' gx₉ ((C, obC) :: (D, PySem.W.listOf vs nn) :: raw) I → Off c ω' gx₉ raw I := fun f => ⟨f.l, f.g, f.o, fun q hq => f.r q (.tail _ (.tail _ hq)), f.x⟩
      have iC : ∀ {ω' : Om}, Off c ω' gx₉ ((D, PySem.W.listOf vs nn) :: raw) C → Off c ω' gx₉ raw C := fun f => ⟨f.l, f.g, f.o, fun q hq => f.r q (.tail _ hq), f.x⟩
      refine ⟨ds.length + 1 - (i + 1), by omega, i + 1, gx₉, _, vs.push yv, nn + 1, hlt, rfl, kg.trans k₉, T₄, iI oI₉, iC oC₉, oD₉, e₅, ?_, (hoC.ns eC₉).sameBut hs₅ (Ne.symm hDC), ?_⟩
      · rw [List.take_add_one, hy]
        simpa using (iD.mono k₉).append (IsAll.one i₉)
      · refine W.frame _ _ _ hst₂ fun b hb o e => ?_
        have hbD : b ≠ D := by
          rcases hfp b hb with rfl | ⟨o', e'⟩
          · exact hID
          · rintro rfl
            have := oD.x
            rw [kg _ _ e'] at this; cases this
        refine hs₅.extBut _ _ hbD ?_
        rcases hfp b hb with rfl | ⟨o', e'⟩
        · rw [eI] at e; cases e; exact eI₉
        · have z : h₂.get? b = some o' := S₃.sub b o' (kg _ _ e')
          rw [z] at e; cases e
          exact T₃.sub _ _ (k₉ _ _ (kg _ _ e'))
    · obtain rfl : i = ds.length := by omega
      refine W.done _ _ _ hst fun h₂ tk₂ hk₂ => ?_
      rw [← hol, List.take_length] at iD
      exact fin _ _ _ _ _ _ _ _ _ p (k.trans kg) (S'.but (tk := tk₂) oI hk₂) oC oD (hk₂ D _ (by simpa using Ne.symm hID) eD) hDC iD (nC.at' fun o e => hk₂ _ o (by simpa using Ne.symm hIC) e)
  exact codeAny_compStart_list loop (W.self 0 _ _ _ hst₁ loop)
theorem ev_comp {elt iter : Expr} {x : Str} {px pos : Pos} {scope : Scope} {cl : List (Str × Addr)} {ρf : Rho} (hL : c.env.locals = c.L) (hclos : closureFor scope c.env = pure cl) (hcell : ∀ y ∈ scope.names, y.2 ≠ .cell) (hkind : scope.kind = .function)
    (hnames : ∀ y ∈ scope.names, y.2 = .local → scope.names.lookup y.1 = some .local) (hx : scope.names.lookup x = some .local) (hf : Frees c ρ scope cl ρf)
    (h : itr c ρ ω iter fun ds ω₁ => ∃ out : List PyData, out.length = ds.length ∧ ds.length ≤ 1000 ∧ (∀ (c' : Cx) (C : Addr) (i : Nat) (d y : PyData), c'.w = c.w → c'.n = c.n → c'.env = compEnvC scope cl C c.env → ds[i]? = some d → out[i]? = some y →
      ev c' (ρf.set x (.dat d)) ω₁ elt fun a ω₂ => a = .dat y ∧ ω₂ = ω₁) ∧ P (.l out) ω₁)
    (hs : ∀ x, foldedSetIterable iter c.env x = pure x := by first | (intro _; rfl) | (rename Cx.env _ = _ => heX; rw [heX]; intro _; rfl)) : ev c ρ ω (.ListComp elt [⟨.Name x px, iter, [], 0⟩] scope pos) P := by
  intro gx raw s Q S q
  rw [eval_ListComp]
  refine comp_gen (use := none) (Qc := Q) hL hclos hcell hkind hnames hx hf S h hs fun gx' s' C D m' vs nn out ω₁ p kg S' oC oD eD hDC iD nC => ?_
  refine ⟨m', nC, fun h₃ hs₃ => ?_⟩
  have hs₃' : Heap.SameBut C s'.heap h₃ := hs₃
  have S₄ := S'.but (tk := s'.toks) (h' := h₃) oC fun b o hb e => hs₃'.extBut b o (by simpa using hb) e
  obtain ⟨gx₅, k₅, S₅, e₅⟩ := S₄.freezeAt (hs₃'.extBut _ _ hDC eD) oD
  exact q _ _ gx₅ _ _ p (kg.trans k₅) S₅ (Is.list e₅ rfl rfl (iD.mono k₅))
theorem ex_assignComp {R : Out → Prop} {yy : Str} {py spos : Pos} {elt iter : Expr} {x : Str} {px pos : Pos} {scope : Scope} {cl : List (Str × Addr)} {ρf : Rho} (hL : c.env.locals = c.L) (hyy : c.env.kindOf yy = some .local) (hsw : swapsWith (.ListComp elt [⟨.Name x px, iter, [], 0⟩] scope pos) (some (.Name yy py)) spos.line c.env = pure true) (hclos : closureFor scope c.env = pure cl) (hcell : ∀ y ∈ scope.names, y.2 ≠ .cell) (hkind : scope.kind = .function)
    (hnames : ∀ y ∈ scope.names, y.2 = .local → scope.names.lookup y.1 = some .local) (hx : scope.names.lookup x = some .local) (hf : Frees c ρ scope cl ρf)
    (h : itr c ρ ω iter fun ds ω₁ => ∃ out : List PyData, out.length = ds.length ∧ ds.length ≤ 1000 ∧ (∀ (c' : Cx) (C : Addr) (i : Nat) (d y : PyData), c'.w = c.w → c'.n = c.n → c'.env = compEnvC scope cl C c.env → ds[i]? = some d → out[i]? = some y →
      ev c' (ρf.set x (.dat d)) ω₁ elt fun a ω₂ => a = .dat y ∧ ω₂ = ω₁) ∧ R (.next (ρ.set yy (.l out)) ω₁))
    (hs : ∀ x, foldedSetIterable iter c.env x = pure x := by first | (intro _; rfl) | (rename Cx.env _ = _ => heX; rw [heX]; intro _; rfl)) : ex1 c ρ ω (.Assign [.Name yy py] (.ListComp elt [⟨.Name x px, iter, [], 0⟩] scope pos) spos) R := by
  intro gx raw s Q S q
  rw [exec_Assign_Name_used _ _ _ _ hsw]
  refine wpAny_bind (wpAny_standAt (wpAny_bind ?_))
  show wpAny _ c.A (do let _ ← comprehension (.ListComp elt [⟨.Name x px, iter, [], 0⟩] scope pos) scope c.env _ (newList []) false (eval iter c.env) (some (assign (.Name yy py) c.env))) _ _ s
  refine wpAny_bind (wpAny_mono (comp_gen (use := some (assign (.Name yy py) c.env)) (Qc := fun _ s' => Q .next s') hL hclos hcell hkind hnames hx hf S h hs fun gx' s' C D m' vs nn out ω₁ p kg S' oC oD eD hDC iD nC => ?_) (fun _ s' hq => wpAny_pure (wpAny_pure hq)) fun _ _ e => e)
  obtain ⟨obC, eC, hoC⟩ := LCg.ns_obj nC
  have S₄ := S'.addRaw (I := C) (oI := obC) eC oC
  obtain ⟨gx₅, k₅, S₅, e₅⟩ := S₄.freezeAt eD ⟨oD.l, oD.g, oD.o, fun q hq => by rcases List.mem_cons.mp hq with rfl | hq; exact Ne.symm hDC; exact oD.r q hq, oD.x⟩
  show wpAny _ _ (assign (.Name yy py) c.env (.ref D)) _ _ _
  refine wpAny_assign_Name (S₅.store (a := .l out) hL hyy (Is.list e₅ rfl rfl (iD.mono k₅)) fun s₆ S₆ => ?_)
  obtain ⟨T₆, eC₆, oC₆⟩ := St.dropRaw S₆ oC.r (fun w => by obtain ⟨es, ep, hd, _⟩ := hoC; rw [hd]; simp) hL
  refine ⟨m', hoC.ns eC₆, fun h₇ hs₇ => ?_⟩
  have hs₇' : Heap.SameBut C s₆.heap h₇ := hs₇
  exact q _ _ gx₅ _ p (kg.trans k₅) (T₆.but (tk := s₆.toks) (h' := h₇) oC₆ fun b o hb e => hs₇'.extBut b o (by simpa using hb) e)
end

section
variable {c : Cx} {ρ : Rho} {ω : Om} {gx : Heap} {raw : List (Addr × Obj)} {s : Shared}
theorem St.offGe {I : Addr} (S : St c ρ ω gx raw s) (hI : s.heap.objs.size ≤ I) : Off c ω gx raw I := by
  obtain ⟨sm, ⟨m, F, V, V'⟩, ⟨led, N, O⟩, nd, ap, sub, oL, oO, oR, gr, nw⟩ := S
  refine ⟨Nat.ne_of_gt (Nat.lt_of_lt_of_le F.ns.lt hI), ?_, fun p hp => ?_, fun q hq => Nat.ne_of_lt (Nat.lt_of_lt_of_le (Heap.lt_size (N q (List.mem_append_right _ hq)).1) hI), ?_⟩
  · cases q : c.g.get? I with
    | none => rfl
    | some o => exact absurd (Nat.lt_of_lt_of_le (Heap.lt_size (F.keep _ _ q)) hI) (Nat.lt_irrefl _)
  · have : p.1 ∈ led.map (·.1) := by rw [O.keys]; exact List.mem_map_of_mem hp
    obtain ⟨q, hq, e1⟩ := List.mem_map.mp this
    exact e1 ▸ Nat.ne_of_lt (Nat.lt_of_lt_of_le (Heap.lt_size (N q (List.mem_append_left _ hq)).1) hI)
  · cases q : gx.get? I with
    | none => rfl
    | some o => exact absurd (Nat.lt_of_lt_of_le (Heap.lt_size (sub _ _ q)) hI) (Nat.lt_irrefl _)
theorem St.butL {is : List Addr} (S : St c ρ ω gx raw s) (f : ∀ I ∈ is, Off c ω gx raw I) {h' : Heap} {tk : Nat} (k : ∀ b o, b ∉ is → s.heap.get? b = some o → h'.get? b = some o) : St c ρ ω gx raw { s with heap := h', toks := tk } := by
  obtain ⟨⟨h, tk0, rfl⟩, ⟨m, F, V, V'⟩, ⟨led, N, O⟩, nd, ap, sub, oL, oO, oR, gr, nw⟩ := S
  refine ⟨⟨h', tk, rfl⟩, ⟨m, ⟨F.ns.at' fun o e' => k _ o (fun q => (f _ q).l rfl) e', fun b o e' => k b o (fun q => ?_) (F.keep b o e'), F.above⟩, V, V'⟩, ⟨led, fun p hp => ?_, O⟩, nd, ap, fun b o e' => k b o (fun q => ?_) (sub b o e'), oL, oO, oR, gr, nw⟩
  · rw [(f _ q).g] at e'; cases e'
  · have z := N p hp
    refine ⟨k _ _ (fun q => ?_) z.1, z.2⟩
    rcases List.mem_append.mp hp with hp | hp
    · have : p.1 ∈ ω.map (·.1) := by rw [← O.keys]; exact List.mem_map_of_mem hp
      obtain ⟨q', hq, e1⟩ := List.mem_map.mp this
      exact (f _ q).o q' hq e1
    · exact (f _ q).r p hp rfl
  · rw [(f _ q).x] at e'; cases e'
theorem Off.more {I J : Addr} {oJ : Obj} (f : Off c ω gx raw I) (h : J ≠ I) : Off c ω gx ((J, oJ) :: raw) I :=
  ⟨f.l, f.g, f.o, fun q hq => by rcases List.mem_cons.mp hq with rfl | hq; exact h; exact f.r q hq, f.x⟩
theorem Off.less {I J : Addr} {oJ : Obj} (f : Off c ω gx ((J, oJ) :: raw) I) : Off c ω gx raw I := ⟨f.l, f.g, f.o, fun q hq => f.r q (.tail _ hq), f.x⟩
end

section
variable {c : Cx} {ρ : Rho} {ω : Om} {R : Out → Prop}
theorem evs_one {P : Ab → Om → Prop} {e : Expr} {pos : Pos} (h : ev c ρ ω e P) (he : starEach [e] c.env = (false, eval e c.env) :: starEach [] c.env) : evs c ρ ω pos [e] fun as ω' => ∃ a, as = [a] ∧ P a ω' :=
  evs_cons (h.mono fun a ω' p => evs_nil ⟨a, rfl, p⟩) he
set_option maxHeartbeats 1000000 in
theorem ex_forEnum {xi xc : Str} {pk pv pt p1 p2 pos : Pos} {kk : Nat} {e : Expr} {body : List Stmt} (hL : c.env.locals = c.L) (hxi : c.env.kindOf xi = some .local) (hxc : c.env.kindOf xc = some .local)
    (hke : c.env.kindOf (Str.ofString "enumerate") = some .globalImplicit)
    (h : ev c ρ ω e fun a ω₁ => ∃ ds, a = .l ds ∧ ∃ Inv : Nat → Rho → Om → Prop, Inv 0 ρ ω₁ ∧
      (∀ i d ρ' ω', ds[i]? = some d → Inv i ρ' ω' → ex c ((ρ'.set xi (.i i)).set xc (.dat d)) ω' body fun o => match o with | .next ρ'' ω'' => Inv (i + 1) ρ'' ω'' | .ret a ω'' => R (.ret a ω'')) ∧ ∀ ρ' ω', Inv ds.length ρ' ω' → R (.next ρ' ω'))
    (hs : ∀ x, foldedSetIterable (.Call (.Name (Str.ofString "enumerate") p1) [e] [] p2) c.env x = pure x := by first | (intro _; rfl) | (rename Cx.env _ = _ => heX; rw [heX]; intro _; rfl))
    (hc : eval (.Call (.Name (Str.ofString "enumerate") p1) [e] [] p2) c.env = (do let g ← eval (.Name (Str.ofString "enumerate") p1) c.env; callWith p2 g [] (backTo p2 (starEach [e] c.env)) (backToKw p2 (keywordEach [] c.env))) := by first | rfl | (rename Cx.env _ = _ => heX; rw [heX]; rfl))
    (he : starEach [e] c.env = (false, eval e c.env) :: starEach [] c.env := by first | rfl | (rename Cx.env _ = _ => heX; rw [heX]; rfl)) :
    ex1 c ρ ω (.For (.Tuple [.Name xi pk, .Name xc pv] kk pt) (.Call (.Name (Str.ofString "enumerate") p1) [e] [] p2) body [] pos) R := by
  intro gx raw s Q S q
  refine wpAny_For ?_ hs
  refine Call_ (built_val S hke (by rfl) (v := .type "enumerate") (by decide +kernel) ?_) hc
  refine PyProof.Rows.callWith_type1 (evs_one h he gx raw s _ S fun vs s₁ gx₁ as ω₁ p k S₁ ia => ?_) he rfl
  obtain ⟨a, rfl, ds, rfl, Inv, h0, step, fin⟩ := p
  obtain ⟨v, rfl, iv⟩ := ia.one
  obtain ⟨r, o, vs, z, rfl, e1, e2, e3, e4⟩ := Is.listE iv
  have hl : s₁.heap.IsList r vs := ⟨o, S₁.sub _ _ e1, e2, z, e3⟩
  have hz : vs.size = ds.length := by have := e4.length; simpa using this
  have hlt : r < s₁.heap.objs.size := Heap.lt_size (S₁.sub _ _ e1)
  refine call_enumerate_list hl fun h₀ hE hI hsz up => ?_
  have oE : Off c ω₁ gx₁ raw (s₁.heap.objs.size + 1) := S₁.offGe (Nat.le_succ _)
  have oI : Off c ω₁ gx₁ raw s₁.heap.objs.size := S₁.offGe (Nat.le_refl _)
  have S₂ := S₁.step (tk := s₁.toks) (h' := h₀) up
  refine wpAny_pyIter_enum hE ?_
  have hne : s₁.heap.objs.size + 1 ≠ s₁.heap.objs.size := Nat.succ_ne_self _
  have hrE : r ≠ s₁.heap.objs.size + 1 := Nat.ne_of_lt (Nat.lt_succ_of_lt hlt)
  have hrI : r ≠ s₁.heap.objs.size := Nat.ne_of_lt hlt
  generalize s₁.heap.objs.size + 1 = E at hE oE hne hrE ⊢
  generalize s₁.heap.objs.size = T at hE hI oI hne hrI ⊢
  have W := WalksT.enumerate (prog := PP) (w := c.w) c.hh E T r hne hrE hrI vs
  have hst0 : (∃ old, IsEnum h₀ E T (0 : Nat) old) ∧ h₀.IsListIter T r (0 : Nat) ∧ h₀.IsList r vs := ⟨⟨_, hE⟩, hI, ⟨o, up _ _ (S₁.sub _ _ e1), e2, z, e3⟩⟩
  refine codeAny_forLoop_any (fun k s' => ∃ i gx' ρ' ω', i ≤ ds.length ∧ k = ds.length + 1 - i ∧ Keep gx₁ gx' ∧ Inv i ρ' ω' ∧ St c ρ' ω' gx' raw s' ∧ Off c ω' gx' raw E ∧ Off c ω' gx' raw T ∧
    ((∃ old, IsEnum s'.heap E T (i : Nat) old) ∧ s'.heap.IsListIter T r (i : Nat) ∧ s'.heap.IsList r vs)) ?_ (ds.length + 1)
    ⟨0, gx₁, ρ, ω₁, Nat.zero_le _, rfl, Keep.refl _, h0, S₂, oE, oI, hst0⟩
  rintro n s' ⟨i, gx', ρ', ω', hi, rfl, kg, hInv, S', oE', oI', hst⟩
  have offs : ∀ J ∈ [E, T], Off c ω' gx' raw J := fun J hJ => by
    rcases List.mem_cons.mp hJ with rfl | hJ
    · exact oE'
    · rw [List.mem_singleton.mp hJ]; exact oI'
  by_cases hil : i < ds.length
  · refine W.item i _ _ _ (by omega) hst fun X vals h₁ tk₁ hP _ hT hMid hk₁ => ?_
    obtain ⟨t, x, hx, rfl⟩ := hP
    refine W.go _ kk pt i X _ _ _ hMid fun h₂ hst₂ hk₂ => ?_
    have ht₂ : h₂.IsTuple X #[.int i t, x] := hT.at fun o e => hk₂ X o (W.apart i X h₁ hMid) e
    have S₃ := S'.butL (tk := tk₁) (h' := h₂) offs fun b o hb e => hk₂ b o hb (hk₁ b o hb e)
    refine wpAny_assign_Tuple c.hh ht₂ rfl rfl fun h₃ hx₃ => ?_
    replace hx₃ : Heap.ExtBut h₂.objs.size h₂ h₃ := hx₃
    have up₃ : Keep h₂ h₃ := fun b o x => hx₃ b o (Nat.ne_of_lt (Heap.lt_size x)) x
    have S₄ := S₃.step (tk := tk₁) (h' := h₃) up₃
    have hst₃ := W.frame _ _ _ hst₂ fun b _ o e => up₃ b o e
    obtain ⟨⟨old, hE₃⟩, hI₃, hL₃⟩ := hst₃
    obtain ⟨oi, ei, hi2, hi3⟩ := hI₃
    obtain ⟨d, hd, iv'⟩ := e4.getV (i := i) (v := x) (by simpa using hx)
    obtain ⟨oe, heq⟩ : ∃ oe, h₃.get? E = some oe := ⟨_, hE₃⟩
    have hcl : ∀ v, oe.data ≠ .cell v := by
      have hE₃' := hE₃
      unfold IsEnum at hE₃'
      rw [heq] at hE₃'
      cases hE₃'
      intro v e; cases e
    have S₅ := S₄.addRaw heq oE'
    have S₆ := S₅.addRaw ei (oI'.more hne)
    show wpAny _ _ (assignInOrder [assign (.Name xi pk) c.env, assign (.Name xc pv) c.env] [.int i t, x]) _ _ _
    refine assignInOrder_cons (wpAny_assign_Name (S₆.store (a := .i i) hL hxi (show Is gx' _ _ from Is.int _ _) fun s₇ S₇ => ?_))
    refine assignInOrder_cons (wpAny_assign_Name (S₇.store (a := .dat d) hL hxc (iv'.mono kg) fun s₈ S₈ => assignInOrder_nil ?_))
    refine wpAny_mono (step i d ρ' ω' hd hInv gx' _ s₈ _ S₈ fun f s₉ gx₉ out p₉ k₉ i₉ => ?_) (fun _ _ x => x) fun _ _ e => e.elim
    have lst : ∀ {ρ'' ω''}, St c ρ'' ω'' gx₉ ((T, oi) :: (E, oe) :: raw) s₉ → St c ρ'' ω'' gx₉ raw s₉ ∧ Off c ω'' gx₉ raw E ∧ Off c ω'' gx₉ raw T ∧ ((∃ old, IsEnum s₉.heap E T ((i + 1 : Nat) : Int) old) ∧ s₉.heap.IsListIter T r ((i + 1 : Nat)) ∧ s₉.heap.IsList r vs) := fun {ρ'' ω''} Sx => by
      obtain ⟨T₁, x1, f1⟩ := St.dropRaw Sx (oI'.more hne).r (fun v => by rw [hi3]; simp) hL
      obtain ⟨T₂, x2, f2⟩ := St.dropRaw T₁ oE'.r hcl hL
      exact ⟨T₂, f2, f1.less, ⟨⟨old, x2.trans (heq.symm.trans hE₃)⟩, ⟨oi, x1, hi2, hi3⟩, ⟨o, T₂.sub _ _ (k₉ _ _ (kg _ _ e1)), e2, z, e3⟩⟩⟩
    cases out with
    | next ρ'' ω'' =>
      cases f with
      | next =>
        obtain ⟨A1, A2, A3, A4⟩ := lst i₉
        exact ⟨ds.length + 1 - (i + 1), by omega, i + 1, gx₉, ρ'', ω'', hil, rfl, kg.trans k₉, p₉, A1, A2, A3, A4⟩
      | _ => exact i₉.elim
    | ret a ω'' =>
      cases f with
      | ret v =>
        obtain ⟨j, ρ₅, Sx⟩ := i₉
        exact q _ _ gx₉ _ p₉ ((k.trans kg).trans k₉) ⟨j, ρ₅, (lst Sx).1⟩
      | _ => exact i₉.elim
  · obtain rfl : i = ds.length := by omega
    refine W.done _ _ _ (by rw [hz]; exact hst) fun h₁ tk₁ hk₁ => wpAny_execs_nil ?_
    exact q _ _ gx' _ (fin _ _ hInv) (k.trans kg) (S'.butL offs hk₁)
end

section
variable {c : Cx} {ρ : Rho} {ω : Om} {P : Ab → Om → Prop}
set_option maxHeartbeats 1000000 in
theorem ev_compEnum {elt e : Expr} {xi xc : Str} {pk pv pt p1 p2 pos : Pos} {kk : Nat} {scope : Scope} {cl : List (Str × Addr)} (hL : c.env.locals = c.L) (hclos : closureFor scope c.env = pure cl) (hcell : ∀ y ∈ scope.names, y.2 ≠ .cell) (hkind : scope.kind = .function)
    (hnames : ∀ y ∈ scope.names, y.2 = .local → scope.names.lookup y.1 = some .local) (hxi : scope.names.lookup xi = some .local) (hxc : scope.names.lookup xc = some .local)
    (hke : c.env.kindOf (Str.ofString "enumerate") = some .globalImplicit)
    (h : ev c ρ ω e fun a ω₁ => ∃ ds, a = .l ds ∧ ∃ out : List PyData, out.length = ds.length ∧ ds.length ≤ 1000 ∧ (∀ (c' : Cx) (C : Addr) (i : Nat) (d y : PyData), c'.w = c.w → c'.n = c.n → c'.env = compEnvC scope cl C c.env → ds[i]? = some d → out[i]? = some y →
      ev c' ((Rho.none.set xi (.i i)).set xc (.dat d)) ω₁ elt fun a ω₂ => a = .dat y ∧ ω₂ = ω₁) ∧ P (.l out) ω₁)
    (hs : ∀ x, foldedSetIterable (.Call (.Name (Str.ofString "enumerate") p1) [e] [] p2) c.env x = pure x := by first | (intro _; rfl) | (rename Cx.env _ = _ => heX; rw [heX]; intro _; rfl))
    (hc : eval (.Call (.Name (Str.ofString "enumerate") p1) [e] [] p2) c.env = (do let g ← eval (.Name (Str.ofString "enumerate") p1) c.env; callWith p2 g [] (backTo p2 (starEach [e] c.env)) (backToKw p2 (keywordEach [] c.env))) := by first | rfl | (rename Cx.env _ = _ => heX; rw [heX]; rfl))
    (he : starEach [e] c.env = (false, eval e c.env) :: starEach [] c.env := by first | rfl | (rename Cx.env _ = _ => heX; rw [heX]; rfl)) :
    ev c ρ ω (.ListComp elt [⟨.Tuple [.Name xi pk, .Name xc pv] kk pt, .Call (.Name (Str.ofString "enumerate") p1) [e] [] p2, [], 0⟩] scope pos) P := by
  intro gx raw s Q S q
  rw [eval_ListComp]
  refine wpAny_comprehension_free (use := none) rfl hs hclos hkind hnames ?_
  refine Call_ (built_val S hke (by rfl) (v := .type "enumerate") (by decide +kernel) ?_) hc
  refine PyProof.Rows.callWith_type1 (evs_one h he gx raw s _ S fun vs s₁ gx₁ as ω₂ p k S₁ ia => ?_) he rfl
  obtain ⟨a, rfl, ds, rfl, out, hol, hdl, step, p⟩ := p
  obtain ⟨v, rfl, iv⟩ := ia.one
  obtain ⟨r, o, vs₀, z, rfl, e1, e2, e3, e4⟩ := Is.listE iv
  have hl : s₁.heap.IsList r vs₀ := ⟨o, S₁.sub _ _ e1, e2, z, e3⟩
  have hz₀ : vs₀.size = ds.length := by have := e4.length; simpa using this
  have hlt : r < s₁.heap.objs.size := Heap.lt_size (S₁.sub _ _ e1)
  refine call_enumerate_list hl fun h₀ hE hI hsz up => ?_
  have S₂ := S₁.step (tk := s₁.toks) (h' := h₀) up
  refine wpAny_pyIter_enum hE ?_
  have offE : Off c ω₂ gx₁ raw (s₁.heap.objs.size + 1) := S₁.offGe (Nat.le_succ _)
  have offI : Off c ω₂ gx₁ raw s₁.heap.objs.size := S₁.offGe (Nat.le_refl _)
  have hne : s₁.heap.objs.size + 1 ≠ s₁.heap.objs.size := Nat.succ_ne_self _
  have hrE : r ≠ s₁.heap.objs.size + 1 := Nat.ne_of_lt (Nat.lt_succ_of_lt hlt)
  have hrI : r ≠ s₁.heap.objs.size := Nat.ne_of_lt hlt
  have hElt : s₁.heap.objs.size + 1 < h₀.objs.size := by rw [hsz]; omega
  have hTlt : s₁.heap.objs.size < h₀.objs.size := by rw [hsz]; omega
  generalize s₁.heap.objs.size + 1 = E at hE offE hne hrE hElt ⊢
  generalize s₁.heap.objs.size = T at hE hI offI hne hrI hTlt ⊢
  have W := WalksT.enumerate (prog := PP) (w := c.w) c.hh E T r hne hrE hrI vs₀
  have hst0 : (∃ old, IsEnum h₀ E T (0 : Nat) old) ∧ h₀.IsListIter T r (0 : Nat) ∧ h₀.IsList r vs₀ := ⟨⟨_, hE⟩, hI, ⟨o, up _ _ (S₁.sub _ _ e1), e2, z, e3⟩⟩
  refine wpAny_newObj_type (wpAny_newFunctionEnv hcell (by intro y hy; simp at hy) (fun h₁ hns₁ hsb₁ => ?_) hkind)
  dsimp only at hns₁ hsb₁ ⊢
  have offD := S₂.offNew
  have upD : Keep h₀ (h₀.push { cls := .type "list", dict := none, data := .seq ([] : List Value).toArray }) := fun b o e => Heap.get?_push_of_some _ e
  have offC := (S₂.step (tk := s₁.toks) upD).offNew
  dsimp only at offC offD
  generalize hH2 : h₀.push { cls := .type "list", dict := none, data := .seq ([] : List Value).toArray } = H2 at hns₁ hsb₁ upD offC ⊢
  have hC : H2.objs.size = h₀.objs.size + 1 := by rw [← hH2, Heap.size_push]
  have hDC : h₀.objs.size ≠ H2.objs.size := by rw [hC]; exact Nat.ne_of_lt (Nat.lt_succ_self _)
  have old : Keep h₀ h₁ := fun b o e => hsb₁.extBut b o (by rw [hC]; exact Nat.ne_of_lt (Nat.lt_succ_of_lt (Heap.lt_size e))) (Heap.get?_push_of_some _ (upD b o e))
  have hacc : h₁.get? h₀.objs.size = some (PySem.W.listOf #[] 0) := hsb₁.extBut _ _ hDC (Heap.get?_push_of_some _ (hH2 ▸ Heap.get?_push_size _ rfl))
  have hED : E ≠ h₀.objs.size := Nat.ne_of_lt hElt
  have hEC : E ≠ H2.objs.size := by rw [hC]; exact Nat.ne_of_lt (Nat.lt_succ_of_lt hElt)
  have hTD : T ≠ h₀.objs.size := Nat.ne_of_lt hTlt
  have hTC : T ≠ H2.objs.size := by rw [hC]; exact Nat.ne_of_lt (Nat.lt_succ_of_lt hTlt)
  have hst₁ := W.frame _ _ _ hst0 fun b _ o e => old b o e
  generalize h₀.objs.size = D at hacc offD hDC hED hTD hsb₁ hns₁ hElt hTlt hC
  generalize H2.objs.size = C at hns₁ hsb₁ offC hDC hEC hTC hC
  have loop : codeAny (model PP c.w) c.A (.compLoop (.ListComp elt [⟨.Tuple [.Name xi pk, .Name xc pv] kk pt, .Call (.Name (Str.ofString "enumerate") p1) [e] [] p2, [], 0⟩] scope pos) 0 (.ref E) (.ref D) (compEnvC scope cl C c.env)) (compPost (model PP c.w) c.A (fun _ _ => False) none Q (.ref D) C)
      { s₁ with heap := h₁, toks := s₁.toks + ([] : List (Str × Value)).length } := by
    refine kcp_loop (fun k s' => ∃ i gx' m' vs n, i ≤ ds.length ∧ k = ds.length + 1 - i ∧ Keep gx₁ gx' ∧ St c ρ ω₂ gx' raw s' ∧ Off c ω₂ gx' raw E ∧ Off c ω₂ gx' raw T ∧ Off c ω₂ gx' raw C ∧ Off c ω₂ gx' raw D ∧
      s'.heap.get? D = some (PySem.W.listOf vs n) ∧ IsAll gx' vs.toList (out.take i) ∧ s'.heap.Ns C m' ∧ ((∃ old, IsEnum s'.heap E T (i : Nat) old) ∧ s'.heap.IsListIter T r (i : Nat) ∧ s'.heap.IsList r vs₀)) ?_ (ds.length + 1)
      ⟨0, gx₁, _, #[], 0, Nat.zero_le _, rfl, Keep.refl _, S₁.step (fun b o e => old _ _ (up b o e)), offE, offI, offC, offD, hacc, by simpa using IsAll.nil, hns₁, hst₁⟩
    rintro n s' ⟨i, gx', m', vs, nn, hi, rfl, kg, S', oE, oI, oC, oD, eD, iD, nC, hst⟩
    have offs : ∀ J ∈ [E, T], Off c ω₂ gx' raw J := fun J hJ => by
      rcases List.mem_cons.mp hJ with rfl | hJ
      · exact oE
      · rw [List.mem_singleton.mp hJ]; exact oI
    have hCn : C ∉ [E, T] := by simp only [List.mem_cons, List.not_mem_nil, or_false, not_or]; exact ⟨Ne.symm hEC, Ne.symm hTC⟩
    have hDn : D ∉ [E, T] := by simp only [List.mem_cons, List.not_mem_nil, or_false, not_or]; exact ⟨Ne.symm hED, Ne.symm hTD⟩
    by_cases hlt : i < ds.length
    · refine W.item i _ _ _ (by omega) hst fun X vals h₂ tk₂ hP _ hT hMid hk₂ => ?_
      obtain ⟨t, x, hx, rfl⟩ := hP
      refine W.go _ kk pt i X _ _ _ hMid fun h₂' hst₂ hk₂' => ?_
      have ht₂ : h₂'.IsTuple X #[.int i t, x] := hT.at fun o e => hk₂' X o (W.apart i X h₂ hMid) e
      have kk2 : ∀ b o, b ∉ [E, T] → s'.heap.get? b = some o → h₂'.get? b = some o := fun b o hb e => hk₂' b o hb (hk₂ b o hb e)
      have S₃ := S'.butL (tk := tk₂) (h' := h₂') offs kk2
      obtain ⟨d, hd, iv'⟩ := e4.getV (i := i) (v := x) (by simpa using hx)
      obtain ⟨y, hy⟩ : ∃ y, out[i]? = some y := ⟨_, List.getElem?_eq_getElem (by omega)⟩
      have nC₂ : h₂'.Ns C m' := nC.at' fun o e => kk2 _ o hCn e
      have eD₂ := kk2 D _ hDn eD
      refine kcp_assign (env := compEnvC scope cl C c.env) c.hh ht₂ (lookup_relabel_local hxi) (lookup_relabel_local hxc) (by simp [compEnvC, relabel, hkind]) nC₂ fun h₃ tk₃ hn₃ hs₃ => ?_
      have hs₃' : ∀ b o, b ≠ C → h₂'.get? b = some o → h₃.get? b = some o := hs₃
      have S₄ := S₃.but (tk := tk₃) (h' := h₃) oC fun b o hb e => hs₃' b o (by simpa using hb) e
      obtain ⟨⟨old, hE₃⟩, hI₃, hL₃⟩ := hst₂
      obtain ⟨oi, ei, hi2, hi3⟩ := hI₃
      have hE₄ : IsEnum h₃ E T ((i + 1 : Nat) : Int) old := hs₃' _ _ hEC hE₃
      have ei₄ : h₃.get? T = some oi := hs₃' _ _ hTC ei
      obtain ⟨oe, heq⟩ : ∃ oe, h₃.get? E = some oe := ⟨_, hE₄⟩
      have hcl : ∀ v, oe.data ≠ .cell v := by
        have hE₃' := hE₄
        unfold IsEnum at hE₃'
        rw [heq] at hE₃'
        cases hE₃'
        intro v e; cases e
      have eD₃ : h₃.get? D = some (PySem.W.listOf vs nn) := hs₃' _ _ hDC eD₂
      obtain ⟨obC, eC, hoC⟩ := LCg.ns_obj hn₃
      have S₅ := S₄.addRaw (I := D) (oI := PySem.W.listOf vs nn) eD₃ oD
      have oC5 : Off c ω₂ gx' ((D, PySem.W.listOf vs nn) :: raw) C := oC.more hDC
      have S₆ := S₅.addRaw (I := C) (oI := obC) eC oC5
      have oE6 : Off c ω₂ gx' ((C, obC) :: (D, PySem.W.listOf vs nn) :: raw) E := (oE.more (Ne.symm hED)).more (Ne.symm hEC)
      have S₆' := S₆.addRaw heq oE6
      have oI6 : Off c ω₂ gx' ((E, oe) :: (C, obC) :: (D, PySem.W.listOf vs nn) :: raw) T := ((oI.more (Ne.symm hTD)).more (Ne.symm hTC)).more hne
      have S₇ := S₆'.addRaw ei₄ oI6
      have S₈ : St (compCx c ρ scope cl C hkind oC.l) ((Rho.none.set xi (.i i)).set xc (.dat d)) ω₂ gx' _ _ := S₇.inner fun m V z b e => by
        by_cases hz : z = xc
        · subst hz
          simp only [Rho.set, if_true] at e
          cases e
          exact ⟨x, .inr (.inr ⟨obC, _, lookup_relabel_local hxc, .tail _ (.tail _ (.head _)), hoC, by simp⟩), iv'.mono kg⟩
        · by_cases hz2 : z = xi
          · subst hz2
            simp only [Rho.set, if_neg hz, if_true] at e
            cases e
            exact ⟨.int i t, .inr (.inr ⟨obC, _, lookup_relabel_local hxi, .tail _ (.tail _ (.head _)), hoC, by simp [hz]⟩), Is.int _ _⟩
          · simp [Rho.set, if_neg hz, if_neg hz2, Rho.none] at e
      refine wpAny_mono (step (compCx c ρ scope cl C hkind oC.l) C i d y rfl rfl rfl hd hy gx' _ _ _ S₈ fun yv s₉ gx₉ a ω₉ p₉ k₉ S₉ i₉ => ?_) (fun _ _ x => x) fun _ _ e => e.elim
      obtain ⟨rfl, rfl⟩ := p₉
      obtain ⟨T₀, eI₉, oI₉⟩ := St.dropRaw (S₉.outer hL) oI6.r (fun v => by rw [hi3]; simp) hL
      obtain ⟨T₁, eE₉, oE₉⟩ := St.dropRaw T₀ oE6.r hcl hL
      obtain ⟨T₂, eC₉, oC₉⟩ := St.dropRaw T₁ oC5.r (fun w => by obtain ⟨es, ep, hd, _⟩ := hoC; rw [hd]; simp) hL
      obtain ⟨T₃, eD₉, oD₉⟩ := St.dropRaw T₂ oD.r (fun w => by show Data.seq _ _ ≠ _; simp) hL
      have hz : vs.size = i := by
        have := iD.length
        rw [List.length_take, Array.length_toList] at this; omega
      refine append_at eD₉ (fun h₅ hs₅ e₅ => ?_) (by rw [hz, sizeLine_eq]; omega)
      have T₄ := T₃.but (tk := s₉.toks) (h' := h₅) oD₉ fun b o hb e => hs₅.extBut b o (by simpa using hb) e
      refine ⟨ds.length + 1 - (i + 1), by omega, i + 1, gx₉, _, vs.push yv, nn + 1, hlt, rfl, kg.trans k₉, T₄, oE₉.less.less, oI₉.less.less.less, oC₉.less, oD₉, e₅, ?_, (hoC.ns eC₉).sameBut hs₅ (Ne.symm hDC), ?_⟩
      · rw [List.take_add_one, hy]
        simpa using (iD.mono k₉).append (IsAll.one i₉)
      · exact ⟨⟨old, hs₅.extBut _ _ hED (eE₉.trans (heq.symm.trans hE₄))⟩, ⟨oi, hs₅.extBut _ _ hTD eI₉, hi2, hi3⟩, ⟨o, T₄.sub _ _ (k₉ _ _ (kg _ _ e1)), e2, z, e3⟩⟩
    · obtain rfl : i = ds.length := by omega
      refine W.done _ _ _ (by rw [hz₀]; exact hst) fun h₂ tk₂ hk₂ => ?_
      refine ⟨m', nC.at' fun o e => hk₂ _ o hCn e, fun h₃ hs₃ => ?_⟩
      have S₃ := S'.butL (tk := tk₂) offs hk₂
      have hs₃' : Heap.SameBut C h₂ h₃ := hs₃
      have S₄ := S₃.but (tk := tk₂) (h' := h₃) oC fun b o hb e => hs₃'.extBut b o (by simpa using hb) e
      have eD₃ : h₃.get? D = some (PySem.W.listOf vs nn) := hs₃'.extBut _ _ hDC (hk₂ D _ hDn eD)
      obtain ⟨gx₅, k₅, S₅, e₅⟩ := S₄.freezeAt eD₃ oD
      refine q _ _ gx₅ _ _ p ((k.trans kg).trans k₅) S₅ (Is.list e₅ rfl rfl ?_)
      rw [← hol, List.take_length] at iD
      exact iD.mono k₅
  exact codeAny_compStart_list loop (W.self 0 _ _ _ hst₁ loop)
end

theorem cellsGet {cm : Str → Option Value} {x : Str} {c : Addr} : ∀ {cs : List (Str × Addr)} {cells : List (Addr × Obj)}, CellsAre cm cs cells → cs.lookup x = some c → ∃ o, (c, o) ∈ cells ∧ o.data = .cell (cm x)
  | [], _, _, e => by cases e
  | (n, c') :: cs, _, h, e => by
    cases h with
    | cons h r =>
      by_cases hn : x = n
      · subst hn
        simp only [List.lookup, beq_self_eq_true] at e
        cases e
        exact ⟨_, .head _, h⟩
      · have : (x == n) = false := by simpa using hn
        simp only [List.lookup, this] at e
        obtain ⟨o, hm, hd⟩ := cellsGet r e
        exact ⟨o, .tail _ hm, hd⟩

/-- what the body has to show, whoever calls: a def with cells -/
def BodyC (w : World) (n : Nat) (qual : Str) (scope : Scope) (f : Addr) (cdv : Value) (body : List Stmt) (ρ₀ : Rho) (ω₀ : Om) (P : Ab → Om → Prop) : Prop :=
  ∀ c' : Cx, c'.w = w → c'.n = n → c'.env = envOfC qual scope c'.L f cdv → ex c' ρ₀ ω₀ body fun o => ∃ a ω', o = .ret a ω' ∧ P a ω'

theorem call_cells2 {c : Cx} {ρ : Rho} {ω₀ ω₁ : Om} {f : Addr} {P : Ab → Om → Prop} {name qual : Str} {params : Arguments} {body : List Stmt} {scope : Scope} {dV kV doc pm cdv ct oc : Value} {an od : Option Addr} {osl : Array (Option Value)}
    {x y : Str} {a b : Ab}
    (ho : FK.lookup f = some ⟨oc, od, .func (fnOf name qual params body scope dV kV doc pm an cdv ct), osl⟩) (hcd : cdQ cdv = some qual)
    (hbind : ∀ u v, bindArgs (fnOf name qual params body scope dV kV doc pm an cdv ct) ⟨[u, v], []⟩ = pure [(x, u), (y, v)])
    (hx : scope.names.lookup x = some .local ∨ (scope.names.lookup x = some .cell ∧ ∀ n, ((cellsFrom n scope.names []).lookup x).isSome = true))
    (hy : scope.names.lookup y = some .local ∨ (scope.names.lookup y = some .cell ∧ ∀ n, ((cellsFrom n scope.names []).lookup y).isSome = true))
    (hxy : x ≠ y) (hn : 1 ≤ c.n) (hnd : ((cellsFrom 0 scope.names []).map (·.1)).Nodup)
    (hco : scope.isCoroutine = false) (hgen : scope.isGenerator = false) (hk : scope.kind = .function)
    (hbody : BodyC c.w (c.n - 1) qual scope f cdv body ((Rho.none.set x a).set y b) ω₀ fun a ω' => P a (ω' ++ ω₁)) : callT c ρ (ω₀ ++ ω₁) (.ref f) [a, b] P := by
  intro gx raw s Q vs S ia q
  obtain ⟨u, v, rfl, iu, iv⟩ := ia.two
  obtain ⟨m, F, V, V'⟩ := S.fr
  obtain ⟨led, N, O⟩ := S.nw
  obtain ⟨led₀, led₁, rfl, O₀, O₁⟩ := O.appendE
  obtain ⟨FG, BG, st, lv⟩ := groundX (R := fun _ _ => True) c.below F N c.frames c.ff c.fk
  refine wpAny_call (codeAny_call_function (fd := fnX name qual params body scope [] dV kV doc pm an cdv ct) (body := body) (by have := c.depth; omega) (S.kin.fk _ _ ho) rfl hco hgen rfl (S.kin.code hcd) (BindsTo.of_eq (hbind u v) _ _ _ _ ?_))
  refine wpAny_newFunctionEnv_cells hk (fun z hz => ?_) fun env' he s' xx => ?_
  · simp only [List.mem_cons, List.not_mem_nil, or_false] at hz
    rcases hz with rfl | rfl
    · exact hx.imp id fun h => ⟨h.1, h.2 _⟩
    · exact hy.imp id fun h => ⟨h.1, h.2 _⟩
  subst he
  refine ⟨(c.top.nolimit.keeps F.keep).keeps xx.toInCall.keep, codeAny_func ?_⟩
  obtain ⟨h₁, tk, rfl, _⟩ := xx.done
  have hk₁ := xx.toInCall.keep
  obtain ⟨cells, NC, Y⟩ := Cl.news (h₀ := s.heap) (Nat.le_refl _) fun n c hm => ⟨xx.cell n c (lookup_of_mem_nodup (cellsFrom_names scope.names 0 (s.heap.objs.size + 1) [] [] rfl ▸ hnd) hm), xx.above n c hm⟩
  have ff : (envOfC qual scope s.heap.objs.size f cdv).frame = some s.heap.objs.size := rfl
  have ek : (envOfC qual scope s.heap.objs.size f cdv).scope.kind = .function := hk
  let c' := callee c (c.n - 1) s gx ((led₀ ++ led₁ ++ raw).map (·.1)) (envOfC qual scope s.heap.objs.size f cdv) s.heap.objs.size (by omega) ff ek rfl rfl BG st S.grow
  have sz := S.offNew
  have oldlt : ∀ p ∈ led₀ ++ led₁ ++ raw, ∀ r ∈ cells, p.1 ≠ r.1 := fun p hp r hr e => by
    have z := (NC r hr).2.2
    rw [← e, (N p hp).1] at z; cases z
  have S1 : St c' ((Rho.none.set x a).set y b) ω₀ gx (cells ++ (led₁ ++ raw)) { s with heap := h₁, toks := tk } := by
    have ndS := S.nd
    rw [List.map_append] at ndS
    have hnd := List.nodup_append.mp ndS
    have keys1 : ∀ q ∈ led₁, ∃ p ∈ ω₁, p.1 = q.1 := fun p hp => by
      have : p.1 ∈ ω₁.map (·.1) := by rw [← O₁.keys]; exact List.mem_map_of_mem hp
      obtain ⟨q, hq, e⟩ := List.mem_map.mp this
      exact ⟨q, hq, e⟩
    have keys0 : ∀ q ∈ ω₀, ∃ p ∈ led₀, p.1 = q.1 := fun p hp => by
      have : p.1 ∈ led₀.map (·.1) := by rw [O₀.keys]; exact List.mem_map_of_mem hp
      obtain ⟨q, hq, e⟩ := List.mem_map.mp this
      exact ⟨q, hq, e⟩
    refine ⟨⟨h₁, _, rfl⟩, ⟨_, ⟨xx.toInCall.ns, fun b o e => hk₁ b o (of_hideAll _ e), Nat.le_of_eq (hideAll_size _ _)⟩, fun z d e => ?_, Vars.none rfl⟩, ⟨led₀, fun p hp => ?_, O₀⟩, hnd.1, fun p hp q hq => ?_, fun b o e => hk₁ _ _ (S.sub b o e), sz.x, fun p hp => S.offO p (by simp [hp]), fun q hq => ?_, Keep.refl _, fun b o e => .inl e⟩
    · have yx : y ≠ x := Ne.symm hxy
      have one : ∀ (z : Str) (t : Value), (scope.names.lookup z = some .local ∨ (scope.names.lookup z = some .cell ∧ ∀ n, ((cellsFrom n scope.names []).lookup z).isSome = true)) → (z = x ∧ t = u ∨ z = y ∧ t = v) →
          Var (envOfC qual scope s.heap.objs.size f cdv) s.heap.objs.size (bindL (envOfC qual scope s.heap.objs.size f cdv).kindOf [(x, u), (y, v)] fun _ => none) (cells ++ (led₁ ++ raw)) z t := fun z t hz he => by
        have kx : (envOfC qual scope s.heap.objs.size f cdv).kindOf x = scope.names.lookup x := rfl
        have ky : (envOfC qual scope s.heap.objs.size f cdv).kindOf y = scope.names.lookup y := rfl
        rcases hz with hz | ⟨hz, hs⟩
        · refine .inl ⟨rfl, hz, ?_⟩
          rcases he with ⟨rfl, rfl⟩ | ⟨rfl, rfl⟩
          · simp only [bindL, kx, ky, hz, if_true]
            split
            · simp [hxy]
            · simp
          · simp only [bindL, kx, ky, hz, if_true]
        · obtain ⟨cc, hc⟩ := Option.isSome_iff_exists.mp (hs (s.heap.objs.size + 1))
          obtain ⟨o, hm, hd⟩ := cellsGet Y hc
          refine .inr (.inl ⟨cc, o, .inl hz, hc, List.mem_append_left _ hm, ?_⟩)
          have kx' : (newEnv scope s.heap.objs.size mainGlobals (cellsFrom (s.heap.objs.size + 1) scope.names []) (qual ++ ".<locals>.") (some f) cdv none builtinsNs).kindOf x = scope.names.lookup x := rfl
          have ky' : (newEnv scope s.heap.objs.size mainGlobals (cellsFrom (s.heap.objs.size + 1) scope.names []) (qual ++ ".<locals>.") (some f) cdv none builtinsNs).kindOf y = scope.names.lookup y := rfl
          rw [hd]
          congr 1
          have nl : ¬ (some NameKind.cell = some NameKind.local) := by decide
          rcases he with ⟨rfl, rfl⟩ | ⟨rfl, rfl⟩
          · simp only [bindC, kx', ky', hz, if_neg nl]
            split
            · simp
            · simp [hxy]
          · simp only [bindC, kx', ky', hz, if_neg nl, if_true]
      by_cases h2 : z = y
      · subst h2
        simp only [Rho.set, if_true] at e
        cases e
        exact ⟨v, one _ _ hy (.inr ⟨rfl, rfl⟩), iv⟩
      · by_cases h1 : z = x
        · subst h1
          simp only [Rho.set, if_neg h2, if_true] at e
          cases e
          exact ⟨u, one _ _ hx (.inl ⟨rfl, rfl⟩), iu⟩
        · simp [Rho.set, Rho.none, h1, h2] at e
    · have hp' : p ∈ cells ∨ p ∈ led₀ ++ led₁ ++ raw := by
        simp only [List.mem_append] at hp ⊢
        rcases hp with hp | hp | hp | hp
        · exact .inr (.inl (.inl hp))
        · exact .inl hp
        · exact .inr (.inl (.inr hp))
        · exact .inr (.inr hp)
      rcases hp' with hp' | hp'
      · refine ⟨(NC p hp').1, (NC p hp').2.1, ?_⟩
        cases q : (hideAll s.heap ((led₀ ++ led₁ ++ raw).map (·.1))).get? p.1 with
        | none => exact q
        | some o => have := of_hideAll _ q; rw [(NC p hp').2.2] at this; cases this
      · exact ⟨hk₁ _ _ (N p hp').1, Nat.ne_of_lt (Heap.lt_size (N p hp').1), hideAll_none _ (List.mem_map_of_mem hp')⟩
    · obtain ⟨p', hp', e0⟩ := keys0 p hp
      rcases List.mem_append.mp hq with hq | hq
      · exact e0 ▸ oldlt p' (by simp [hp']) q hq
      · rcases List.mem_append.mp hq with hq | hq
        · obtain ⟨r, hr, e⟩ := keys1 q hq
          exact fun e' => hnd.2.2 p.1 (List.mem_map_of_mem hp) r.1 (List.mem_map_of_mem hr) (e'.trans e.symm)
        · exact S.apart p (by simp [hp]) q hq
    · rcases List.mem_append.mp hq with hq | hq
      · cases qq : gx.get? q.1 with
        | none => rfl
        | some o => have z := S.sub _ _ qq; rw [(NC q hq).2.2] at z; cases z
      · rcases List.mem_append.mp hq with hq | hq
        · obtain ⟨r, hr, e⟩ := keys1 q hq
          exact e ▸ S.offO r (by simp [hr])
        · exact S.offR q hq
  refine wpAny_mono (hbody c' rfl rfl rfl gx _ _ _ S1 fun fl s2 gx2 out p k i => ?_) (fun _ _ x => x) fun _ _ e => e.elim
  obtain ⟨a, ω', rfl, p⟩ := p
  cases fl with
  | ret v =>
    obtain ⟨j, ρ', S2⟩ := i
    refine q v s2 gx2 a (ω' ++ ω₁) p k ?_ j
    exact S.back (more := cells) (c' := c') F V V' N O₁ rfl rfl rfl S2
  | _ => exact i.elim

/-- a body that falls off its end -/
def BodyN (w : World) (n : Nat) (qual : Str) (scope : Scope) (f : Addr) (cdv : Value) (body : List Stmt) (ρ₀ : Rho) (ω₀ : Om) (P : Ab → Om → Prop) : Prop :=
  ∀ c' : Cx, c'.w = w → c'.n = n → c'.env = envOf qual scope c'.L f cdv → ex c' ρ₀ ω₀ body fun o => ∃ ρ' ω', o = .next ρ' ω' ∧ P (.dat .none) ω'
theorem call_defN {w : World} {c : Cx} {ρ : Rho} {ω₀ ω₁ : Om} {n : Nat} {f : Addr} {as : List Ab} {P : Ab → Om → Prop} {ρ₀ : Rho} {name qual : Str} {params : Arguments} {body : List Stmt} {scope : Scope} {dV kV doc pm cdv ct oc : Value} {an od : Option Addr} {osl : Array (Option Value)}
    (ho : FK.lookup f = some ⟨oc, od, .func (fnOf name qual params body scope dV kV doc pm an cdv ct), osl⟩) (hcd : cdQ cdv = some qual)
    (hbind : ∀ gx vs, AbAll gx vs as → ∃ binds, bindArgs (fnOf name qual params body scope dV kV doc pm an cdv ct) ⟨vs, []⟩ = pure binds ∧ (∀ y ∈ binds, scope.names.lookup y.1 = some .local) ∧ ∀ x a, ρ₀ x = some a → ∃ v, binds.reverse.lookup x = some v ∧ scope.names.lookup x = some .local ∧ AbIs gx v a)
    (hbody : BodyN w n qual scope f cdv body ρ₀ ω₀ fun a ω' => P a (ω' ++ ω₁))
    (hco : scope.isCoroutine = false) (hgen : scope.isGenerator = false) (hk : scope.kind = .function) (hcell : ∀ x ∈ scope.names, x.2 ≠ .cell) (hw : c.w = w) (hn : c.n = n + 1) :
    callT c ρ (ω₀ ++ ω₁) (.ref f) as P := by
  subst hw
  intro gx raw s Q vs S ia q
  obtain ⟨binds, hb, hloc, hρ⟩ := hbind gx vs ia
  obtain ⟨m, F, V, V'⟩ := S.fr
  obtain ⟨led, N, O⟩ := S.nw
  obtain ⟨led₀, led₁, rfl, O₀, O₁⟩ := O.appendE
  obtain ⟨FG, BG, st, lv⟩ := groundX (R := fun _ _ => True) c.below F N c.frames c.ff c.fk
  refine wpAny_call (codeAny_call_def (fd := fnOf name qual params body scope dV kV doc pm an cdv ct) (body := body) (binds := binds) (by have := c.depth; omega) (S.kin.fk _ _ ho) rfl (c.top.nolimit.keeps F.keep) (S.kin.code hcd) rfl (BindsTo.of_eq hb) hcell hloc (fun h₁ hns hk₁ => ?_) hco hgen hk)
  have ff : (envOf qual scope s.heap.objs.size f cdv).frame = some s.heap.objs.size := rfl
  have ek : (envOf qual scope s.heap.objs.size f cdv).scope.kind = .function := hk
  let c' := callee c n s gx ((led₀ ++ led₁ ++ raw).map (·.1)) (envOf qual scope s.heap.objs.size f cdv) s.heap.objs.size hn ff ek rfl rfl BG st S.grow
  have sz := S.offNew
  have S1 : St c' ρ₀ ω₀ gx (led₁ ++ raw) { s with heap := h₁, toks := s.toks + binds.length } := by
    have ndS := S.nd
    rw [List.map_append] at ndS
    have hnd := List.nodup_append.mp ndS
    have keys1 : ∀ q ∈ led₁, ∃ p ∈ ω₁, p.1 = q.1 := fun p hp => by
      have : p.1 ∈ ω₁.map (·.1) := by rw [← O₁.keys]; exact List.mem_map_of_mem hp
      obtain ⟨q, hq, e⟩ := List.mem_map.mp this
      exact ⟨q, hq, e⟩
    refine ⟨⟨h₁, _, rfl⟩, ⟨_, ⟨hns, fun b o e => hk₁ b o (of_hideAll _ e), Nat.le_of_eq (hideAll_size _ _)⟩, fun x a e => ?_, Vars.none rfl⟩, ⟨led₀, fun p hp => ?_, O₀⟩, hnd.1, fun p hp q hq => ?_, fun b o e => hk₁ _ _ (S.sub b o e), sz.x, fun p hp => S.offO p (by simp [hp]), fun q hq => ?_, Keep.refl _, fun b o e => .inl e⟩
    · obtain ⟨v, h1, h2, h3⟩ := hρ x a e
      exact ⟨v, .inl ⟨rfl, h2, h1⟩, h3⟩
    · have hp' : p ∈ led₀ ++ led₁ ++ raw := by simpa using hp
      exact ⟨hk₁ _ _ (N p hp').1, Nat.ne_of_lt (Heap.lt_size (N p hp').1), hideAll_none _ (List.mem_map_of_mem hp')⟩
    · rcases List.mem_append.mp hq with hq | hq
      · obtain ⟨r, hr, e⟩ := keys1 q hq
        exact fun e' => hnd.2.2 p.1 (List.mem_map_of_mem hp) r.1 (List.mem_map_of_mem hr) (e'.trans e.symm)
      · exact S.apart p (by simp [hp]) q hq
    · rcases List.mem_append.mp hq with hq | hq
      · obtain ⟨r, hr, e⟩ := keys1 q hq
        exact e ▸ S.offO r (by simp [hr])
      · exact S.offR q hq
  refine wpAny_mono (hbody c' rfl rfl rfl gx _ _ _ S1 fun fl s2 gx2 out p k i => ?_) (fun _ _ x => x) fun _ _ e => e.elim
  obtain ⟨ρ', ω', rfl, p⟩ := p
  cases fl with
  | next =>
    refine q Value.none s2 gx2 (.dat .none) (ω' ++ ω₁) p k ?_ ⟨[], .none⟩
    exact S.back (more := []) (c' := c') F V V' N O₁ rfl rfl rfl i
  | _ => exact i.elim
section
variable {w : World} {c : Cx} {ρ : Rho} {ω₀ ω₁ : Om} {n : Nat} {f : Addr} {P : Ab → Om → Prop} {name qual : Str} {params : Arguments} {body : List Stmt} {scope : Scope} {dV kV doc pm cdv ct oc : Value} {an od : Option Addr} {osl : Array (Option Value)}
theorem call_defN2 {x y : Str} {a b : Ab} (ho : FK.lookup f = some ⟨oc, od, .func (fnOf name qual params body scope dV kV doc pm an cdv ct), osl⟩) (hcd : cdQ cdv = some qual)
    (hbind : ∀ u v, bindArgs (fnOf name qual params body scope dV kV doc pm an cdv ct) ⟨[u, v], []⟩ = pure [(x, u), (y, v)]) (hx : scope.names.lookup x = some .local) (hy : scope.names.lookup y = some .local) (hxy : x ≠ y) (hn : 1 ≤ c.n)
    (hco : scope.isCoroutine = false) (hgen : scope.isGenerator = false) (hk : scope.kind = .function) (hcell : ∀ x ∈ scope.names, x.2 ≠ .cell)
    (hbody : BodyN c.w (c.n - 1) qual scope f cdv body ((Rho.none.set x a).set y b) ω₀ fun a ω' => P a (ω' ++ ω₁)) : callT c ρ (ω₀ ++ ω₁) (.ref f) [a, b] P := by
  refine call_defN ho hcd (fun gx vs ia => ?_) hbody hco hgen hk hcell rfl (by omega)
  obtain ⟨u, v, rfl, iu, iv⟩ := ia.two
  refine ⟨[(x, u), (y, v)], hbind u v, fun z hz => ?_, fun z d e => ?_⟩
  · simp only [List.mem_cons, List.not_mem_nil, or_false] at hz
    rcases hz with rfl | rfl
    · exact hx
    · exact hy
  · by_cases h2 : z = y
    · subst h2
      simp only [Rho.set, if_true] at e
      cases e
      exact ⟨v, by simp, hy, iv⟩
    · by_cases h1 : z = x
      · subst h1
        simp only [Rho.set, if_neg h2, if_true] at e
        cases e
        refine ⟨u, ?_, hx, iu⟩
        have : (z == y) = false := by simpa using h2
        simp [List.lookup, this]
      · simp [Rho.set, Rho.none, h1, h2] at e
end
section
variable {c : Cx} {ρ : Rho} {ω : Om} {R : Out → Prop}
theorem ex_exprNone {e : Expr} {pos : Pos} (h : ev c ρ ω e fun a ω' => a = .dat .none ∧ R (.next ρ ω'))
    (hi : interactive c.env = false := by first | rfl | (rename Cx.env _ = _ => heX; rw [heX]; rfl)) (hs : swapsWith e none pos.line c.env = pure false := by first | rfl | (rename Cx.env _ = _ => heX; rw [heX]; rfl)) : ex1 c ρ ω (.Expr e pos) R := by
  intro gx raw s Q S q
  refine wpAny_Expr (h gx raw s _ S fun v s₁ gx₁ a ω₁ p k S₁ i => ?_) hi hs
  obtain ⟨rfl, p⟩ := p
  obtain ⟨as, r⟩ := i
  cases r
  exact q _ _ gx₁ _ p k S₁
end

section
variable {c : Cx} {ρ : Rho} {ω : Om} {gx : Heap} {raw : List (Addr × Obj)} {s : Shared}
theorem St.swap {p q : Addr × Oc} (S : St c ρ (q :: p :: ω) gx raw s) : St c ρ (p :: q :: ω) gx raw s := by
  obtain ⟨sm, ⟨m, F, V, V'⟩, ⟨led, N, O⟩, nd, ap, sub, oL, oO, oR, gr, nw⟩ := S
  have up : ∀ r, r ∈ p :: q :: ω → r ∈ q :: p :: ω := fun r hr => by
    simp only [List.mem_cons] at hr ⊢
    rcases hr with h | h | h
    · exact .inr (.inl h)
    · exact .inl h
    · exact .inr (.inr h)
  cases O with
  | cons a O =>
    cases O with
    | cons b O =>
      refine ⟨sm, ⟨m, F, V, V'⟩, ⟨_, fun r hr => N r ?_, .cons b (.cons a O)⟩, ?_, fun r hr => ap r (up r hr), sub, oL, fun r hr => oO r (up r hr), oR, gr, nw⟩
      · simp only [List.cons_append, List.mem_cons] at hr ⊢
        rcases hr with h | h | h
        · exact .inr (.inl h)
        · exact .inl h
        · exact .inr (.inr h)
      · simp only [List.map_cons, List.nodup_cons, List.mem_cons, not_or] at nd ⊢
        exact ⟨⟨Ne.symm nd.1.1, nd.2.1⟩, nd.1.2, nd.2.2⟩
/-- what is known of one of the frame's own, when it is forgotten -/
theorem St.ownOff {C : Addr} {oc : Oc} (S : St c ρ ((C, oc) :: ω) gx raw s) : Off c ω gx raw C ∧ ∃ o, s.heap.get? C = some o ∧ OcIs gx o oc := by
  obtain ⟨sm, ⟨m, F, V, V'⟩, ⟨led, N, O⟩, nd, ap, sub, oL, oO, oR, gr, nw⟩ := S
  cases O with
  | cons a O =>
    have z := N _ (.head _)
    simp only [List.map_cons, List.nodup_cons] at nd
    refine ⟨⟨z.2.1, z.2.2, fun p hp e => nd.1 (e ▸ List.mem_map_of_mem hp), fun q hq e => ap _ (.head _) q hq e.symm, oO _ (.head _)⟩, _, z.1, a⟩
/-- a cell of the frame's is written: it goes to the raw ones -/
theorem St.cellSet {x : Str} {C : Addr} {v : Value} {a : Ab} (S : St c ρ ((C, .vac) :: ω) gx raw s) (hx : c.env.kindOf x = some .cell) (hc : c.env.cells.lookup x = some C) (hv : AbIs gx v a) {Q : Unit → Shared → Prop} {E : Value → Shared → Prop}
    (hoz : c.oρ = Rho.none) (h : ∀ s' o', St c (ρ.set x a) ω gx ((C, o') :: raw) s' → Q () s') : wpAny (model PP c.w) c.A (storeName c.env x v) Q E s := by
  obtain ⟨f, o, e, v₀, hd⟩ := S.ownOff
  refine wpAny_storeName_cell c.ek hx hc ⟨o, e, hd⟩ fun h' hv' hs => ?_
  obtain ⟨o', e', hd'⟩ := hv'
  have S1 : St c ρ ω gx raw s := St.dropOwn (ω₁ := []) S
  have S2 := S1.but (tk := s.toks) (h' := h') f fun b o hb e => hs.extBut b o (by simpa using hb) e
  have S3 := S2.addRaw e' f
  refine h _ o' ?_
  obtain ⟨sm, ⟨m, F, V, V'⟩, nw, nd, ap, sub, oL, oO, oR, gr, nw'⟩ := S3
  refine ⟨sm, ⟨m, F, fun y b e1 => ?_, Vars.none hoz⟩, nw, nd, ap, sub, oL, oO, oR, gr, nw'⟩
  by_cases hy : y = x
  · subst hy
    simp only [Rho.set, if_true] at e1
    cases e1
    exact ⟨v, .inr (.inl ⟨C, o', .inl hx, hc, .head _, hd'⟩), hv⟩
  · simp only [Rho.set, if_neg hy] at e1
    exact V y b e1
theorem St.forget {I : Addr} {oI : Obj} (S : St c ρ ω gx ((I, oI) :: raw) s) (hoz : c.oρ = Rho.none) : St c Rho.none ω gx raw s := by
  obtain ⟨sm, ⟨m, F, V, V'⟩, ⟨led, N, O⟩, nd, ap, sub, oL, oO, oR, gr, nw⟩ := S
  refine ⟨sm, ⟨m, F, Vars.none rfl, Vars.none hoz⟩, ⟨led, fun p hp => N p ?_, O⟩, nd, fun p hp q hq => ap p hp q (.tail _ hq), sub, oL, oO, fun q hq => oR q (.tail _ hq), gr, nw⟩
  rcases List.mem_append.mp hp with hp | hp
  · exact List.mem_append_left _ hp
  · exact List.mem_append_right _ (.tail _ hp)
end
section
variable {c : Cx} {ρ : Rho} {ω : Om} {R : Out → Prop}
theorem exT_swap {t : Sem Flow} {p q : Addr × Oc} (h : exT c ρ (p :: q :: ω) t R) : exT c ρ (q :: p :: ω) t R :=
  fun gx raw s Q S k => h gx raw s Q S.swap k
theorem evT_swap {t : Sem Value} {P : Ab → Om → Prop} {p q : Addr × Oc} (h : evT c ρ (p :: q :: ω) t P) : evT c ρ (q :: p :: ω) t P :=
  fun gx raw s Q S k => h gx raw s Q S.swap k
/-- x, y = e1, e2, where x is a cell of the frame's and has no value yet -/
theorem ex_cellPair {x y : Str} {p1 p2 tp tp' pos : Pos} {k k' : Nat} {e1 e2 : Expr} {rest : List Stmt} {C : Addr} (hoz : c.oρ = Rho.none) (hL : c.env.locals = c.L) (hx : c.env.kindOf x = some .cell) (hc : c.env.cells.lookup x = some C) (hy : c.env.kindOf y = some .local)
    (h : evs c ρ ω tp' [e1, e2] fun as ω' => ∃ a b p ω₁, as = [a, b] ∧ ω' = p :: (C, .vac) :: ω₁ ∧ ex c ((ρ.set x a).set y b) (p :: ω₁) rest fun o => match o with | .ret a ω₂ => R (.ret a ω₂) | _ => False)
    (hs : swapsWithSole [.Tuple [.Name x p1, .Name y p2] k tp] (.Tuple [e1, e2] k' tp') pos.line c.env = pure false := by first | rfl | (rename Cx.env _ = _ => heX; rw [heX]; rfl))
    (hw : swappedStores [.Tuple [.Name x p1, .Name y p2] k tp] (.Tuple [e1, e2] k' tp') c.env = pure none := by first | rfl | (rename Cx.env _ = _ => heX; rw [heX]; rfl)) :
    ex c ρ ω (.Assign [.Tuple [.Name x p1, .Name y p2] k tp] (.Tuple [e1, e2] k' tp') pos :: rest) R := by
  intro gx raw s Q S q
  refine wpAny_execs_cons (Assign_Tuple (Tuple_ (h gx raw s _ S fun vs s₁ gx₁ as ω₁ p k₁ S₁ i => ?_)) hs hw)
  obtain ⟨a, b, p0, ω₂, rfl, rfl, p⟩ := p
  replace S₁ := S₁.swap
  obtain ⟨u, v, rfl, iu, iv⟩ := i.two
  refine wpAny_newObj_type ?_ (by show (2 : Nat) ≤ sizeLine; rw [sizeLine_eq]; omega)
  have S₂ := S₁.step (tk := s₁.toks) (h' := s₁.heap.push { cls := .type "tuple", data := .seq [u, v].toArray }) fun b o e => Heap.get?_push_of_some _ e
  refine assign_Tuple_tuple (items := #[u, v]) c.hh ⟨_, Heap.get?_push_size _ rfl, rfl, 0, rfl⟩ rfl rfl fun h' hx' => ?_
  have S₃ := S₂.step (tk := s₁.toks) (h' := h') fun b o e => hx' b o (Nat.ne_of_lt (Heap.lt_size e)) e
  show wpAny _ _ (assignInOrder [assign (.Name x p1) c.env, assign (.Name y p2) c.env] [u, v]) _ _ _
  refine assignInOrder_cons (wpAny_assign_Name (S₃.cellSet hx hc iu hoz fun s₄ o' S₄ => ?_))
  refine assignInOrder_cons (wpAny_assign_Name (S₄.store hL hy iv fun s₅ S₅ => assignInOrder_nil ?_))
  refine p gx₁ _ s₅ _ S₅ fun f s' gx' out p' k' i' => ?_
  cases out with
  | next ρ'' ω'' => exact p'.elim
  | ret r ω'' =>
    cases f with
    | ret v =>
      obtain ⟨j, ρ₅, S₆⟩ := i'
      exact q _ _ gx' _ p' (k₁.trans k') ⟨j, _, S₆.forget hoz⟩
    | _ => exact i'.elim
end
theorem evL_swap {c : Cx} {ρ : Rho} {ω : Om} {t : Sem (List Value)} {P : List Ab → Om → Prop} {p q : Addr × Oc} (h : evL c ρ (p :: q :: ω) t P) : evL c ρ (q :: p :: ω) t P :=
  fun gx raw s Q S k => h gx raw s Q S.swap k

section
local macro_rules | `(tactic| walk_at "lk") => `(tactic| first | assumption | exact if_pos rfl | (refine (if_neg (by decide)).trans ?_; walk_at "lk"))
local macro_rules | `(tactic| walk_at "sd") => `(tactic| first | exact rfl | (rename Cx.env _ = _ => heX; rw [heX]; exact rfl))
section
variable {c : Cx} {ρ : Rho} {ω : Om} {P : Ab → Om → Prop}
theorem ev_tuple2 {e1 e2 : Expr} {k : Nat} {pos : Pos} (h : evs c ρ ω pos [e1, e2] fun as ω₁ => ∃ d e, as = [.dat d, .dat e] ∧ P (.t [d, e]) ω₁) : ev c ρ ω (.Tuple [e1, e2] k pos) P :=
  ev_tuple (fun gx raw s Q S q => h gx raw s Q S fun v s' gx' as ω' p => q v s' gx' as ω' (by obtain ⟨d, e, rfl, p⟩ := p; exact ⟨[d, e], rfl, by simp, p⟩))
theorem ev_builtin1 {f : Str} {p pos : Pos} {e : Expr} {id : String} (hk : c.env.kindOf f = some .globalImplicit) (hn : gTab.lookup f = some none) (hb : bootBuiltins f = some (.builtin id))
    (h : ev c ρ ω e fun a ω₁ => callT c ρ ω₁ (.builtin id) [a] P)
    (hc : eval (.Call (.Name f p) [e] [] pos) c.env = (do let g ← eval (.Name f p) c.env; callWith pos g [] (backTo pos (starEach [e] c.env)) (backToKw pos (keywordEach [] c.env))) := by first | rfl | (rename Cx.env _ = _ => heX; rw [heX]; rfl))
    (he : starEach [e] c.env = (false, eval e c.env) :: starEach [] c.env := by first | rfl | (rename Cx.env _ = _ => heX; rw [heX]; rfl)) (hx : f ≠ "__name__" := by decide) (hd : (f == ("__debug__" : Str)) = false := by decide) :
    ev c ρ ω (.Call (.Name f p) [e] [] pos) P := ev_builtin hk hn hb (evs_cons (h.mono fun a ω' p => evs_nil p) he) hc he rfl hx hd
end

theorem gcd_ok {c : Cx} {ρ : Rho} {ω : Om} {a b : Int} {P : Ab → Om → Prop} (hn : 1 ≤ c.n) (h : P (.i (Int.gcd a b)) ω) : callT c ρ ω (.ref 41) [.i a, .i b] P := by
  refine call_def2 (ω₀ := []) (x := Str.ofString "a") (y := Str.ofString "b") (f := 41) (P := P) (by exact rfl) (by exact rfl) (fun u v => by exact rfl) (by exact rfl) (by exact rfl) (by decide) hn (by exact rfl) (by exact rfl) (by exact rfl) (by decide) ?_
  intro c' hw hn' he
  refine ex_cons (ex_pair (by walk_at "sd") (by walk_at "sd") (by walk_at "sd") ?_)
  refine evs_cons (ev_builtin1 (id := "abs") (by walk_at "sd") (by exact rfl) (by decide +kernel) ?_)
  refine ev_var (by walk_at "lk") (call_abs ?_)
  refine evs_cons (ev_builtin1 (id := "abs") (by walk_at "sd") (by exact rfl) (by decide +kernel) ?_)
  refine ev_var (by walk_at "lk") (call_abs ?_)
  refine evs_nil ⟨_, _, rfl, ?_⟩
  refine ex_cons (ex_while (fun n ρ' ω' => ∃ x y : Nat, ρ' (Str.ofString "a") = some (.i x) ∧ ρ' (Str.ofString "b") = some (.i y) ∧ ω' = [] ∧ Nat.gcd x y = Int.gcd a b ∧ n = y) b.natAbs ⟨a.natAbs, b.natAbs, ?_, ?_, rfl, rfl, rfl⟩ ?_)
  · refine (if_pos rfl).trans ?_
    congr 3; split <;> omega
  · refine (if_neg (by decide)).trans ((if_pos rfl).trans ?_)
    congr 3; split <;> omega
  rintro n ρ' ω' ⟨x, y, hx, hy, rfl, hg, rfl⟩
  refine ts_cmp (ev_var (by walk_at "lk") (ev_int (bin_ne ⟨_, rfl, ?_⟩)))
  split
  · rename_i h0
    have hy0 : n ≠ 0 := by simpa using h0
    refine ex_cons (ex_pair (by walk_at "sd") (by walk_at "sd") (by walk_at "sd") ?_)
    refine evs_cons (ev_var (by walk_at "lk") ?_)
    refine evs_cons (ev_bin (ev_var (by walk_at "lk") (ev_var (by walk_at "lk") (bin_mod (by omega) ?_))))
    refine evs_nil ⟨_, _, rfl, ?_⟩
    refine ex_nil ⟨x % n, Nat.mod_lt _ (by omega), n, x % n, if_pos rfl, ?_, rfl, ?_, rfl⟩
    · refine (if_neg (by decide)).trans ((if_pos rfl).trans ?_)
      congr 3
      rw [Int.fmod_eq_emod_of_nonneg _ (by omega)]; rfl
    · rw [Nat.gcd_comm, ← Nat.gcd_rec, Nat.gcd_comm, hg]
  · rename_i h0
    have hy0 : n = 0 := by simpa using h0
    subst hy0
    refine ex_cons (ex_return (ev_var (by walk_at "lk") ⟨_, _, rfl, ?_⟩))
    rw [Nat.gcd_zero_right] at hg
    rw [hg]; exact h

end
local macro_rules | `(tactic| walk_at "lk") => `(tactic| first | assumption | exact if_pos rfl | (refine (if_neg (by decide)).trans ?_; walk_at "lk"))
local macro_rules | `(tactic| walk_at "sd") => `(tactic| first | exact rfl | (rename Cx.env _ = _ => heX; rw [heX]; exact rfl))
local macro_rules | `(tactic| walk_at "bin") => `(tactic| first
  | ((with_reducible show binT _ _ _ (binaryOp Operator.Add) _ _ _); refine bin_add ?_)
  | ((with_reducible show binT _ _ _ (binaryOp Operator.Sub) _ _ _); first | refine bin_sub ?_ | refine bin_subb ?_)
  | ((with_reducible show binT _ _ _ (binaryOp Operator.Mult) (Ab.i _) (Ab.i _) _); refine bin_mul (by first | assumption | exact mulOk (by assumption) (by assumption) (by omega)) ?_)
  | ((with_reducible show binT _ _ _ (compareOp CmpOp.Lt) _ _ _); refine bin_lt ?_)
  | ((with_reducible show binT _ _ _ (compareOp CmpOp.Gt) _ _ _); refine bin_gt ?_)
  | ((with_reducible show binT _ _ _ (compareOp CmpOp.GtE) _ _ _); refine bin_ge ?_)
  | ((with_reducible show binT _ _ _ (compareOp CmpOp.Eq) (Ab.i _) (Ab.i _) _); refine bin_eq ?_)
  | ((with_reducible show binT _ _ _ (compareOp CmpOp.NotEq) (Ab.i _) (Ab.i _) _); refine bin_ne ?_)
  | fail "bin")
local macro_rules | `(tactic| walk_at "ev") => `(tactic| first
  | ((with_reducible show evT _ _ _ (eval (Expr.Name _ _) _) _); first | refine ev_var (by walk_at "lk") ?_ | refine ev_R0 (by walk_at "sd") ?_ | refine ev_R1 (by walk_at "sd") ?_)
  | ((with_reducible show evT _ _ _ (eval (Expr.Constant (Const.int _) _ _) _) _); refine ev_int ?_)
  | ((with_reducible show evT _ _ _ (eval (Expr.Constant (Const.bool _) _ _) _) _); refine ev_bool ?_)
  | ((with_reducible show evT _ _ _ (eval (Expr.BinOp _ _ _ _) _) _); refine ev_bin ?_)
  | ((with_reducible show evT _ _ _ (eval (Expr.Compare _ _ _ _) _) _); refine ev_cmp ?_)
  | ((with_reducible show evT _ _ _ (eval (Expr.IfExp _ _ _ _) _) _); refine ev_if ?_)
  | ((with_reducible show evT _ _ _ (eval (Expr.Tuple [_, _] _ _) _) _); refine ev_tuple2 ?_)
  | ((with_reducible show evT _ _ _ (eval (Expr.Subscript _ (Expr.Constant _ _ _) _) _) _); refine ev_sub ?_)
  | ((with_reducible show evT _ _ _ (eval (Expr.Subscript _ (Expr.Name _ _) _) _) _); refine ev_sub ?_)
  | ((with_reducible show evT _ _ _ (eval (Expr.Subscript _ (Expr.BinOp _ _ _ _) _) _) _); refine ev_sub ?_)
  | ((with_reducible show tsT _ _ _ (isTrue (Expr.Compare _ _ _ _) _ _) _); refine ts_cmp ?_)
  | ((with_reducible show tsT _ _ _ (isTrue (Expr.Call _ _ _ _) _ _) _); refine ts_plain ?_)
  | ((with_reducible show tsT _ _ _ (isTrue (Expr.BoolOp BoolOp.And (_ :: _) _) _ _) _); refine ts_and ?_)
  | ((with_reducible show tsT _ _ _ (isTrue (Expr.BoolOp BoolOp.And [] _) _ _) _); refine ts_and_nil ?_)
  | ((with_reducible show tsT _ _ _ (isTrue (Expr.BoolOp BoolOp.Or (_ :: _) _) _ _) _); refine ts_or ?_)
  | ((with_reducible show tsT _ _ _ (isTrue (Expr.BoolOp BoolOp.Or [] _) _ _) _); refine ts_or_nil ?_)
  | ((with_reducible show evL _ _ _ (spliced (backTo _ (starEach (_ :: _) _))) _); refine evs_cons ?_)
  | ((with_reducible show evL _ _ _ (spliced (backTo _ (starEach [] _))) _); refine evs_nil ?_)
  | ((with_reducible show evT _ _ _ (eval (Expr.Call (Expr.Name _ _) _ _ _) _) _); first
      | (refine ev_call (by walk_at "sd") (by exact rfl) (by exact rfl) ?_)
      | ((with_reducible show evT _ _ _ (eval (Expr.Call (Expr.Name (Str.ofString "abs") _) _ _ _) _) _); refine ev_builtin (by walk_at "sd") (by exact rfl) (id := "abs") (by decide +kernel) ?_)
      | ((with_reducible show evT _ _ _ (eval (Expr.Call (Expr.Name (Str.ofString "len") _) _ _ _) _) _); refine ev_builtin (by walk_at "sd") (by exact rfl) (id := "len") (by decide +kernel) ?_)
      | ((with_reducible show evT _ _ _ (eval (Expr.Call (Expr.Name (Str.ofString "max") _) _ _ _) _) _); refine ev_builtin (by walk_at "sd") (by exact rfl) (id := "max") (by decide +kernel) ?_)
      | ((with_reducible show evT _ _ _ (eval (Expr.Call (Expr.Name (Str.ofString "min") _) _ _ _) _) _); refine ev_builtin (by walk_at "sd") (by exact rfl) (id := "min") (by decide +kernel) ?_)
      | ((with_reducible show evT _ _ _ (eval (Expr.Call (Expr.Name (Str.ofString "list") _) _ _ _) _) _); refine ev_type (by walk_at "sd") (by exact rfl) (T := "list") (by decide +kernel) ?_)
      | ((with_reducible show evT _ _ _ (eval (Expr.Call (Expr.Name (Str.ofString "int") _) _ _ _) _) _); refine ev_type (by walk_at "sd") (by exact rfl) (T := "int") (by decide +kernel) ?_)
      | fail "call")
  | ((with_reducible show itemAt _ _ _ _); refine itemAt.tup (by decide) (by decide) (by exact rfl) ?_)
  | ((with_reducible show callT _ _ _ (Value.ref _) _ _); walk_at "fn")
  | fail "ev")
local macro_rules | `(tactic| walk_at "fn") => `(tactic| fail "fn")
local macro_rules | `(tactic| walk_at "ex") => `(tactic| first
  | ((with_reducible show exT _ _ _ (execs (_ :: _) _) _); refine ex_cons ?_)
  | ((with_reducible show exT _ _ _ (execs [] _) _); refine ex_nil ?_)
  | ((with_reducible show exT _ _ _ (exec (Stmt.Assign [Expr.Name _ _] _ _) _) _); refine ex_assign (by walk_at "sd") (by walk_at "sd") ?_)
  | ((with_reducible show exT _ _ _ (exec (Stmt.Assign [Expr.Tuple [_, _] _ _] _ _) _) _); refine ex_pair (by walk_at "sd") (by walk_at "sd") (by walk_at "sd") ?_)
  | ((with_reducible show exT _ _ _ (exec (Stmt.If _ _ _ _) _) _); refine ex_if ?_)
  | ((with_reducible show exT _ _ _ (exec (Stmt.Return _ _) _) _); refine ex_return ?_)
  | ((with_reducible show exT _ _ _ (exec (Stmt.Expr (Expr.Call (Expr.Name _ _) _ _ _) _) _) _); refine ex_exprNone ?_)
  | fail "ex")
local macro_rules | `(tactic| walk_at "pl") => `(tactic| first
  | (refine ⟨_, _, _, rfl, ?_⟩)
  | (refine ⟨_, _, rfl, rfl, ?_⟩)
  | (refine ⟨_, _, rfl, ?_⟩)
  | (refine ⟨_, rfl, ?_⟩)
  | fail "pl")
local macro_rules | `(tactic| walk_at "st") => `(tactic| first | walk_at "ev" | walk_at "bin" | walk_at "ex" | walk_at "pl" | fail "no step")

def rq (q : Rat) : PyData := .tuple [.int q.num, .int q.den]
abbrev Ab.q (q : Rat) : Ab := .dat (rq q)
def RS (k : Nat) (q : Rat) : Prop := Sz k q.num ∧ Sz k q.den
theorem Sz.mono {j k : Nat} {a : Int} (h : Sz j a) (hl : j ≤ k) : Sz k a := Nat.lt_of_lt_of_le h (Nat.pow_le_pow_right (by decide) hl)
theorem RS.mono {j k : Nat} {a : Rat} (h : RS j a) (hl : j ≤ k) : RS k a := ⟨h.1.mono hl, h.2.mono hl⟩
theorem Sz.mul {j k : Nat} {a b : Int} (h : Sz j a) (g : Sz k b) : Sz (j + k) (a * b) := by
  unfold Sz at *
  rw [Int.natAbs_mul, Nat.pow_add]
  exact Nat.mul_lt_mul'' h g
theorem Sz.add {k : Nat} {a b : Int} (h : Sz k a) (g : Sz k b) : Sz (k + 1) (a + b) := by
  unfold Sz at *
  rw [Nat.pow_succ]; omega
theorem Sz.sub {k : Nat} {a b : Int} (h : Sz k a) (g : Sz k b) : Sz (k + 1) (a - b) := by
  unfold Sz at *
  rw [Nat.pow_succ]; omega

theorem divInt_parts {t b : Int} (hb : b ≠ 0) : (Rat.divInt t b).num = t.fdiv (if 0 < b then (Int.gcd t b : Int) else 0 - Int.gcd t b) ∧ ((Rat.divInt t b).den : Int) = b.fdiv (if 0 < b then (Int.gcd t b : Int) else 0 - Int.gcd t b) := by
  have hg : 0 < Int.gcd t b := Int.gcd_pos_of_ne_zero_right _ hb
  have d1 : (Int.gcd t b : Int) ∣ t := Int.gcd_dvd_left ..
  have d2 : (Int.gcd t b : Int) ∣ b := Int.gcd_dvd_right ..
  generalize hG : Int.gcd t b = g at *
  obtain ⟨x, rfl⟩ := d1
  obtain ⟨y, rfl⟩ := d2
  have g0 : (g : Int) ≠ 0 := by omega
  have hy : y ≠ 0 := by rintro rfl; simp at hb
  rw [Rat.num_divInt, Rat.den_divInt]
  rw [Int.gcd_comm, hG]
  have den0 : (if (g : Int) * y = 0 then (1 : Nat) else ((g : Int) * y).natAbs / g) = y.natAbs := by
    rw [if_neg hb, Int.natAbs_mul, Int.natAbs_natCast]
    exact Nat.mul_div_cancel_left _ hg
  rw [den0]
  rcases Int.lt_or_gt_of_ne hy with h | h
  · have hn : ¬ 0 < (g : Int) * y := by
      have := Int.mul_neg_of_pos_of_neg (show 0 < (g : Int) by omega) h
      omega
    have hs : ((g : Int) * y).sign = -1 := Int.sign_eq_neg_one_of_neg (by omega)
    have m1 : (0 - (g : Int)) ≠ 0 := by omega
    rw [if_neg hn, hs]
    constructor
    · rw [show (-1 : Int) * ((g : Int) * x) = (g : Int) * (-x) by rw [Int.mul_neg, Int.neg_mul, Int.one_mul], Int.mul_ediv_cancel_left _ g0]
      rw [show (g : Int) * x = (0 - (g : Int)) * (-x) by rw [Int.zero_sub, Int.neg_mul_neg], Int.mul_fdiv_cancel_left _ m1]
    · rw [show (g : Int) * y = (0 - (g : Int)) * (-y) by rw [Int.zero_sub, Int.neg_mul_neg], Int.mul_fdiv_cancel_left _ m1]
      omega
  · have hp : 0 < (g : Int) * y := Int.mul_pos (by omega) h
    have hs : ((g : Int) * y).sign = 1 := Int.sign_eq_one_of_pos hp
    rw [if_pos hp, hs, Int.one_mul]
    constructor
    · rw [Int.mul_ediv_cancel_left _ g0, Int.mul_fdiv_cancel_left _ g0]
    · rw [Int.mul_fdiv_cancel_left _ g0]
      omega
theorem add_parts (a b : Rat) : Rat.divInt (a.num * b.den + b.num * a.den) (a.den * b.den) = a + b := by
  have h := Rat.divInt_add_divInt a.num b.num (d₁ := a.den) (d₂ := b.den) (by have := a.den_nz; omega) (by have := b.den_nz; omega)
  rw [Rat.num_divInt_den, Rat.num_divInt_den] at h
  exact h.symm
theorem sub_parts (a b : Rat) : Rat.divInt (a.num * b.den - b.num * a.den) (a.den * b.den) = a - b := by
  have h := Rat.divInt_sub_divInt a.num b.num (d₁ := a.den) (d₂ := b.den) (by have := a.den_nz; omega) (by have := b.den_nz; omega)
  rw [Rat.num_divInt_den, Rat.num_divInt_den] at h
  exact h.symm
theorem mul_parts (a b : Rat) : Rat.divInt (a.num * b.num) (a.den * b.den) = a * b := by
  have h := Rat.divInt_mul_divInt a.num b.num (d₁ := a.den) (d₂ := b.den)
  rw [Rat.num_divInt_den, Rat.num_divInt_den] at h
  exact h.symm
theorem div_parts (a b : Rat) : Rat.divInt (a.num * b.den) (a.den * b.num) = a / b := by
  rw [Rat.div_def, Rat.inv_def]
  have h := Rat.divInt_mul_divInt a.num (b.den : Int) (d₁ := a.den) (d₂ := b.num)
  rw [Rat.num_divInt_den] at h
  exact h.symm

theorem divInt_sz {k : Nat} {t b : Int} (hb : b ≠ 0) (ht : Sz k t) (hb' : Sz k b) : RS k (Rat.divInt t b) := by
  constructor
  · rw [Rat.num_divInt]
    refine Nat.lt_of_le_of_lt (Int.natAbs_ediv_le_natAbs _ _) ?_
    rw [Int.natAbs_mul, Int.natAbs_sign_of_ne_zero hb, Nat.one_mul]
    exact ht
  · rw [Rat.den_divInt, if_neg hb]
    show (((b.natAbs / b.gcd t : Nat) : Int)).natAbs < _
    rw [Int.natAbs_natCast]
    exact Nat.lt_of_le_of_lt (Nat.div_le_self _ _) hb'
theorem den_ne (a : Rat) : (a.den : Int) ≠ 0 := by have := a.den_nz; omega
theorem RS.add {j k : Nat} {a b : Rat} (h : RS j a) (g : RS k b) : RS (j + k + 1) (a + b) := by
  rw [← add_parts]
  refine divInt_sz (Int.mul_ne_zero (den_ne a) (den_ne b)) ?_ ((h.2.mul g.2).mono (by omega))
  exact Sz.add (h.1.mul g.2) ((g.1.mul h.2).mono (by omega))
theorem RS.sub {j k : Nat} {a b : Rat} (h : RS j a) (g : RS k b) : RS (j + k + 1) (a - b) := by
  rw [← sub_parts]
  refine divInt_sz (Int.mul_ne_zero (den_ne a) (den_ne b)) ?_ ((h.2.mul g.2).mono (by omega))
  exact Sz.sub (h.1.mul g.2) ((g.1.mul h.2).mono (by omega))
theorem RS.mul {j k : Nat} {a b : Rat} (h : RS j a) (g : RS k b) : RS (j + k) (a * b) := by
  rw [← mul_parts]
  exact divInt_sz (Int.mul_ne_zero (den_ne a) (den_ne b)) (h.1.mul g.1) (h.2.mul g.2)

set_option maxHeartbeats 1000000 in
theorem rat_ok {c : Cx} {ρ : Rho} {ω : Om} {t b : Int} {k : Nat} {P : Ab → Om → Prop} (hn : 2 ≤ c.n) (hb : b ≠ 0) (hz : Sz k b) (hk : k ≤ 9000) (h : P (.q (Rat.divInt t b)) ω) : callT c ρ ω (.ref 57) [.i t, .i b] P := by
  refine call_def2 (ω₀ := []) (x := Str.ofString "top") (y := Str.ofString "bottom") (f := 57) (P := P) (by exact rfl) (by exact rfl) (fun u v => by exact rfl) (by exact rfl) (by exact rfl) (by decide) (by omega) (by exact rfl) (by exact rfl) (by exact rfl) (by decide) ?_
  intro c' hw hn' he
  have hg : Sz k (Int.gcd t b) := by
    refine Nat.lt_of_le_of_lt ?_ hz
    exact Nat.le_of_dvd (by omega) (Int.natAbs_dvd_natAbs.mpr (Int.gcd_dvd_right ..))
  have hg0 : 0 < Int.gcd t b := Int.gcd_pos_of_ne_zero_right _ hb
  have hpt := divInt_parts (t := t) hb
  repeat' (walk_at "st")
  rw [if_neg (by simpa using hb)]
  repeat' (walk_at "st")
  by_cases h0 : 0 < b
  · rw [if_pos (by simpa using h0)]
    rw [if_pos h0] at hpt
    repeat' (walk_at "st")
    refine gcd_ok (by omega) ?_
    repeat' (walk_at "st")
    refine bin_fdiv (by omega) hg hk ?_
    repeat' (walk_at "st")
    refine bin_fdiv (by omega) hg hk ?_
    repeat' (walk_at "st")
    show P (.dat (.tuple [.int _, .int _])) ω
    rw [← hpt.1, ← hpt.2]; exact h
  · rw [if_neg (by simpa using h0)]
    rw [if_neg h0] at hpt
    have hg' : Sz k (0 - (Int.gcd t b : Int)) := by unfold Sz at hg ⊢; omega
    repeat' (walk_at "st")
    refine gcd_ok (by omega) ?_
    repeat' (walk_at "st")
    refine bin_fdiv (by omega) hg' hk ?_
    repeat' (walk_at "st")
    refine bin_fdiv (by omega) hg' hk ?_
    repeat' (walk_at "st")
    show P (.dat (.tuple [.int _, .int _])) ω
    rw [← hpt.1, ← hpt.2]; exact h

section
local macro_rules | `(tactic| walk_at "fn") => `(tactic| refine rat_ok (by omega) (by assumption) (by assumption) (by assumption) ?_)

section
variable {c : Cx} {ρ : Rho} {ω : Om} {a b : Rat} {j k : Nat} {P : Ab → Om → Prop}
set_option maxHeartbeats 1000000
theorem radd_ok (hn : 3 ≤ c.n) (ha : RS j a) (hb : RS k b) (hl : j + k ≤ 9000) (h : P (.q (a + b)) ω) : callT c ρ ω (.ref 64) [.q a, .q b] P := by
  refine call_def2 (ω₀ := []) (x := Str.ofString "a") (y := Str.ofString "b") (f := 64) (P := P) (by exact rfl) (by exact rfl) (fun u v => by exact rfl) (by exact rfl) (by exact rfl) (by decide) (by omega) (by exact rfl) (by exact rfl) (by exact rfl) (by decide) ?_
  intro c' hw hn' he
  have m1 : IntMulOk a.num b.den := mulOk ha.1 hb.2 (by omega)
  have m2 : IntMulOk b.num a.den := mulOk hb.1 ha.2 (by omega)
  have m3 : IntMulOk (a.den : Int) b.den := mulOk ha.2 hb.2 (by omega)
  have n3 : (a.den : Int) * b.den ≠ 0 := Int.mul_ne_zero (den_ne a) (den_ne b)
  have z3 : Sz (j + k) ((a.den : Int) * b.den) := ha.2.mul hb.2
  rw [← add_parts] at h
  repeat' (walk_at "st")
  exact h
theorem rsub_ok (hn : 3 ≤ c.n) (ha : RS j a) (hb : RS k b) (hl : j + k ≤ 9000) (h : P (.q (a - b)) ω) : callT c ρ ω (.ref 71) [.q a, .q b] P := by
  refine call_def2 (ω₀ := []) (x := Str.ofString "a") (y := Str.ofString "b") (f := 71) (P := P) (by exact rfl) (by exact rfl) (fun u v => by exact rfl) (by exact rfl) (by exact rfl) (by decide) (by omega) (by exact rfl) (by exact rfl) (by exact rfl) (by decide) ?_
  intro c' hw hn' he
  have m1 : IntMulOk a.num b.den := mulOk ha.1 hb.2 (by omega)
  have m2 : IntMulOk b.num a.den := mulOk hb.1 ha.2 (by omega)
  have m3 : IntMulOk (a.den : Int) b.den := mulOk ha.2 hb.2 (by omega)
  have n3 : (a.den : Int) * b.den ≠ 0 := Int.mul_ne_zero (den_ne a) (den_ne b)
  have z3 : Sz (j + k) ((a.den : Int) * b.den) := ha.2.mul hb.2
  rw [← sub_parts] at h
  repeat' (walk_at "st")
  exact h
theorem rmul_ok (hn : 3 ≤ c.n) (ha : RS j a) (hb : RS k b) (hl : j + k ≤ 9000) (h : P (.q (a * b)) ω) : callT c ρ ω (.ref 78) [.q a, .q b] P := by
  refine call_def2 (ω₀ := []) (x := Str.ofString "a") (y := Str.ofString "b") (f := 78) (P := P) (by exact rfl) (by exact rfl) (fun u v => by exact rfl) (by exact rfl) (by exact rfl) (by decide) (by omega) (by exact rfl) (by exact rfl) (by exact rfl) (by decide) ?_
  intro c' hw hn' he
  have m2 : IntMulOk a.num b.num := mulOk ha.1 hb.1 (by omega)
  have m3 : IntMulOk (a.den : Int) b.den := mulOk ha.2 hb.2 (by omega)
  have n3 : (a.den : Int) * b.den ≠ 0 := Int.mul_ne_zero (den_ne a) (den_ne b)
  have z3 : Sz (j + k) ((a.den : Int) * b.den) := ha.2.mul hb.2
  rw [← mul_parts] at h
  repeat' (walk_at "st")
  exact h
theorem rdiv_ok (hn : 3 ≤ c.n) (ha : RS j a) (hb : RS k b) (hl : j + k ≤ 9000) (h0 : b ≠ 0) (h : P (.q (a / b)) ω) : callT c ρ ω (.ref 85) [.q a, .q b] P := by
  refine call_def2 (ω₀ := []) (x := Str.ofString "a") (y := Str.ofString "b") (f := 85) (P := P) (by exact rfl) (by exact rfl) (fun u v => by exact rfl) (by exact rfl) (by exact rfl) (by decide) (by omega) (by exact rfl) (by exact rfl) (by exact rfl) (by decide) ?_
  intro c' hw hn' he
  have m2 : IntMulOk a.num b.den := mulOk ha.1 hb.2 (by omega)
  have m3 : IntMulOk (a.den : Int) b.num := mulOk ha.2 hb.1 (by omega)
  have b0 : b.num ≠ 0 := fun e => h0 (Rat.num_eq_zero.mp e)
  have n3 : (a.den : Int) * b.num ≠ 0 := Int.mul_ne_zero (den_ne a) b0
  have z3 : Sz (j + k) ((a.den : Int) * b.num) := ha.2.mul hb.1
  rw [← div_parts] at h
  repeat' (walk_at "st")
  exact h
end

end

theorem rq_inj {a b : Rat} (h : rq a = rq b) : a = b := by
  unfold rq at h
  injection h with h
  injection h with h1 h2
  injection h2 with h2 h3
  injection h1 with h1
  injection h2 with h2
  exact Rat.ext h1 (by omega)
theorem rq0 : rq 0 = .tuple [.int 0, .int 1] := rfl
theorem rq1 : rq 1 = .tuple [.int 1, .int 1] := rfl
theorem RS.zero : RS 1 0 := ⟨by unfold Sz; decide, by unfold Sz; decide⟩
theorem RS.one : RS 1 1 := ⟨by unfold Sz; decide, by unfold Sz; decide⟩
abbrev Ab.p (p : List Rat) : Ab := .l (p.map rq)
def qatF (p : List Rat) (r : Rat) : Rat := p.reverse.foldl (fun acc x => acc * r + x) 0
section
variable {c : Cx} {ρ : Rho} {ω : Om} {P : Ab → Om → Prop}
set_option maxHeartbeats 1000000
theorem horner_sz {k m : Nat} {r : Rat} (hr : RS m r) : ∀ (l : List Rat) (acc : Rat) (s : Nat), RS s acc → (∀ q ∈ l, RS k q) → RS (s + l.length * (m + k + 1)) (l.foldl (fun acc x => acc * r + x) acc)
  | [], acc, s, h, _ => by simpa using h
  | x :: l, acc, s, h, hl => by
    have h1 := RS.add (h.mul hr) (hl x (.head _))
    have := horner_sz hr l _ _ h1 fun q hq => hl q (.tail _ hq)
    rw [List.foldl_cons, List.length_cons]
    exact this.mono (by rw [Nat.add_mul]; omega)
theorem qat_sz {k m : Nat} {p : List Rat} {r : Rat} (hp : ∀ q ∈ p, RS k q) (hr : RS m r) : RS (1 + p.length * (m + k + 1)) (qatF p r) := by
  have := horner_sz hr p.reverse 0 1 RS.zero (k := k) fun q hq => hp q (List.mem_reverse.mp hq)
  rwa [List.length_reverse] at this
theorem qat_ok {k m : Nat} {p : List Rat} {r : Rat} (hn : 4 ≤ c.n) (hp : ∀ q ∈ p, RS k q) (hr : RS m r) (hl : 1 + p.length * (m + k + 1) ≤ 9000) (h : P (.q (qatF p r)) ω) : callT c ρ ω (.ref 142) [.p p, .q r] P := by
  refine call_def2 (ω₀ := []) (x := Str.ofString "p") (y := Str.ofString "r") (f := 142) (P := P) (by exact rfl) (by exact rfl) (fun u v => by exact rfl) (by exact rfl) (by exact rfl) (by decide) (by omega) (by exact rfl) (by exact rfl) (by exact rfl) (by decide) ?_
  intro c' hw hn' he
  repeat' (walk_at "st")
  refine ex_for (by walk_at "sd") (by walk_at "sd") (itr_reversed (by walk_at "sd") (ev_var (by walk_at "lk") ⟨_, rfl, ?_⟩))
  refine ⟨fun i ρ' ω' => ω' = [] ∧ ρ' (Str.ofString "found") = some (.q ((p.reverse.take i).foldl (fun acc x => acc * r + x) 0)) ∧ ρ' (Str.ofString "r") = some (.q r), ⟨rfl, by walk_at "lk", by walk_at "lk"⟩, ?_, ?_⟩
  · rintro i d ρ' ω' hd ⟨rfl, hf, hr'⟩
    rw [← List.map_reverse, List.getElem?_map] at hd
    obtain ⟨x, hx, rfl⟩ := Option.map_eq_some_iff.mp hd
    have hx' : x ∈ p := List.mem_reverse.mp (List.mem_of_getElem? hx)
    have hi : i < p.length := by have := (List.getElem?_eq_some_iff.mp hx).1; simpa using this
    have hacc := horner_sz hr (p.reverse.take i) 0 1 RS.zero (k := k) fun q hq => hp q (List.mem_reverse.mp (List.mem_of_mem_take hq))
    have hlen : (p.reverse.take i).length = i := by simp; omega
    rw [hlen] at hacc
    have hmul : (i + 1) * (m + k + 1) ≤ p.length * (m + k + 1) := Nat.mul_le_mul_right _ hi
    rw [Nat.add_mul] at hmul
    repeat' (walk_at "st")
    refine rmul_ok (by omega) hacc hr (by omega) ?_
    repeat' (walk_at "st")
    refine radd_ok (by omega) (hacc.mul hr) (hp x hx') (by omega) ?_
    repeat' (walk_at "st")
    refine ⟨rfl, (if_pos rfl).trans ?_, by walk_at "lk"⟩
    rw [List.take_add_one, hx]; simp
  · rintro ρ' ω' ⟨rfl, hf, hr'⟩
    have hlen : (List.map rq p).reverse.length = p.reverse.length := by simp
    rw [hlen, List.take_length] at hf
    repeat' (walk_at "st")
    exact h
end

section
variable {c : Cx} {ρ : Rho} {ω : Om} {P : Ab → Om → Prop}
set_option maxHeartbeats 1000000
theorem is_vast_ok {a : Rat} (hn : 1 ≤ c.n) (ha : RS 64 a) (h : P (.b false) ω) : callT c ρ ω (.ref 92) [.q a] P := by
  refine call_def1 (ω₀ := []) (x := Str.ofString "a") (f := 92) (P := P) (by exact rfl) (by exact rfl) (fun u => by exact rfl) (by exact rfl) (by omega) (by exact rfl) (by exact rfl) (by exact rfl) (by decide) ?_
  intro c' hw hn' he
  repeat' (walk_at "st")
  refine call_abs ?_
  repeat' (walk_at "st")
  refine call_max ?_
  repeat' (walk_at "st")
  refine ev_and ?_
  repeat' (walk_at "st")
  refine bin_pow (by decide) (by decide) ?_
  repeat' (walk_at "st")
  rw [if_neg]
  · exact ⟨_, _, rfl, h⟩
  · have h1 := ha.1
    have h2 := ha.2
    unfold Sz at h1 h2
    simp only [decide_eq_true_eq]
    have e : (2 : Int) ^ (64 : Int).toNat = 18446744073709551616 := by decide
    rw [e]
    have e2 : (2 : Nat) ^ 64 = 18446744073709551616 := by decide
    rw [e2] at h1 h2
    split <;> split <;> omega
theorem rcompare_ok (hn : 1 ≤ c.n) (h : P (.i 0) ω) : callT c ρ ω (.ref 99) [.q 0, .q 0] P := by
  refine call_def2 (ω₀ := []) (x := Str.ofString "a") (y := Str.ofString "b") (f := 99) (P := P) (by exact rfl) (by exact rfl) (fun u v => by exact rfl) (by exact rfl) (by exact rfl) (by decide) (by omega) (by exact rfl) (by exact rfl) (by exact rfl) (by decide) ?_
  intro c' hw hn' he
  have m1 : IntMulOk (0 : Rat).num (0 : Rat).den := mulOk RS.zero.1 RS.zero.2 (by omega)
  repeat' (walk_at "st")
  exact h
theorem let_ok {a : Rat} (hn : 2 ≤ c.n) (ha : RS 64 a) (h : P (.q a) ω) : callT c ρ ω (.ref 156) [.q a] P := by
  refine call_def1 (ω₀ := []) (x := Str.ofString "number") (f := 156) (P := P) (by exact rfl) (by exact rfl) (fun u => by exact rfl) (by exact rfl) (by omega) (by exact rfl) (by exact rfl) (by exact rfl) (by decide) ?_
  intro c' hw hn' he
  repeat' (walk_at "st")
  refine is_vast_ok (by omega) ha ⟨_, rfl, ?_⟩
  rw [if_neg (by decide)]
  repeat' (walk_at "st")
  exact h
theorem need_begin_ok {p : List Rat} (hn : 2 ≤ c.n) (hl : p.length ≤ 1000) (hp : 0 < p.length → p[0]? = some 0) (h : P (.dat .none) ω) : callT c ρ ω (.ref 187) [.p p, .q 0] P := by
  refine call_defN2 (ω₀ := []) (x := Str.ofString "a") (y := Str.ofString "number") (f := 187) (P := P) (by exact rfl) (by exact rfl) (fun u v => by exact rfl) (by exact rfl) (by exact rfl) (by decide) (by omega) (by exact rfl) (by exact rfl) (by exact rfl) (by decide) ?_
  intro c' hw hn' he
  repeat' (walk_at "st")
  refine call_len (by simp; omega) ?_
  repeat' (walk_at "st")
  split
  · rename_i h0
    simp only [List.length_map, decide_eq_true_eq] at h0
    have h1 := hp (by omega)
    repeat' (walk_at "st")
    refine itemAt.lst (d := rq 0) (by decide) (by decide) (by show (List.map rq p)[0]? = _; rw [List.getElem?_map, h1]; rfl) ?_
    repeat' (walk_at "st")
    refine rcompare_ok (by omega) ?_
    repeat' (walk_at "st")
    rw [if_neg (by decide)]
    repeat' (walk_at "st")
    rw [if_neg (by decide)]
    repeat' (walk_at "st")
    exact h
  · rw [if_neg (by decide)]
    repeat' (walk_at "st")
    exact h

def trimF (p : List Rat) : List Rat := (p.reverse.dropWhile (· == 0)).reverse
theorem trim_zero (l : List Rat) : trimF (l ++ [0]) = trimF l := by simp [trimF]
theorem trim_not {l : List Rat} {x : Rat} (h : x ≠ 0) : trimF (l ++ [x]) = l ++ [x] := by
  have : (x == 0) = false := by simpa using h
  simp [trimF, this]
theorem trim_take_zero {p : List Rat} {k : Nat} (h : p[k]? = some 0) : trimF (p.take (k + 1)) = trimF (p.take k) := by
  rw [List.take_add_one, h]; exact trim_zero _
theorem trim_take_not {p : List Rat} {k : Nat} {x : Rat} (h : p[k]? = some x) (hx : x ≠ 0) : trimF (p.take (k + 1)) = p.take (k + 1) := by
  rw [List.take_add_one, h]; exact trim_not hx
theorem qtrim_ok {p : List Rat} (hn : 1 ≤ c.n) (hl : p.length ≤ 1000) (h : P (.p (trimF p)) ω) : callT c ρ ω (.ref 106) [.p p] P := by
  refine call_def1 (ω₀ := []) (x := Str.ofString "row") (f := 106) (P := P) (by exact rfl) (by exact rfl) (fun u => by exact rfl) (by exact rfl) (by omega) (by exact rfl) (by exact rfl) (by exact rfl) (by decide) ?_
  intro c' hw hn' he
  repeat' (walk_at "st")
  refine call_len (by simp; omega) ?_
  repeat' (walk_at "st")
  refine ex_while (fun k ρ' ω' => ω' = [] ∧ ρ' (Str.ofString "size") = some (.i k) ∧ ρ' (Str.ofString "row") = some (.p p) ∧ k ≤ p.length ∧ trimF p = trimF (p.take k)) p.length ⟨rfl, ?_, by walk_at "lk", Nat.le_refl _, by rw [List.take_length]⟩ ?_
  · refine (if_pos rfl).trans ?_
    simp
  rintro k ρ' ω' ⟨rfl, hs, hr, hk, ht⟩
  repeat' (walk_at "st")
  split
  · rename_i h0
    have h0' : 0 < k := by simpa using h0
    obtain ⟨j, rfl⟩ : ∃ j, k = j + 1 := ⟨k - 1, by omega⟩
    obtain ⟨x, hx⟩ : ∃ x, p[j]? = some x := ⟨_, List.getElem?_eq_getElem (by omega)⟩
    repeat' (walk_at "st")
    refine itemAt.lst (d := rq x) (by omega) (by omega) ?_ ?_
    · have : (((j + 1 : Nat) : Int) - 1).toNat = j := by omega
      rw [this, List.getElem?_map, hx]; rfl
    repeat' (walk_at "st")
    split
    · rename_i h1
      have x0 : x = 0 := Rat.num_eq_zero.mp (by simpa using h1)
      subst x0
      repeat' (walk_at "st")
      rw [if_pos rfl]
      repeat' (walk_at "st")
      refine ex_subAug (m := ((j + 1 : Nat) : Int)) (by walk_at "sd") (by walk_at "sd") (by walk_at "lk") ?_
      repeat' (walk_at "st")
      refine ⟨j, by omega, rfl, ?_, by walk_at "lk", by omega, ht.trans (trim_take_zero hx)⟩
      refine (if_pos rfl).trans ?_
      congr 3; omega
    · rename_i h1
      have x0 : x ≠ 0 := fun e => h1 (by rw [e]; rfl)
      rw [if_neg (by decide)]
      repeat' (walk_at "st")
      refine ev_sliceTo (ev_var (by walk_at "lk") ⟨_, rfl, by simp; omega, ev_var (by walk_at "lk") ⟨_, rfl, by omega, ?_⟩⟩)
      repeat' (walk_at "st")
      refine call_list (by simp; omega) ?_
      rw [ht, trim_take_not hx x0] at h
      refine ⟨_, _, rfl, ?_⟩
      rw [Int.toNat_natCast, ← List.map_take]
      exact h
  · rename_i h0
    have h0' : k = 0 := by
      have : ¬ 0 < (k : Int) := by simpa using h0
      omega
    subst h0'
    rw [if_neg (by decide)]
    repeat' (walk_at "st")
    refine ev_sliceTo (ev_var (by walk_at "lk") ⟨_, rfl, by simp; omega, ev_var (by walk_at "lk") ⟨_, rfl, by omega, ?_⟩⟩)
    repeat' (walk_at "st")
    refine call_list (by simp) ?_
    have e : trimF p = [] := by rw [ht]; rfl
    rw [e] at h
    exact ⟨_, _, rfl, h⟩
end

def qaddF (a b : List Rat) : List Rat := trimF ((List.range (max a.length b.length)).map fun i => a.getD i 0 + b.getD i 0)
theorem rq_get {p : List Rat} {i : Nat} {x : Rat} (h : p[i]? = some x) : (p.map rq)[i]? = some (rq x) := by rw [List.getElem?_map, h]; rfl
section
variable {c : Cx} {ρ : Rho} {ω : Om} {P : Ab → Om → Prop}
set_option maxHeartbeats 1000000
theorem qadd_ok {j k : Nat} {a b : List Rat} (hn : 5 ≤ c.n) (la : a.length ≤ 1000) (lb : b.length ≤ 1000) (ha : ∀ q ∈ a, RS j q) (hb : ∀ q ∈ b, RS k q) (hj : 1 ≤ j) (hk : 1 ≤ k) (hjk : j + k ≤ 9000) (h : P (.p (qaddF a b)) ω) :
    callT c ρ ω (.ref 111) [.p a, .p b] P := by
  refine call_cells2 (ω₀ := []) (x := Str.ofString "a") (y := Str.ofString "b") (f := 111) (P := P) (by exact rfl) (by exact rfl) (fun u v => by exact rfl) (.inr ⟨by exact rfl, fun n => by exact rfl⟩) (.inr ⟨by exact rfl, fun n => by exact rfl⟩) (by decide) (by omega) (by decide) (by exact rfl) (by exact rfl) (by exact rfl) ?_
  intro c' hw hn' he
  repeat' (walk_at "st")
  refine call_len (by simp; omega) ?_
  repeat' (walk_at "st")
  refine call_len (by simp; omega) ?_
  repeat' (walk_at "st")
  refine call_max ?_
  repeat' (walk_at "st")
  refine ev_comp (by walk_at "sd") (by walk_at "sd") (by decide) (by exact rfl) (by decide) (by exact rfl) (Frees.set (Frees.set Frees.nil (y := Str.ofString "a") (by walk_at "lk") (by walk_at "sd") (by walk_at "sd") (by walk_at "sd")) (y := Str.ofString "b") (by walk_at "lk") (by walk_at "sd") (by walk_at "sd") (by walk_at "sd")) ?_
  refine itr_range1 (by walk_at "sd") (ev_var (by walk_at "lk") ⟨_, rfl, ?_, ?_, ?_⟩)
  · split <;> omega
  · simp only [List.length_map]; split <;> omega
  have em : (if ((List.map rq b).length : Int) > ((List.map rq a).length : Int) then ((List.map rq b).length : Int) else ((List.map rq a).length : Int)).toNat = max a.length b.length := by
    simp only [List.length_map]; split <;> omega
  rw [em]
  refine ⟨((List.range (max a.length b.length)).map fun i => a.getD i 0 + b.getD i 0).map rq, by simp [rangeD], by rw [rangeD_length]; omega, ?_, ?_⟩
  · intro c₂ C i d y hw₂ hn₂ he₂ hd hy
    rw [he] at he₂
    have hi : i < max a.length b.length := by
      have := (List.getElem?_eq_some_iff.mp hd).1
      rwa [rangeD_length] at this
    rw [rangeD_get hi] at hd
    cases hd
    have hy' : y = rq (a.getD i 0 + b.getD i 0) := by
      rw [rq_get (x := a.getD i 0 + b.getD i 0) (by simp [hi])] at hy
      exact (Option.some.inj hy).symm
    subst hy'
    have da : ∀ i, RS j (a.getD i 0) := fun i => by
      rw [List.getD_eq_getElem?_getD]
      cases q : a[i]? with
      | none => exact RS.zero.mono hj
      | some x => exact ha x (List.mem_of_getElem? q)
    have db : ∀ i, RS k (b.getD i 0) := fun i => by
      rw [List.getD_eq_getElem?_getD]
      cases q : b[i]? with
      | none => exact RS.zero.mono hk
      | some x => exact hb x (List.mem_of_getElem? q)
    repeat' (walk_at "st")
    refine call_len (by simp; omega) ?_
    repeat' (walk_at "st")
    have ti : (0 + (i : Int)).toNat = i := by omega
    have ga : i < a.length → (List.map rq a)[(0 + (i : Int)).toNat]? = some (rq (a.getD i 0)) := fun hl => by
      rw [ti]; exact rq_get (by rw [List.getD_eq_getElem?_getD, List.getElem?_eq_getElem hl]; rfl)
    have gb : i < b.length → (List.map rq b)[(0 + (i : Int)).toNat]? = some (rq (b.getD i 0)) := fun hl => by
      rw [ti]; exact rq_get (by rw [List.getD_eq_getElem?_getD, List.getElem?_eq_getElem hl]; rfl)
    have za : ¬ i < a.length → Ab.q (a.getD i 0) = Ab.t [.int 0, .int 1] := fun hl => by
      rw [List.getD_eq_getElem?_getD, List.getElem?_eq_none (by omega)]; rfl
    have zb : ¬ i < b.length → Ab.q (b.getD i 0) = Ab.t [.int 0, .int 1] := fun hl => by
      rw [List.getD_eq_getElem?_getD, List.getElem?_eq_none (by omega)]; rfl
    split
    · rename_i h1
      have h1' : i < a.length := by have := of_decide_eq_true h1; simp at this; omega
      repeat' (walk_at "st")
      refine itemAt.lst (by omega) (by omega) (ga h1') ?_
      repeat' (walk_at "st")
      refine call_len (by simp; omega) ?_
      repeat' (walk_at "st")
      split
      · rename_i h2
        have h2' : i < b.length := by have := of_decide_eq_true h2; simp at this; omega
        repeat' (walk_at "st")
        refine itemAt.lst (by omega) (by omega) (gb h2') ?_
        repeat' (walk_at "st")
        exact radd_ok (by omega) (da i) (db i) hjk ⟨rfl, rfl⟩
      · rename_i h2
        have h2' : ¬ i < b.length := fun q => h2 (decide_eq_true (by simp; omega))
        repeat' (walk_at "st")
        rw [← zb h2']
        exact radd_ok (by omega) (da i) (db i) hjk ⟨rfl, rfl⟩
    · rename_i h1
      have h1' : ¬ i < a.length := fun q => h1 (decide_eq_true (by simp; omega))
      repeat' (walk_at "st")
      refine call_len (by simp; omega) ?_
      repeat' (walk_at "st")
      split
      · rename_i h2
        have h2' : i < b.length := by have := of_decide_eq_true h2; simp at this; omega
        repeat' (walk_at "st")
        refine itemAt.lst (by omega) (by omega) (gb h2') ?_
        repeat' (walk_at "st")
        rw [← za h1']
        exact radd_ok (by omega) (da i) (db i) hjk ⟨rfl, rfl⟩
      · rename_i h2
        exfalso
        have h2' : ¬ i < b.length := fun q => h2 (decide_eq_true (by simp; omega))
        omega
  · repeat' (walk_at "st")
    refine qtrim_ok (by omega) ?_ ?_
    · simp; omega
    · exact ⟨_, _, rfl, h⟩
end

def zq (x : Int) : PyData := .tuple [.int x, .int 1]
abbrev Ab.z (x : Int) : Ab := .dat (zq x)
abbrev Ab.pz (p : List Int) : Ab := .l (p.map zq)
def cz (p : List Int) : List Rat := p.map fun (x : Int) => (x : Rat)
theorem rq_cast (x : Int) : rq (x : Rat) = zq x := rfl
theorem cz_rq (p : List Int) : (cz p).map rq = p.map zq := by
  unfold cz; rw [List.map_map]; rfl
theorem Ab.pz_p (p : List Int) : Ab.pz p = Ab.p (cz p) := by
  show Ab.l (p.map zq) = Ab.l ((cz p).map rq)
  rw [cz_rq]
theorem zq_get {p : List Int} {i : Nat} {x : Int} (h : p[i]? = some x) : (p.map zq)[i]? = some (zq x) := by rw [List.getElem?_map, h]; rfl
theorem RS.cast {k : Nat} {x : Int} (hk : 1 ≤ k) (h : Sz k x) : RS k (x : Rat) := ⟨h, Nat.lt_of_lt_of_le (show (1 : Nat) < 2 ^ 1 by decide) (Nat.pow_le_pow_right (by decide) hk)⟩
theorem RS.cz {k : Nat} {p : List Int} (hk : 1 ≤ k) (h : ∀ x ∈ p, Sz k x) : ∀ q ∈ cz p, RS k q := fun q hq => by
  obtain ⟨x, hx, rfl⟩ := List.mem_map.mp hq
  exact RS.cast hk (h x hx)
theorem cz_length (p : List Int) : (cz p).length = p.length := by simp [cz]
def qscaleF (p : List Rat) (r : Rat) : List Rat := if r = 0 then [] else p.map (· * r)
def qscaleZ (p : List Int) (r : Int) : List Int := if r = 0 then [] else p.map (· * r)
theorem qscale_cz (p : List Int) (r : Int) : qscaleF (cz p) (r : Rat) = cz (qscaleZ p r) := by
  unfold qscaleF qscaleZ
  by_cases h : r = 0
  · subst h; simp [cz]
  · have h' : (r : Rat) ≠ 0 := fun e => h (Rat.intCast_eq_zero_iff.mp e)
    rw [if_neg h, if_neg h']
    simp [cz, Rat.intCast_mul]
def trimZ (p : List Int) : List Int := (p.reverse.dropWhile (· == 0)).reverse
theorem trim_cz (p : List Int) : trimF (cz p) = cz (trimZ p) := by
  unfold trimF trimZ cz
  rw [← List.map_reverse, List.dropWhile_map, ← List.map_reverse]
  congr 2
  have : ((fun (x : Rat) => x == 0) ∘ fun (x : Int) => (x : Rat)) = fun (x : Int) => x == 0 := by
    funext x
    simp only [Function.comp]
    by_cases h : x = 0
    · subst h; rfl
    · have h' : (x : Rat) ≠ 0 := fun e => h (Rat.intCast_eq_zero_iff.mp e)
      rw [beq_eq_false_iff_ne.mpr h, beq_eq_false_iff_ne.mpr h']
  rw [this]
def qaddZ (a b : List Int) : List Int := trimZ ((List.range (max a.length b.length)).map fun i => a.getD i 0 + b.getD i 0)
theorem cz_getD (p : List Int) (i : Nat) : (cz p).getD i 0 = ((p.getD i 0 : Int) : Rat) := by
  simp only [List.getD_eq_getElem?_getD, cz, List.getElem?_map]
  cases p[i]? <;> rfl
theorem qadd_cz (a b : List Int) : qaddF (cz a) (cz b) = cz (qaddZ a b) := by
  unfold qaddF qaddZ
  rw [← trim_cz, cz_length, cz_length]
  congr 1
  unfold cz
  rw [List.map_map]
  refine List.map_congr_left fun i _ => ?_
  show (cz a).getD i 0 + (cz b).getD i 0 = _
  rw [cz_getD, cz_getD, ← Rat.intCast_add]; rfl
section
variable {c : Cx} {ρ : Rho} {ω : Om} {P : Ab → Om → Prop}
set_option maxHeartbeats 1000000
theorem radd_z {j k : Nat} {x y : Int} (hn : 3 ≤ c.n) (hj : 1 ≤ j) (hk : 1 ≤ k) (hx : Sz j x) (hy : Sz k y) (hl : j + k ≤ 9000) (h : P (.z (x + y)) ω) : callT c ρ ω (.ref 64) [.z x, .z y] P :=
  radd_ok (a := (x : Rat)) (b := (y : Rat)) hn (RS.cast hj hx) (RS.cast hk hy) hl (by rw [← Rat.intCast_add]; exact h)
theorem rmul_z {j k : Nat} {x y : Int} (hn : 3 ≤ c.n) (hj : 1 ≤ j) (hk : 1 ≤ k) (hx : Sz j x) (hy : Sz k y) (hl : j + k ≤ 9000) (h : P (.z (x * y)) ω) : callT c ρ ω (.ref 78) [.z x, .z y] P :=
  rmul_ok (a := (x : Rat)) (b := (y : Rat)) hn (RS.cast hj hx) (RS.cast hk hy) hl (by rw [← Rat.intCast_mul]; exact h)
theorem qadd_z {j k : Nat} {a b : List Int} (hn : 5 ≤ c.n) (la : a.length ≤ 1000) (lb : b.length ≤ 1000) (ha : ∀ q ∈ a, Sz j q) (hb : ∀ q ∈ b, Sz k q) (hj : 1 ≤ j) (hk : 1 ≤ k) (hjk : j + k ≤ 9000) (h : P (.pz (qaddZ a b)) ω) :
    callT c ρ ω (.ref 111) [.pz a, .pz b] P := by
  rw [Ab.pz_p, Ab.pz_p]
  refine qadd_ok hn (by rwa [cz_length]) (by rwa [cz_length]) (RS.cz hj ha) (RS.cz hk hb) hj hk hjk ?_
  rw [qadd_cz, ← Ab.pz_p]; exact h
theorem qtrim_z {p : List Int} (hn : 1 ≤ c.n) (hl : p.length ≤ 1000) (h : P (.pz (trimZ p)) ω) : callT c ρ ω (.ref 106) [.pz p] P := by
  rw [Ab.pz_p]
  refine qtrim_ok hn (by rwa [cz_length]) ?_
  rw [trim_cz, ← Ab.pz_p]; exact h
theorem qscale_ok {j k : Nat} {p : List Rat} {r : Rat} (hn : 4 ≤ c.n) (lp : p.length ≤ 1000) (hp : ∀ q ∈ p, RS j q) (hr : RS k r) (hjk : j + k ≤ 9000) (h : P (.p (qscaleF p r)) ω) :
    callT c ρ ω (.ref 116) [.p p, .q r] P := by
  refine call_cells2 (ω₀ := []) (x := Str.ofString "p") (y := Str.ofString "r") (f := 116) (P := P) (by exact rfl) (by exact rfl) (fun u v => by exact rfl) (.inl (by exact rfl)) (.inr ⟨by exact rfl, fun n => by exact rfl⟩) (by decide) (by omega) (by decide) (by exact rfl) (by exact rfl) (by exact rfl) ?_
  intro c' hw hn' he
  unfold qscaleF at h
  repeat' (walk_at "st")
  split
  · rename_i h0
    have h1 : r ≠ 0 := fun e => by subst e; simp at h0
    rw [if_neg h1] at h
    refine ev_comp (by walk_at "sd") (by walk_at "sd") (by decide) (by exact rfl) (by decide) (by exact rfl) (Frees.set Frees.nil (y := Str.ofString "r") (by walk_at "lk") (by walk_at "sd") (by walk_at "sd") (by walk_at "sd")) ?_
    refine itr_list (ev_var (by walk_at "lk") ⟨_, rfl, (p.map (· * r)).map rq, by simp, by simpa using lp, ?_, ?_⟩)
    · intro c₂ C i d y hw₂ hn₂ he₂ hd hy
      rw [he] at he₂
      rw [List.getElem?_map] at hd
      obtain ⟨x, hx, rfl⟩ := Option.map_eq_some_iff.mp hd
      have hy' : y = rq (x * r) := by
        rw [rq_get (x := x * r) (by rw [List.getElem?_map, hx]; rfl)] at hy
        exact (Option.some.inj hy).symm
      subst hy'
      repeat' (walk_at "st")
      exact rmul_ok (by omega) (hp x (List.mem_of_getElem? hx)) hr hjk ⟨rfl, rfl⟩
    · exact ⟨_, _, rfl, h⟩
  · rename_i h0
    have h1 : r = 0 := Rat.num_eq_zero.mp (by simpa using h0)
    rw [if_pos h1] at h
    refine ev_list (evs_nil ⟨[], rfl, by decide, ?_⟩)
    exact ⟨_, _, rfl, h⟩
theorem qscale_z {j k : Nat} {p : List Int} {r : Int} (hn : 4 ≤ c.n) (lp : p.length ≤ 1000) (hp : ∀ q ∈ p, Sz j q) (hr : Sz k r) (hj : 1 ≤ j) (hk : 1 ≤ k) (hjk : j + k ≤ 9000) (h : P (.pz (qscaleZ p r)) ω) :
    callT c ρ ω (.ref 116) [.pz p, .z r] P := by
  rw [Ab.pz_p]
  refine qscale_ok (r := (r : Rat)) hn (by rwa [cz_length]) (RS.cz hj hp) (RS.cast hk hr) hjk ?_
  rw [qscale_cz, ← Ab.pz_p]; exact h
end

def mulIn (x : Int) (b : List Int) (i : Nat) : Nat → List Int → List Int
  | 0, acc => acc
  | m + 1, acc => (mulIn x b i m acc).set (i + m) ((mulIn x b i m acc).getD (i + m) 0 + x * b.getD m 0)
def mulOut (a b : List Int) : Nat → List Int
  | 0 => List.replicate (a.length + b.length - 1) 0
  | n + 1 => mulIn (a.getD n 0) b n b.length (mulOut a b n)
def qmulZ (a b : List Int) : List Int := if a.length = 0 ∨ b.length = 0 then [] else mulOut a b a.length
theorem Sz.zero (k : Nat) : Sz k 0 := Nat.two_pow_pos k
theorem getD_sz {k : Nat} {p : List Int} (h : ∀ x ∈ p, Sz k x) (i : Nat) : Sz k (p.getD i 0) := by
  rw [List.getD_eq_getElem?_getD]
  cases q : p[i]? with
  | none => exact Sz.zero k
  | some x => exact h x (List.mem_of_getElem? q)
theorem mulIn_length (x : Int) (b : List Int) (i : Nat) : ∀ (m : Nat) (acc : List Int), (mulIn x b i m acc).length = acc.length
  | 0, _ => rfl
  | m + 1, acc => by rw [mulIn, List.length_set, mulIn_length]
theorem mulOut_length (a b : List Int) : ∀ n, (mulOut a b n).length = a.length + b.length - 1
  | 0 => by simp [mulOut]
  | n + 1 => by rw [mulOut, mulIn_length, mulOut_length]
theorem mulIn_sz {j k s : Nat} {x : Int} {b : List Int} {i : Nat} (hx : Sz j x) (hb : ∀ y ∈ b, Sz k y) (hs : j + k ≤ s) {acc : List Int} (ha : ∀ y ∈ acc, Sz s y) : ∀ m, ∀ y ∈ mulIn x b i m acc, Sz (s + m) y
  | 0, y, hy => ha y hy
  | m + 1, y, hy => by
    rw [mulIn] at hy
    have ih := mulIn_sz (i := i) hx hb hs ha m
    rcases List.mem_or_eq_of_mem_set hy with hy | rfl
    · exact (ih y hy).mono (by omega)
    · exact Sz.add (k := s + m) (getD_sz ih _) ((hx.mul (getD_sz hb m)).mono (by omega))
theorem mulOut_sz {j k : Nat} {a b : List Int} (ha : ∀ y ∈ a, Sz j y) (hb : ∀ y ∈ b, Sz k y) : ∀ n, ∀ y ∈ mulOut a b n, Sz (j + k + n * b.length) y
  | 0, y, hy => by rw [List.eq_of_mem_replicate hy]; exact Sz.zero _
  | n + 1, y, hy => by
    rw [mulOut] at hy
    exact (mulIn_sz (getD_sz ha n) hb (by omega) (mulOut_sz ha hb n) _ y hy).mono (by rw [Nat.add_mul]; omega)
theorem qmul_sz {j k : Nat} {a b : List Int} (ha : ∀ y ∈ a, Sz j y) (hb : ∀ y ∈ b, Sz k y) : ∀ y ∈ qmulZ a b, Sz (j + k + a.length * b.length) y := by
  unfold qmulZ
  split
  · intro y hy; cases hy
  · exact mulOut_sz ha hb _
theorem qmul_length {a b : List Int} : (qmulZ a b).length ≤ a.length + b.length := by
  unfold qmulZ
  split
  · exact Nat.zero_le _
  · rw [mulOut_length]; omega
theorem set_map_zq (l : List Int) (i : Nat) (x : Int) : (l.map zq).set i (zq x) = (l.set i x).map zq := by rw [List.map_set]
section
variable {c : Cx} {ρ : Rho} {ω : Om} {P : Ab → Om → Prop}
set_option maxHeartbeats 1000000
theorem qmul_z {j k : Nat} {a b : List Int} (hn : 4 ≤ c.n) (la : a.length ≤ 30) (lb : b.length ≤ 30) (ha : ∀ q ∈ a, Sz j q) (hb : ∀ q ∈ b, Sz k q) (hj : 1 ≤ j) (hk : 1 ≤ k) (hjk : j + k ≤ 1000) (h : P (.pz (qmulZ a b)) ω) :
    callT c ρ ω (.ref 123) [.pz a, .pz b] P := by
  refine call_def2 (ω₀ := []) (x := Str.ofString "a") (y := Str.ofString "b") (f := 123) (P := P) (by exact rfl) (by exact rfl) (fun u v => by exact rfl) (by exact rfl) (by exact rfl) (by decide) (by omega) (by exact rfl) (by exact rfl) (by exact rfl) (by decide) ?_
  intro c' hw hn' he
  unfold qmulZ at h
  repeat' (walk_at "st")
  refine call_len (by simp; omega) ?_
  repeat' (walk_at "st")
  split
  · rename_i h0
    have h1 : a.length = 0 := by have : ((List.map zq a).length : Int) = 0 := by simpa using h0
                                 simp at this; simp [this]
    rw [if_pos (.inl h1)] at h
    rw [if_pos rfl]
    repeat' (walk_at "st")
    refine ev_list (evs_nil ⟨[], rfl, by decide, ?_⟩)
    exact ⟨_, _, rfl, h⟩
  rename_i h0
  have h1 : a.length ≠ 0 := fun e => h0 (by simp [List.eq_nil_of_length_eq_zero e])
  repeat' (walk_at "st")
  refine call_len (by simp; omega) ?_
  repeat' (walk_at "st")
  split
  · rename_i h2
    have h3 : b.length = 0 := by have : ((List.map zq b).length : Int) = 0 := by simpa using h2
                                 simp at this; simp [this]
    rw [if_pos (.inr h3)] at h
    rw [if_pos rfl]
    repeat' (walk_at "st")
    refine ev_list (evs_nil ⟨[], rfl, by decide, ?_⟩)
    exact ⟨_, _, rfl, h⟩
  rename_i h2
  have h3 : b.length ≠ 0 := fun e => h2 (by simp [List.eq_nil_of_length_eq_zero e])
  rw [if_neg (by omega)] at h
  repeat' (walk_at "st")
  rw [if_neg (by decide)]
  repeat' (walk_at "st")
  refine ev_listOwn (evs_cons (ev_R0 (by walk_at "sd") (evs_nil ⟨[zq 0], rfl, by decide, fun l => ?_⟩)))
  repeat' (walk_at "st")
  refine call_len (by simp; omega) ?_
  repeat' (walk_at "st")
  refine call_len (by simp; omega) ?_
  repeat' (walk_at "st")
  refine bin_rep (by simp; omega) (by simp; omega) fun D => ?_
  have er : ((((List.map zq a).length : Int) + ((List.map zq b).length : Int)) - 1).toNat = a.length + b.length - 1 := by simp; omega
  rw [er]
  have e0 : List.replicate (a.length + b.length - 1) (zq 0) = (mulOut a b 0).map zq := by simp [mulOut]
  rw [e0]
  repeat' (walk_at "st")
  refine ex_forEnum (by walk_at "sd") (by walk_at "sd") (by walk_at "sd") (by walk_at "sd") (ev_var (by walk_at "lk") ⟨_, rfl, ?_⟩)
  refine ⟨fun i ρ' ω' => ω' = [(D, .lst ((mulOut a b i).map zq))] ∧ ρ' (Str.ofString "found") = some (.own D) ∧ ρ' (Str.ofString "b") = some (.pz b), ⟨rfl, by walk_at "lk", by walk_at "lk"⟩, ?_, ?_⟩
  · rintro i d ρ' ω' hd ⟨rfl, hf, hb'⟩
    rw [List.getElem?_map] at hd
    obtain ⟨x, hx, rfl⟩ := Option.map_eq_some_iff.mp hd
    have hi : i < a.length := (List.getElem?_eq_some_iff.mp hx).1
    have hxi : a.getD i 0 = x := by rw [List.getD_eq_getElem?_getD, hx]; rfl
    repeat' (walk_at "st")
    refine ex_forEnum (by walk_at "sd") (by walk_at "sd") (by walk_at "sd") (by walk_at "sd") (ev_var (by walk_at "lk") ⟨_, rfl, ?_⟩)
    refine ⟨fun m ρ' ω' => ω' = [(D, .lst ((mulIn x b i m (mulOut a b i)).map zq))] ∧ ρ' (Str.ofString "found") = some (.own D) ∧ ρ' (Str.ofString "b") = some (.pz b) ∧ ρ' (Str.ofString "one") = some (.i i) ∧ ρ' (Str.ofString "left") = some (.z x), ⟨rfl, by walk_at "lk", by walk_at "lk", by walk_at "lk", by walk_at "lk"⟩, ?_, ?_⟩
    · rintro m d ρ₂ ω₂ hd ⟨rfl, hf, hb', ho, hl⟩
      rw [List.getElem?_map] at hd
      obtain ⟨y, hy, rfl⟩ := Option.map_eq_some_iff.mp hd
      have hm : m < b.length := (List.getElem?_eq_some_iff.mp hy).1
      have hym : b.getD m 0 = y := by rw [List.getD_eq_getElem?_getD, hy]; rfl
      have hxs : Sz j x := ha x (List.mem_of_getElem? hx)
      have hys : Sz k y := hb y (List.mem_of_getElem? hy)
      have hlen : i + m < (mulIn x b i m (mulOut a b i)).length := by rw [mulIn_length, mulOut_length]; omega
      have hmul : i * b.length ≤ 30 * 30 := Nat.mul_le_mul (by omega) lb
      have hacc := mulIn_sz (i := i) hxs hb (by omega) (mulOut_sz ha hb i) m
      have eim : ((i : Int) + (m : Int)).toNat = i + m := by omega
      have hv : (mulIn x b i m (mulOut a b i))[i + m]? = some ((mulIn x b i m (mulOut a b i)).getD (i + m) 0) := by
        rw [List.getD_eq_getElem?_getD, List.getElem?_eq_getElem hlen]; rfl
      repeat' (walk_at "st")
      refine ex_setitem (l := D) (by walk_at "lk") ?_
      repeat' (walk_at "st")
      refine itemAt.own (ω₁ := []) (ω₂ := []) (d := zq ((mulIn x b i m (mulOut a b i)).getD (i + m) 0)) (by omega) (by omega) (by rw [eim]; exact zq_get hv) ?_
      repeat' (walk_at "st")
      refine rmul_z (by omega) hj hk hxs hys (by omega) ?_
      repeat' (walk_at "st")
      refine radd_z (j := j + k + i * b.length + m) (k := j + k) (by omega) (by omega) (by omega) (getD_sz hacc _) (hxs.mul hys) (by omega) ?_
      repeat' (walk_at "st")
      refine ⟨_, _, [], [], rfl, rfl, by omega, by omega, by rw [eim]; simpa using hlen, ?_⟩
      repeat' (walk_at "st")
      refine ⟨?_, by walk_at "lk", by walk_at "lk", by walk_at "lk", by walk_at "lk"⟩
      rw [eim, set_map_zq, mulIn, hym]; rfl
    · rintro ρ₂ ω₂ ⟨rfl, hf, hb', ho, hl⟩
      repeat' (walk_at "st")
      refine ⟨?_, by walk_at "lk", by walk_at "lk"⟩
      rw [mulOut, hxi, List.length_map]
  · rintro ρ' ω' ⟨rfl, hf, hb'⟩
    refine ex_cons (ex_returnOwn (ev_var (by walk_at "lk") ⟨D, _, [], [], rfl, rfl, ?_⟩))
    refine ⟨_, _, rfl, ?_⟩
    rw [List.length_map]
    exact h
end

theorem trimZ_mem {p : List Int} {x : Int} (h : x ∈ trimZ p) : x ∈ p := by
  unfold trimZ at h
  rw [List.mem_reverse] at h
  exact List.mem_reverse.mp ((List.dropWhile_sublist _).mem h)
theorem trimZ_length (p : List Int) : (trimZ p).length ≤ p.length := by
  unfold trimZ
  rw [List.length_reverse]
  exact Nat.le_trans (List.dropWhile_sublist _).length_le (by simp)
theorem qadd_length (a b : List Int) : (qaddZ a b).length ≤ max a.length b.length := by
  refine Nat.le_trans (trimZ_length _) ?_
  simp
theorem qadd_sz {j : Nat} {a b : List Int} (ha : ∀ x ∈ a, Sz j x) (hb : ∀ x ∈ b, Sz j x) : ∀ x ∈ qaddZ a b, Sz (j + 1) x := fun x hx => by
  have h := trimZ_mem hx
  obtain ⟨i, hi, rfl⟩ := List.mem_map.mp h
  exact Sz.add (getD_sz ha i) (getD_sz hb i)
def qpowerZ (p : List Int) : Nat → List Int
  | 0 => [1]
  | n + 1 => qmulZ (qpowerZ p n) p
theorem Sz.one {k : Nat} (h : 1 ≤ k) : Sz k 1 := Nat.lt_of_lt_of_le (show (1 : Nat) < 2 ^ 1 by decide) (Nat.pow_le_pow_right (by decide) h)
theorem qpower_length {p : List Int} (lp : p.length ≤ 2) : ∀ n, (qpowerZ p n).length ≤ 1 + 2 * n
  | 0 => by simp [qpowerZ]
  | n + 1 => by
    have h := qmul_length (a := qpowerZ p n) (b := p)
    have ih := qpower_length lp n
    rw [qpowerZ]; omega
theorem qpower_sz {k : Nat} {p : List Int} (lp : p.length ≤ 2) (hp : ∀ x ∈ p, Sz k x) : ∀ n, n ≤ 8 → ∀ x ∈ qpowerZ p n, Sz (1 + n * (k + 40)) x
  | 0, _, x, hx => by rw [List.mem_singleton.mp hx]; exact Sz.one (by omega)
  | n + 1, hn, x, hx => by
    have ih := qpower_sz lp hp n (by omega)
    have h := qmul_sz ih hp x hx
    have hl : (qpowerZ p n).length * p.length ≤ 17 * 2 := Nat.mul_le_mul (by have := qpower_length lp n; omega) lp
    exact h.mono (by rw [Nat.add_mul]; omega)
def qderiveZ (p : List Int) : List Int := ((List.range p.length).map fun i => p.getD i 0 * (i : Int)).drop 1
theorem qderive_sz {j : Nat} {p : List Int} (hl : p.length ≤ 1000) (hp : ∀ x ∈ p, Sz j x) : ∀ x ∈ qderiveZ p, Sz (j + 10) x := fun x hx => by
  obtain ⟨i, hi, rfl⟩ := List.mem_map.mp (List.mem_of_mem_drop hx)
  have hi' := List.mem_range.mp hi
  exact (getD_sz hp i).mul (show ((i : Int)).natAbs < 2 ^ 10 by rw [Int.natAbs_natCast]; omega)
theorem qderive_length (p : List Int) : (qderiveZ p).length ≤ p.length := by simp [qderiveZ]
def qatZ (p : List Int) (r : Int) : Int := p.reverse.foldl (fun acc x => acc * r + x) 0
theorem qat_fold (r : Int) : ∀ (l : List Int) (acc : Int), (cz l).foldl (fun acc x => acc * (r : Rat) + x) (acc : Rat) = ((l.foldl (fun acc x => acc * r + x) acc : Int) : Rat)
  | [], acc => rfl
  | x :: l, acc => by
    show (cz l).foldl _ ((acc : Rat) * (r : Rat) + (x : Rat)) = _
    rw [← Rat.intCast_mul, ← Rat.intCast_add, qat_fold r l]; rfl
theorem qat_cz (p : List Int) (r : Int) : qatF (cz p) (r : Rat) = ((qatZ p r : Int) : Rat) := by
  unfold qatF qatZ
  have : (cz p).reverse = cz p.reverse := by simp [cz]
  rw [this]
  exact qat_fold r p.reverse 0
theorem qatZ_sz {k m : Nat} {p : List Int} {r : Int} (hk : 1 ≤ k) (hm : 1 ≤ m) (hp : ∀ x ∈ p, Sz k x) (hr : Sz m r) : Sz (1 + p.length * (m + k + 1)) (qatZ p r) := by
  have := (qat_sz (r := (r : Rat)) (RS.cz hk hp) (RS.cast hm hr)).1
  rw [cz_length, qat_cz] at this
  exact this
def compStep (b : List Int) (acc : List Int) (x : Int) : List Int := qaddZ (qmulZ acc b) (trimZ [x])
def qcomposeZ (a b : List Int) : List Int := a.reverse.foldl (compStep b) []
theorem comp_size {j k : Nat} {b : List Int} (lb : b.length ≤ 2) (hb : ∀ x ∈ b, Sz k x) : ∀ (l : List Int) (acc : List Int) (n s : Nat), acc.length ≤ 2 * n → n + l.length ≤ 8 → j ≤ s → (∀ x ∈ acc, Sz s x) → (∀ x ∈ l, Sz j x) →
    (l.foldl (compStep b) acc).length ≤ 2 * (n + l.length) ∧ ∀ x ∈ l.foldl (compStep b) acc, Sz (s + l.length * (k + 40)) x
  | [], acc, n, s, h1, _, _, h2, _ => ⟨by simpa using h1, by simpa using h2⟩
  | x :: l, acc, n, s, h1, h2, hs, h3, h4 => by
    rw [List.length_cons] at h2
    have l1 : (compStep b acc x).length ≤ 2 * (n + 1) := by
      have a1 := qadd_length (qmulZ acc b) (trimZ [x])
      have a2 := qmul_length (a := acc) (b := b)
      have a3 := trimZ_length [x]
      simp only [List.length_cons, List.length_nil] at a3
      unfold compStep
      omega
    have lm : acc.length * b.length ≤ 16 * 2 := Nat.mul_le_mul (by omega) lb
    have s1 : ∀ y ∈ compStep b acc x, Sz (s + (k + 40)) y := fun y hy => by
      refine (qadd_sz (j := s + k + 32) (fun z hz => (qmul_sz h3 hb z hz).mono (by omega)) (fun z hz => ?_) y hy).mono (by omega)
      have hz' := trimZ_mem hz
      rw [List.mem_singleton.mp hz']
      exact (h4 x (.head _)).mono (by omega)
    have ih := comp_size lb hb l (compStep b acc x) (n + 1) (s + (k + 40)) l1 (by omega) (by omega) s1 fun y hy => h4 y (.tail _ hy)
    rw [List.foldl_cons, List.length_cons]
    exact ⟨by have := ih.1; omega, fun y hy => (ih.2 y hy).mono (by rw [Nat.add_mul]; omega)⟩
section
variable {c : Cx} {ρ : Rho} {ω : Om} {P : Ab → Om → Prop}
set_option maxHeartbeats 1000000
theorem qat_z {k m : Nat} {p : List Int} {r : Int} (hn : 4 ≤ c.n) (hk : 1 ≤ k) (hm : 1 ≤ m) (hp : ∀ q ∈ p, Sz k q) (hr : Sz m r) (hl : 1 + p.length * (m + k + 1) ≤ 9000) (h : P (.z (qatZ p r)) ω) : callT c ρ ω (.ref 142) [.pz p, .z r] P := by
  rw [Ab.pz_p]
  refine qat_ok (r := (r : Rat)) hn (RS.cz hk hp) (RS.cast hm hr) (by rwa [cz_length]) ?_
  rw [qat_cz]; exact h
theorem qpower_z {k n : Nat} {p : List Int} (hn : 5 ≤ c.n) (hk : 1 ≤ k) (hk' : k ≤ 60) (lp : p.length ≤ 2) (hp : ∀ q ∈ p, Sz k q) (hm : n ≤ 8) (h : P (.pz (qpowerZ p n)) ω) : callT c ρ ω (.ref 130) [.pz p, .i n] P := by
  refine call_def2 (ω₀ := []) (x := Str.ofString "p") (y := Str.ofString "many") (f := 130) (P := P) (by exact rfl) (by exact rfl) (fun u v => by exact rfl) (by exact rfl) (by exact rfl) (by decide) (by omega) (by exact rfl) (by exact rfl) (by exact rfl) (by decide) ?_
  intro c' hw hn' he
  repeat' (walk_at "st")
  refine ev_list (evs_cons (ev_R1 (by walk_at "sd") (evs_nil ⟨[zq 1], rfl, by decide, ?_⟩)))
  repeat' (walk_at "st")
  refine ex_for (by walk_at "sd") (by walk_at "sd") (itr_range1 (by walk_at "sd") (ev_var (by walk_at "lk") ⟨_, rfl, by omega, by omega, ?_⟩))
  refine ⟨fun i ρ' ω' => ω' = [] ∧ ρ' (Str.ofString "found") = some (.pz (qpowerZ p i)) ∧ ρ' (Str.ofString "p") = some (.pz p), ⟨rfl, by walk_at "lk", by walk_at "lk"⟩, ?_, ?_⟩
  · rintro i d ρ' ω' hd ⟨rfl, hf, hp'⟩
    have hi : i < n := by
      have := (List.getElem?_eq_some_iff.mp hd).1
      rw [rangeD_length] at this; omega
    repeat' (walk_at "st")
    have hb : i * (k + 40) ≤ 8 * 100 := Nat.mul_le_mul (by omega) (by omega)
    refine qmul_z (by omega) (by have := qpower_length lp i; omega) (by omega) (qpower_sz lp hp i (by omega)) hp (by omega) hk (by omega) ?_
    repeat' (walk_at "st")
    exact ⟨rfl, by walk_at "lk", by walk_at "lk"⟩
  · rintro ρ' ω' ⟨rfl, hf, hp'⟩
    rw [rangeD_length] at hf
    repeat' (walk_at "st")
    exact h
theorem qderive_z {k : Nat} {p : List Int} (hn : 4 ≤ c.n) (hk : 1 ≤ k) (hk' : k ≤ 1000) (lp : p.length ≤ 1000) (hp : ∀ q ∈ p, Sz k q) (h : P (.pz (qderiveZ p)) ω) : callT c ρ ω (.ref 135) [.pz p] P := by
  refine call_def1 (ω₀ := []) (x := Str.ofString "p") (f := 135) (P := P) (by exact rfl) (by exact rfl) (fun u => by exact rfl) (by exact rfl) (by omega) (by exact rfl) (by exact rfl) (by exact rfl) (by decide) ?_
  intro c' hw hn' he
  repeat' (walk_at "st")
  refine ev_sliceFrom (ev_compEnum (by walk_at "sd") (by walk_at "sd") (by decide) (by exact rfl) (by decide) (by exact rfl) (by exact rfl) (by walk_at "sd") ?_)
  refine ev_var (by walk_at "lk") ⟨_, rfl, ((List.range p.length).map fun i => p.getD i 0 * (i : Int)).map zq, by simp, by simpa using lp, ?_, ?_⟩
  · intro c₂ C i d y hw₂ hn₂ he₂ hd hy
    rw [he] at he₂
    rw [List.getElem?_map] at hd
    obtain ⟨x, hx, rfl⟩ := Option.map_eq_some_iff.mp hd
    have hi : i < p.length := (List.getElem?_eq_some_iff.mp hx).1
    have hxi : p.getD i 0 = x := by rw [List.getD_eq_getElem?_getD, hx]; rfl
    have hy' : y = zq (x * (i : Int)) := by
      rw [zq_get (x := x * (i : Int)) (by rw [List.getElem?_map, List.getElem?_range hi]; show some (p.getD i 0 * (i : Int)) = _; rw [hxi])] at hy
      exact (Option.some.inj hy).symm
    subst hy'
    repeat' (walk_at "st")
    refine rmul_z (j := k) (k := 10) (x := x) (y := (i : Int)) (by omega) hk (by omega) (hp x (List.mem_of_getElem? hx)) (show ((i : Int)).natAbs < 2 ^ 10 by rw [Int.natAbs_natCast]; omega) (by omega) ⟨rfl, rfl⟩
  · refine ⟨_, rfl, by simp; omega, ev_int ⟨_, rfl, by decide, ?_⟩⟩
    refine ⟨_, _, rfl, ?_⟩
    rw [show (1 : Int).toNat = 1 from rfl, ← List.map_drop]
    exact h
theorem qcompose_z {j k : Nat} {a b : List Int} (hn : 6 ≤ c.n) (hj : 1 ≤ j) (hj' : j ≤ 300) (hk : 1 ≤ k) (hk' : k ≤ 30) (la : a.length ≤ 8) (lb : b.length ≤ 2) (ha : ∀ q ∈ a, Sz j q) (hb : ∀ q ∈ b, Sz k q) (h : P (.pz (qcomposeZ a b)) ω) :
    callT c ρ ω (.ref 149) [.pz a, .pz b] P := by
  refine call_def2 (ω₀ := []) (x := Str.ofString "a") (y := Str.ofString "b") (f := 149) (P := P) (by exact rfl) (by exact rfl) (fun u v => by exact rfl) (by exact rfl) (by exact rfl) (by decide) (by omega) (by exact rfl) (by exact rfl) (by exact rfl) (by decide) ?_
  intro c' hw hn' he
  repeat' (walk_at "st")
  refine ev_list (evs_nil ⟨[], rfl, by decide, ?_⟩)
  repeat' (walk_at "st")
  refine ex_for (by walk_at "sd") (by walk_at "sd") (itr_reversed (by walk_at "sd") (ev_var (by walk_at "lk") ⟨_, rfl, ?_⟩))
  refine ⟨fun i ρ' ω' => ω' = [] ∧ ρ' (Str.ofString "found") = some (.pz ((a.reverse.take i).foldl (compStep b) [])) ∧ ρ' (Str.ofString "b") = some (.pz b), ⟨rfl, by walk_at "lk", by walk_at "lk"⟩, ?_, ?_⟩
  · rintro i d ρ' ω' hd ⟨rfl, hf, hb'⟩
    rw [← List.map_reverse, List.getElem?_map] at hd
    obtain ⟨x, hx, rfl⟩ := Option.map_eq_some_iff.mp hd
    have hx' : x ∈ a := List.mem_reverse.mp (List.mem_of_getElem? hx)
    have hi : i < a.length := by have := (List.getElem?_eq_some_iff.mp hx).1; simpa using this
    have hlen : (a.reverse.take i).length = i := by simp; omega
    have hsz := comp_size (j := j) lb hb (a.reverse.take i) [] 0 j (by simp) (by omega) (Nat.le_refl _) (by intro y hy; cases hy) fun y hy => ha y (List.mem_reverse.mp (List.mem_of_mem_take hy))
    rw [hlen] at hsz
    have hm : i * (k + 40) ≤ 8 * 70 := Nat.mul_le_mul (by omega) (by omega)
    have hlb : ((a.reverse.take i).foldl (compStep b) []).length * b.length ≤ 16 * 2 := Nat.mul_le_mul (by have := hsz.1; omega) lb
    repeat' (walk_at "st")
    refine qmul_z (by omega) (by have := hsz.1; omega) (by omega) hsz.2 hb (by omega) hk (by omega) ?_
    repeat' (walk_at "st")
    refine ev_list (evs_cons (ev_var (by walk_at "lk") (evs_nil ⟨[zq x], rfl, by simp, ?_⟩)))
    repeat' (walk_at "st")
    refine qtrim_z (p := [x]) (by omega) (by simp) ?_
    repeat' (walk_at "st")
    refine qadd_z (by omega) (by have := qmul_length (a := (a.reverse.take i).foldl (compStep b) []) (b := b); have := hsz.1; omega) (by have := trimZ_length [x]; simp at this; omega) (qmul_sz hsz.2 hb) (j := j + i * (k + 40) + k + ((a.reverse.take i).foldl (compStep b) []).length * b.length) (k := j) (fun y hy => ?_) (by omega) hj (by omega) ?_
    · rw [List.mem_singleton.mp (trimZ_mem hy)]; exact ha x hx'
    repeat' (walk_at "st")
    refine ⟨rfl, (if_pos rfl).trans ?_, by walk_at "lk"⟩
    rw [List.take_add_one, hx]; simp [compStep]
  · rintro ρ' ω' ⟨rfl, hf, hb'⟩
    have hlen : (List.map zq a).reverse.length = a.reverse.length := by simp
    rw [hlen, List.take_length] at hf
    repeat' (walk_at "st")
    exact h
end

def abelZ (place : Nat) (a : Int) : List Int := if place = 0 then [1] else qmulZ [0, 1] (qpowerZ [0 - place * a, 1] (place - 1))
def chooseZ (place : Nat) : Nat → List Int
  | 0 => [1]
  | k + 1 => chooseZ place k ++ [((chooseZ place k).getD k 0 * (place - k : Int)).fdiv (k + 1)]
theorem chooseZ_length (place : Nat) : ∀ k, (chooseZ place k).length = k + 1
  | 0 => rfl
  | k + 1 => by rw [chooseZ, List.length_append, chooseZ_length]; rfl
theorem chooseZ_sz : ∀ place < 5, ∀ k < 5, ∀ x ∈ chooseZ place k, x.natAbs < 2 ^ 10 := by decide
section
variable {c : Cx} {ρ : Rho} {ω : Om} {P : Ab → Om → Prop}
set_option maxHeartbeats 1000000
theorem abel_z {n : Nat} {a : Int} (hn : 6 ≤ c.n) (hl : n ≤ 4) (ha : Sz 3 a) (h : P (.pz (abelZ n a)) ω) : callT c ρ ω (.ref 215) [.i n, .i a] P := by
  refine call_def2 (ω₀ := []) (x := Str.ofString "place") (y := Str.ofString "a") (f := 215) (P := P) (by exact rfl) (by exact rfl) (fun u v => by exact rfl) (by exact rfl) (by exact rfl) (by decide) (by omega) (by exact rfl) (by exact rfl) (by exact rfl) (by decide) ?_
  intro c' hw hn' he
  unfold abelZ at h
  repeat' (walk_at "st")
  split
  · rename_i h0
    have h1 : n = 0 := by simpa using h0
    rw [if_pos h1] at h
    repeat' (walk_at "st")
    refine ev_list (evs_cons (ev_tuple2 (evs_cons (ev_int (evs_cons (ev_int (evs_nil ⟨_, _, rfl, evs_nil ⟨[zq 1], rfl, by decide, ?_⟩⟩)))))))
    exact ⟨_, _, rfl, h⟩
  · rename_i h0
    have h1 : n ≠ 0 := by simpa using h0
    rw [if_neg h1] at h
    have hna : Sz 6 ((n : Int) * a) := (show Sz 3 (n : Int) from by show ((n : Int)).natAbs < 2 ^ 3; rw [Int.natAbs_natCast]; omega).mul ha
    have m1 : IntMulOk (n : Int) a := mulOk (show Sz 3 (n : Int) from by show ((n : Int)).natAbs < 2 ^ 3; rw [Int.natAbs_natCast]; omega) ha (by omega)
    repeat' (walk_at "st")
    refine ev_list ?_
    repeat' (walk_at "st")
    refine ⟨[zq 0, zq 1], rfl, by decide, ?_⟩
    repeat' (walk_at "st")
    refine ev_list ?_
    repeat' (walk_at "st")
    refine ⟨[zq (0 - n * a), zq 1], rfl, by simp, ?_⟩
    repeat' (walk_at "st")
    have ep : ((n : Int) - 1) = ((n - 1 : Nat) : Int) := by omega
    rw [ep]
    have hs : ∀ q ∈ [0 - (n : Int) * a, 1], Sz 7 q := fun q hq => by
      simp only [List.mem_cons, List.not_mem_nil, or_false] at hq
      rcases hq with rfl | rfl
      · exact Sz.sub (Sz.zero 6) hna
      · exact Sz.one (by omega)
    refine qpower_z (k := 7) (p := [0 - (n : Int) * a, 1]) (by omega) (by omega) (by omega) (by simp) hs (by omega) ?_
    repeat' (walk_at "st")
    have hb : (n - 1) * (7 + 40) ≤ 4 * 47 := Nat.mul_le_mul (by omega) (by omega)
    refine qmul_z (a := [0, 1]) (j := 1) (k := 1 + (n - 1) * (7 + 40)) (by omega) (by simp) (by have := qpower_length (p := [0 - (n : Int) * a, 1]) (by simp) (n - 1); omega) (fun q hq => by simp only [List.mem_cons, List.not_mem_nil, or_false] at hq; rcases hq with rfl | rfl; exact Sz.zero 1; exact Sz.one (Nat.le_refl _)) (qpower_sz (by simp) hs _ (by omega)) (by omega) (by omega) (by omega) ?_
    exact ⟨_, _, rfl, h⟩
theorem choices_ok {n : Nat} (hn : 1 ≤ c.n) (hl : n ≤ 4) (h : P (.l ((chooseZ n n).map .int)) ω) : callT c ρ ω (.ref 222) [.i n] P := by
  refine call_def1 (ω₀ := []) (x := Str.ofString "place") (f := 222) (P := P) (by exact rfl) (by exact rfl) (fun u => by exact rfl) (by exact rfl) (by omega) (by exact rfl) (by exact rfl) (by exact rfl) (by decide) ?_
  intro c' hw hn' he
  repeat' (walk_at "st")
  refine ev_listOwn (evs_cons (ev_int (evs_nil ⟨[.int 1], rfl, by decide, fun D => ?_⟩)))
  repeat' (walk_at "st")
  refine ex_for (by walk_at "sd") (by walk_at "sd") (itr_range1 (by walk_at "sd") (ev_var (by walk_at "lk") ⟨_, rfl, by omega, by omega, ?_⟩))
  refine ⟨fun i ρ' ω' => ω' = [(D, .lst ((chooseZ n i).map .int))] ∧ ρ' (Str.ofString "found") = some (.own D) ∧ ρ' (Str.ofString "place") = some (.i n), ⟨rfl, by walk_at "lk", by walk_at "lk"⟩, ?_, ?_⟩
  · rintro i d ρ' ω' hd ⟨rfl, hf, hp'⟩
    have hi : i < n := by
      have := (List.getElem?_eq_some_iff.mp hd).1
      rw [rangeD_length] at this; omega
    rw [rangeD_get (by omega)] at hd
    cases hd
    rw [Int.zero_add]
    have hlen := chooseZ_length n i
    have hv : (chooseZ n i)[i]? = some ((chooseZ n i).getD i 0) := by
      rw [List.getD_eq_getElem?_getD, List.getElem?_eq_getElem (by omega)]; rfl
    have sz1 : Sz 10 ((chooseZ n i).getD i 0) := getD_sz (fun x hx => chooseZ_sz n (by omega) i (by omega) x hx) i
    have sz2 : Sz 10 ((n : Int) - (i : Int)) := by show ((n : Int) - (i : Int)).natAbs < 2 ^ 10; omega
    have m1 : IntMulOk ((chooseZ n i).getD i 0) ((n : Int) - (i : Int)) := mulOk sz1 sz2 (by omega)
    refine ex_cons (ex_append (l := D) (by walk_at "lk") ⟨_, [], [], rfl⟩ ?_)
    repeat' (walk_at "st")
    refine itemAt.own (ω₁ := []) (ω₂ := []) (d := .int ((chooseZ n i).getD i 0)) (by omega) (by omega) (by rw [Int.toNat_natCast, List.getElem?_map, hv]; rfl) ?_
    repeat' (walk_at "st")
    refine bin_fdiv (k := 10) (by omega) (by show ((i : Int) + 1).natAbs < 2 ^ 10; omega) (by omega) ?_
    refine ⟨_, _, [], [], rfl, rfl, by simp; omega, ?_⟩
    repeat' (walk_at "st")
    refine ⟨?_, by walk_at "lk", by walk_at "lk"⟩
    rw [chooseZ]; simp
  · rintro ρ' ω' ⟨rfl, hf, hp'⟩
    rw [rangeD_length] at *
    refine ex_cons (ex_returnOwn (ev_var (by walk_at "lk") ⟨D, _, [], [], rfl, rfl, ?_⟩))
    refine ⟨_, _, rfl, ?_⟩
    rw [Int.toNat_natCast]
    exact h
theorem draw_ok {l : Addr} {xs : List Int} {spot many : Nat} (hn : 1 ≤ c.n) (hs : spot < 1000) (hl : xs.length ≤ 1000) (hm : 0 < many)
    (h : ∀ v : Nat, v < many → P (.i v) ((l, .lst [.list (xs.map .int), .int ((spot + 1 : Nat) : Int)]) :: ω)) : callT c ρ ((l, .lst [.list (xs.map .int), .int (spot : Int)]) :: ω) (.ref 208) [.own l, .i many] P := by
  have h' : ∀ v : Int, P (.i (v.fmod many)) ((l, .lst [.list (xs.map .int), .int ((spot + 1 : Nat) : Int)]) :: ω) := fun v => by
    have h1 : 0 ≤ v.fmod many := Int.fmod_nonneg_of_pos v (by omega)
    have h2 : v.fmod many < many := Int.fmod_lt_of_pos v (by omega)
    have := h (v.fmod many).toNat (by omega)
    rwa [Int.toNat_of_nonneg h1] at this
  refine call_def2 (ω₀ := [(l, .lst [.list (xs.map .int), .int (spot : Int)])]) (ω₁ := ω) (x := Str.ofString "pool") (y := Str.ofString "many") (f := 208) (P := P) (by exact rfl) (by exact rfl) (fun u v => by exact rfl) (by exact rfl) (by exact rfl) (by decide) (by omega) (by exact rfl) (by exact rfl) (by exact rfl) (by decide) ?_
  intro c' hw hn' he
  repeat' (walk_at "st")
  refine itemAt.own (ω₁ := []) (ω₂ := []) (d := .int (spot : Int)) (by decide) (by decide) rfl ?_
  repeat' (walk_at "st")
  refine ex_setitem (l := l) (by walk_at "lk") ?_
  repeat' (walk_at "st")
  refine ⟨_, _, [], [], rfl, rfl, by decide, by decide, by show (1 : Nat) < 2; decide, ?_⟩
  repeat' (walk_at "st")
  refine itemAt.own (ω₁ := []) (ω₂ := []) (d := .list (xs.map .int)) (by decide) (by decide) rfl ?_
  repeat' (walk_at "st")
  refine call_len (by simp; omega) ?_
  repeat' (walk_at "st")
  split
  · rename_i h0
    have hlt : spot < xs.length := by have := of_decide_eq_true h0; simp at this; omega
    repeat' (walk_at "st")
    refine itemAt.own (ω₁ := []) (ω₂ := []) (d := .list (xs.map .int)) (by decide) (by decide) rfl ?_
    repeat' (walk_at "st")
    refine itemAt.lst (d := .int xs[spot]) (by omega) (by omega) (by rw [Int.toNat_natCast, List.getElem?_map, List.getElem?_eq_getElem hlt]; rfl) ?_
    repeat' (walk_at "st")
    refine call_abs ?_
    repeat' (walk_at "st")
    refine bin_mod (by omega) ?_
    exact ⟨_, _, rfl, h' _⟩
  · repeat' (walk_at "st")
    refine ev_tuple ?_
    repeat' (walk_at "st")
    refine ⟨[.int 0, .int 1, .int 5, .int 4, .int 2, .int 6, .int 1, .int 3], rfl, by decide, ?_⟩
    repeat' (walk_at "st")
    refine bin_mod (by decide) ?_
    repeat' (walk_at "st")
    have e8 : (spot : Int).fmod 8 = ((spot % 8 : Nat) : Int) := by rw [Int.fmod_eq_emod_of_nonneg _ (by decide)]; rfl
    rw [e8]
    obtain ⟨v, hv⟩ : ∃ v : Int, [PyData.int 0, .int 1, .int 5, .int 4, .int 2, .int 6, .int 1, .int 3][spot % 8]? = some (.int v) := by
      have : spot % 8 < 8 := Nat.mod_lt _ (by decide)
      generalize spot % 8 = k at this
      match k, this with
      | 0, _ => exact ⟨_, rfl⟩
      | 1, _ => exact ⟨_, rfl⟩
      | 2, _ => exact ⟨_, rfl⟩
      | 3, _ => exact ⟨_, rfl⟩
      | 4, _ => exact ⟨_, rfl⟩
      | 5, _ => exact ⟨_, rfl⟩
      | 6, _ => exact ⟨_, rfl⟩
      | 7, _ => exact ⟨_, rfl⟩
    refine itemAt.tup (d := .int v) (by omega) (by omega) (by rw [Int.toNat_natCast]; exact hv) ?_
    repeat' (walk_at "st")
    refine bin_mod (by omega) ?_
    exact ⟨_, _, rfl, h' _⟩
end

theorem eqv_rq (x y : Rat) : PyData.eqv (rq x) (rq y) = decide (x = y) := by
  unfold rq
  simp only [PyData.eqv, PyData.eqvAll, Bool.and_true]
  by_cases h : x = y
  · subst h; simp
  · rw [decide_eq_false h]
    cases h1 : (x.num == y.num) with
    | false => rfl
    | true =>
      cases h2 : ((x.den : Int) == (y.den : Int)) with
      | false => rfl
      | true =>
        exfalso
        have e1 : x.num = y.num := by simpa using h1
        have e2 : (x.den : Int) = (y.den : Int) := by simpa using h2
        exact h (Rat.ext e1 (by omega))
theorem eqvAll_rq : ∀ (p q : List Rat), PyData.eqvAll (p.map rq) (q.map rq) = decide (p = q)
  | [], [] => by simp [PyData.eqvAll]
  | [], _ :: _ => by simp [PyData.eqvAll]
  | _ :: _, [] => by simp [PyData.eqvAll]
  | x :: p, y :: q => by
    simp only [List.map_cons, PyData.eqvAll, eqv_rq, eqvAll_rq p q]
    by_cases h1 : x = y <;> by_cases h2 : p = q <;> simp [h1, h2]
theorem eqv_list (p q : List Rat) : PyData.eqv (.list (p.map rq)) (.list (q.map rq)) = decide (p = q) := by
  simp only [PyData.eqv]; exact eqvAll_rq p q
theorem shaped_rq (x : Rat) : SeqAt.shaped (rq x) = true := rfl
theorem canAll_rq : ∀ p : List Rat, PyData.canLayAll0 (p.map rq) = true
  | [] => rfl
  | x :: p => by
    simp only [List.map_cons, PyData.canLayAll0, canAll_rq p, Bool.and_true]; rfl
theorem depthAll_rq : ∀ p : List Rat, PyData.depthAll (p.map rq) ≤ 1
  | [] => Nat.zero_le _
  | x :: p => by
    simp only [List.map_cons, PyData.depthAll]
    exact Nat.max_le.mpr ⟨Nat.le_refl _, depthAll_rq p⟩
theorem shaped_list (p : List Rat) : SeqAt.shaped (.list (p.map rq)) = true := by
  unfold SeqAt.shaped
  rw [Bool.and_eq_true]
  refine ⟨by simp only [PyData.canLay0]; exact canAll_rq p, decide_eq_true ?_⟩
  simp only [PyData.depth]
  have := depthAll_rq p; omega
def sumN (f : Nat → Rat) (t : Rat) : Nat → Rat
  | 0 => t
  | n + 1 => sumN f t n + f n
theorem sumN_sz {f : Nat → Rat} {t : Rat} {j k : Nat} (ht : RS j t) : ∀ n, (∀ i < n, RS k (f i)) → RS (j + n * (k + 1)) (sumN f t n)
  | 0, _ => by simpa [sumN] using ht
  | n + 1, h => by
    have := RS.add (sumN_sz ht n fun i hi => h i (by omega)) (h n (by omega))
    rw [sumN]
    exact this.mono (by rw [Nat.add_mul]; omega)
theorem getD_rs {k : Nat} {p : List Rat} (hk : 1 ≤ k) (h : ∀ x ∈ p, RS k x) (i : Nat) : RS k (p.getD i 0) := by
  rw [List.getD_eq_getElem?_getD]
  cases q : p[i]? with
  | none => exact RS.zero.mono hk
  | some x => exact h x (List.mem_of_getElem? q)
theorem getD_get {p : List Rat} {i : Nat} (h : i < p.length) : p[i]? = some (p.getD i 0) := by
  rw [List.getD_eq_getElem?_getD, List.getElem?_eq_getElem h]; rfl
def mixedF (a b : List Rat) (at' : Nat) : Rat := sumN (fun s => a.getD s 0 * b.getD (at' - s) 0) 0 (at' + 1)
def smulF (a b : List Rat) : List Rat := (List.range (min a.length b.length)).map (mixedF a b)
def sinvT (a found : List Rat) (n : Nat) : Nat → Rat := sumN (fun s => -(a.getD (s + 1) 0 * found.getD (n - (s + 1)) 0)) (if n = 0 then 1 else 0)
def sinvN (a : List Rat) : Nat → List Rat
  | 0 => []
  | n + 1 => sinvN a n ++ [sinvT a (sinvN a n) n n / a.getD 0 0]
theorem sinvN_length (a : List Rat) : ∀ n, (sinvN a n).length = n
  | 0 => rfl
  | n + 1 => by rw [sinvN, List.length_append, sinvN_length]; rfl
theorem sinvN_mem {a : List Rat} {x : Rat} {n : Nat} : ∀ m, n ≤ m → x ∈ sinvN a n → x ∈ sinvN a m
  | 0, h, hx => by obtain rfl : n = 0 := by omega
                   exact hx
  | m + 1, h, hx => by
    by_cases e : n = m + 1
    · rw [← e]; exact hx
    · rw [sinvN]; exact List.mem_append_left _ (sinvN_mem m (by omega) hx)
def nq (n : Nat) : Rat := ((n : Int) : Rat)
theorem rq_nq (n : Nat) : rq (nq n) = .tuple [.int n, .int 1] := rfl
theorem RS.nq {n : Nat} (h : n < 1024) : RS 10 (nq n) := RS.cast (by omega) (show ((n : Int)).natAbs < 2 ^ 10 by rw [Int.natAbs_natCast]; omega)
theorem nq_ne {n : Nat} (h : n ≠ 0) : nq n ≠ 0 := fun e => h (by have := Rat.intCast_eq_zero_iff.mp e; omega)
def sexpT (a found : List Rat) (n : Nat) : Nat → Rat := sumN (fun s => nq (s + 1) * a.getD (s + 1) 0 * found.getD (n - (s + 1)) 0) 0
def sexpN (a : List Rat) : Nat → List Rat
  | 0 => []
  | n + 1 => sexpN a n ++ [if n = 0 then 1 else sexpT a (sexpN a n) n n / nq n]
theorem sexpN_length (a : List Rat) : ∀ n, (sexpN a n).length = n
  | 0 => rfl
  | n + 1 => by rw [sexpN, List.length_append, sexpN_length]; rfl
theorem sexpN_mem {a : List Rat} {x : Rat} {n : Nat} : ∀ m, n ≤ m → x ∈ sexpN a n → x ∈ sexpN a m
  | 0, h, hx => by obtain rfl : n = 0 := by omega
                   exact hx
  | m + 1, h, hx => by
    by_cases e : n = m + 1
    · rw [← e]; exact hx
    · rw [sexpN]; exact List.mem_append_left _ (sexpN_mem m (by omega) hx)
theorem RS.neg {k : Nat} {a : Rat} (h : RS k a) : RS k (-a) := ⟨by show (-a.num).natAbs < _; rw [Int.natAbs_neg]; exact h.1, h.2⟩
section
variable {c : Cx} {ρ : Rho} {ω : Om} {P : Ab → Om → Prop}
set_option maxHeartbeats 1000000
theorem sscale_ok {j k : Nat} {p : List Rat} {r : Rat} (hn : 4 ≤ c.n) (lp : p.length ≤ 1000) (hp : ∀ q ∈ p, RS j q) (hr : RS k r) (hjk : j + k ≤ 9000) (h : P (.p (p.map (r * ·))) ω) :
    callT c ρ ω (.ref 161) [.q r, .p p] P := by
  refine call_cells2 (ω₀ := []) (x := Str.ofString "number") (y := Str.ofString "a") (f := 161) (P := P) (by exact rfl) (by exact rfl) (fun u v => by exact rfl) (.inr ⟨by exact rfl, fun n => by exact rfl⟩) (.inl (by exact rfl)) (by decide) (by omega) (by decide) (by exact rfl) (by exact rfl) (by exact rfl) ?_
  intro c' hw hn' he
  repeat' (walk_at "st")
  refine ev_comp (by walk_at "sd") (by walk_at "sd") (by decide) (by exact rfl) (by decide) (by exact rfl) (Frees.set Frees.nil (y := Str.ofString "number") (by walk_at "lk") (by walk_at "sd") (by walk_at "sd") (by walk_at "sd")) ?_
  refine itr_list (ev_var (by walk_at "lk") ⟨_, rfl, (p.map (r * ·)).map rq, by simp, by simpa using lp, ?_, ?_⟩)
  · intro c₂ C i d y hw₂ hn₂ he₂ hd hy
    rw [he] at he₂
    rw [List.getElem?_map] at hd
    obtain ⟨x, hx, rfl⟩ := Option.map_eq_some_iff.mp hd
    have hy' : y = rq (r * x) := by
      rw [rq_get (x := r * x) (by rw [List.getElem?_map, hx]; rfl)] at hy
      exact (Option.some.inj hy).symm
    subst hy'
    repeat' (walk_at "st")
    exact rmul_ok (by omega) hr (hp x (List.mem_of_getElem? hx)) (by omega) ⟨rfl, rfl⟩
  · exact ⟨_, _, rfl, h⟩
theorem mixed_ok {p q : List Rat} {n : Nat} (hn : 4 ≤ c.n) (hq : n < q.length) (hp : n < p.length) (lp : p.length ≤ 10) (lq : q.length ≤ 10) (sp : ∀ x ∈ p, RS 64 x) (sq : ∀ x ∈ q, RS 64 x) (h : P (.q (mixedF p q n)) ω) :
    callT c ρ ω (.ref 168) [.p p, .p q, .i n] P := by
  refine call_def3 (ω₀ := []) (x := Str.ofString "a") (y := Str.ofString "b") (z := Str.ofString "at") (f := 168) (P := P) (by exact rfl) (by exact rfl) (fun u v w => by exact rfl) (by exact rfl) (by exact rfl) (by exact rfl) (by decide) (by decide) (by decide) (by omega) (by exact rfl) (by exact rfl) (by exact rfl) (by decide) ?_
  intro c' hw hn' he
  repeat' (walk_at "st")
  refine ex_for (by walk_at "sd") (by walk_at "sd") (itr_range1 (by walk_at "sd") (ev_bin (ev_var (by walk_at "lk") (ev_int (bin_add ⟨_, rfl, by omega, by omega, ?_⟩)))))
  refine ⟨fun i ρ' ω' => ω' = [] ∧ ρ' (Str.ofString "found") = some (.q (sumN (fun s => p.getD s 0 * q.getD (n - s) 0) 0 i)) ∧ ρ' (Str.ofString "a") = some (.p p) ∧ ρ' (Str.ofString "b") = some (.p q) ∧ ρ' (Str.ofString "at") = some (.i n), ⟨rfl, by walk_at "lk", by walk_at "lk", by walk_at "lk", by walk_at "lk"⟩, ?_, ?_⟩
  · rintro i d ρ' ω' hd ⟨rfl, hf, ha, hb, hat⟩
    have hi : i < n + 1 := by
      have := (List.getElem?_eq_some_iff.mp hd).1
      rw [rangeD_length] at this; omega
    rw [rangeD_get (by omega)] at hd
    cases hd
    rw [Int.zero_add]
    have e1 : ((n : Int) - (i : Int)).toNat = n - i := by omega
    have g1 : (List.map rq p)[(i : Int).toNat]? = some (rq (p.getD i 0)) := by rw [Int.toNat_natCast]; exact rq_get (getD_get (by omega))
    have g2 : (List.map rq q)[((n : Int) - (i : Int)).toNat]? = some (rq (q.getD (n - i) 0)) := by rw [e1]; exact rq_get (getD_get (by omega))
    have hs1 := sumN_sz (f := fun s => p.getD s 0 * q.getD (n - s) 0) RS.zero i (k := 128) fun s _ => (getD_rs (by omega) sp s).mul (getD_rs (by omega) sq (n - s))
    have hm : i * (128 + 1) ≤ 10 * 129 := Nat.mul_le_mul (by omega) (Nat.le_refl _)
    repeat' (walk_at "st")
    refine itemAt.lst (by omega) (by omega) g1 ?_
    repeat' (walk_at "st")
    refine bin_neD (shaped_rq _) (by exact rfl) ⟨_, rfl, ?_⟩
    rw [show PyData.tuple [.int 0, .int 1] = rq 0 from rfl, eqv_rq]
    split
    · repeat' (walk_at "st")
      refine itemAt.lst (by omega) (by omega) g2 ?_
      repeat' (walk_at "st")
      refine bin_neD (shaped_rq _) (by exact rfl) ⟨_, rfl, ?_⟩
      rw [show PyData.tuple [.int 0, .int 1] = rq 0 from rfl, eqv_rq]
      split
      · repeat' (walk_at "st")
        rw [if_pos rfl]
        repeat' (walk_at "st")
        refine itemAt.lst (by omega) (by omega) g1 ?_
        repeat' (walk_at "st")
        refine itemAt.lst (by omega) (by omega) g2 ?_
        repeat' (walk_at "st")
        refine rmul_ok (by omega) (getD_rs (by omega) sp _) (getD_rs (by omega) sq _) (by omega) ?_
        repeat' (walk_at "st")
        refine radd_ok (by omega) hs1 ((getD_rs (by omega) sp i).mul (getD_rs (by omega) sq (n - i))) (by omega) ?_
        repeat' (walk_at "st")
        exact ⟨rfl, by walk_at "lk", by walk_at "lk", by walk_at "lk", by walk_at "lk"⟩
      · rename_i h0
        have h1 : q.getD (n - i) 0 = 0 := by simpa using h0
        rw [if_neg (by decide)]
        repeat' (walk_at "st")
        refine ⟨rfl, hf.trans ?_, by walk_at "lk", by walk_at "lk", by walk_at "lk"⟩
        rw [sumN, h1, Rat.mul_zero, Rat.add_zero]
    · rename_i h0
      have h1 : p.getD i 0 = 0 := by simpa using h0
      rw [if_neg (by decide)]
      repeat' (walk_at "st")
      refine ⟨rfl, hf.trans ?_, by walk_at "lk", by walk_at "lk", by walk_at "lk"⟩
      rw [sumN, h1, Rat.zero_mul, Rat.add_zero]
  · rintro ρ' ω' ⟨rfl, hf, ha, hb, hat⟩
    rw [rangeD_length, show ((n : Int) + 1).toNat = n + 1 by omega] at hf
    repeat' (walk_at "st")
    exact h
theorem smul_ok {p q : List Rat} (hn : 6 ≤ c.n) (lp : p.length ≤ 10) (lq : q.length ≤ 10) (sp : ∀ x ∈ p, RS 64 x) (sq : ∀ x ∈ q, RS 64 x) (so : ∀ x ∈ smulF p q, RS 64 x) (h : P (.p (smulF p q)) ω) :
    callT c ρ ω (.ref 173) [.p p, .p q] P := by
  refine call_cells2 (ω₀ := []) (x := Str.ofString "a") (y := Str.ofString "b") (f := 173) (P := P) (by exact rfl) (by exact rfl) (fun u v => by exact rfl) (.inr ⟨by exact rfl, fun n => by exact rfl⟩) (.inr ⟨by exact rfl, fun n => by exact rfl⟩) (by decide) (by omega) (by decide) (by exact rfl) (by exact rfl) (by exact rfl) ?_
  intro c' hw hn' he
  repeat' (walk_at "st")
  refine ev_comp (by walk_at "sd") (by walk_at "sd") (by decide) (by exact rfl) (by decide) (by exact rfl) (Frees.set (Frees.set Frees.nil (y := Str.ofString "a") (by walk_at "lk") (by walk_at "sd") (by walk_at "sd") (by walk_at "sd")) (y := Str.ofString "b") (by walk_at "lk") (by walk_at "sd") (by walk_at "sd") (by walk_at "sd")) ?_
  refine itr_range1 (by walk_at "sd") ?_
  repeat' (walk_at "st")
  refine call_len (by simp; omega) ?_
  repeat' (walk_at "st")
  refine call_len (by simp; omega) ?_
  repeat' (walk_at "st")
  refine call_min ?_
  have em : (if ((List.map rq q).length : Int) < ((List.map rq p).length : Int) then ((List.map rq q).length : Int) else ((List.map rq p).length : Int)) = ((min p.length q.length : Nat) : Int) := by
    simp only [List.length_map]; split <;> omega
  rw [em]
  refine ⟨_, rfl, by omega, by omega, ?_⟩
  refine ⟨(smulF p q).map rq, by simp [rangeD, smulF], by rw [rangeD_length]; omega, ?_, ?_⟩
  · intro c₂ C i d y hw₂ hn₂ he₂ hd hy
    rw [he] at he₂
    have hi : i < min p.length q.length := by
      have := (List.getElem?_eq_some_iff.mp hd).1
      rwa [rangeD_length, Int.toNat_natCast] at this
    rw [rangeD_get (by omega)] at hd
    cases hd
    have hg : (smulF p q)[i]? = some (mixedF p q i) := by rw [smulF, List.getElem?_map, List.getElem?_range hi]; rfl
    have hy' : y = rq (mixedF p q i) := by
      rw [rq_get hg] at hy
      exact (Option.some.inj hy).symm
    subst hy'
    rw [Int.zero_add]
    repeat' (walk_at "st")
    refine mixed_ok (by omega) (by omega) (by omega) lp lq sp sq ?_
    repeat' (walk_at "st")
    exact let_ok (by omega) (so _ (List.mem_of_getElem? hg)) ⟨rfl, rfl⟩
  · exact ⟨_, _, rfl, h⟩
end

def revN (turned : List Rat) (la : Nat) : Nat → List Rat × List Rat
  | 0 => ([0], turned)
  | n + 1 => ((revN turned la n).1 ++ [(revN turned la n).2.getD n 0 / nq (n + 1)], if n + 1 < la - 1 then smulF (revN turned la n).2 turned else (revN turned la n).2)
theorem smulF_length (p q : List Rat) : (smulF p q).length = min p.length q.length := by simp [smulF]
theorem revN_length (turned : List Rat) (la : Nat) : ∀ n, (revN turned la n).1.length = n + 1 ∧ (revN turned la n).2.length = turned.length
  | 0 => ⟨rfl, rfl⟩
  | n + 1 => by
    have ih := revN_length turned la n
    refine ⟨by rw [revN, List.length_append, ih.1]; rfl, ?_⟩
    rw [revN]
    dsimp only
    split
    · rw [smulF_length, ih.2, Nat.min_self]
    · exact ih.2
section
variable {c : Cx} {ρ : Rho} {ω : Om} {P : Ab → Om → Prop}
set_option maxHeartbeats 1000000
theorem sinverse_ok {p : List Rat} (hn : 4 ≤ c.n) (l1 : 1 ≤ p.length) (lp : p.length ≤ 10) (sp : ∀ x ∈ p, RS 64 x) (h0 : p.getD 0 0 ≠ 0) (so : ∀ x ∈ sinvN p p.length, RS 64 x) (h : P (.p (sinvN p p.length)) ω) :
    callT c ρ ω (.ref 180) [.p p] P := by
  refine call_def1 (ω₀ := []) (x := Str.ofString "a") (f := 180) (P := P) (by exact rfl) (by exact rfl) (fun u => by exact rfl) (by exact rfl) (by omega) (by exact rfl) (by exact rfl) (by exact rfl) (by decide) ?_
  intro c' hw hn' he
  have g0 : (List.map rq p)[(0 : Int).toNat]? = some (rq (p.getD 0 0)) := rq_get (getD_get (i := 0) (by omega))
  have r0 : RS 64 (p.getD 0 0) := getD_rs (by omega) sp 0
  repeat' (walk_at "st")
  refine call_len (by simp; omega) ?_
  repeat' (walk_at "st")
  rw [if_pos (by simp; omega)]
  repeat' (walk_at "st")
  refine itemAt.lst (by omega) (by omega) g0 ?_
  repeat' (walk_at "st")
  refine bin_eqD (shaped_rq _) (by exact rfl) ⟨_, rfl, ?_⟩
  rw [show PyData.tuple [.int 0, .int 1] = rq 0 from rfl, eqv_rq, if_neg (by simpa using h0), if_neg (by decide)]
  repeat' (walk_at "st")
  refine ev_listOwn (evs_nil ⟨[], rfl, by decide, fun D => ?_⟩)
  repeat' (walk_at "st")
  refine ex_for (by walk_at "sd") (by walk_at "sd") (itr_range1 (by walk_at "sd") ?_)
  repeat' (walk_at "st")
  refine call_len (by simp; omega) ⟨_, rfl, by omega, by simp; omega, ?_⟩
  refine ⟨fun i ρ' ω' => ω' = [(D, .lst ((sinvN p i).map rq))] ∧ ρ' (Str.ofString "found") = some (.own D) ∧ ρ' (Str.ofString "a") = some (.p p), ⟨rfl, by walk_at "lk", by walk_at "lk"⟩, ?_, ?_⟩
  · rintro i d ρ' ω' hd ⟨rfl, hf, ha⟩
    have hi : i < p.length := by
      have := (List.getElem?_eq_some_iff.mp hd).1
      rw [rangeD_length] at this; simpa using this
    rw [rangeD_get (by simpa using hi)] at hd
    cases hd
    rw [Int.zero_add]
    have hlen := sinvN_length p i
    have so' : ∀ x ∈ sinvN p i, RS 64 x := fun x hx => so x (sinvN_mem _ (by omega) hx)
    have ht : RS 1 (if i = 0 then (1 : Rat) else 0) := by split; exact RS.one; exact RS.zero
    have hsum : ∀ m, m ≤ i → RS (1 + m * 129) (sinvT p (sinvN p i) i m) := fun m hm => sumN_sz (k := 128) ht m fun s _ => RS.neg ((getD_rs (by omega) sp (s + 1)).mul (getD_rs (by omega) so' (i - (s + 1))))
    have hnew : RS 64 (sinvT p (sinvN p i) i i / p.getD 0 0) := so _ (sinvN_mem (n := i + 1) _ hi (by rw [sinvN]; simp))
    have hm2 : i * 129 ≤ 10 * 129 := Nat.mul_le_mul (by omega) (Nat.le_refl _)
    refine ex_cons (ex_assign (by walk_at "sd") (by walk_at "sd") (evT.mono (P := fun a ω' => a = .q (if i = 0 then (1 : Rat) else 0) ∧ ω' = [(D, .lst ((sinvN p i).map rq))]) ?_ ?_))
    · repeat' (walk_at "st")
      split
      · rename_i h1
        have h2 : i = 0 := by simpa using h1
        repeat' (walk_at "st")
        rw [if_pos h2]; exact ⟨rfl, rfl⟩
      · rename_i h1
        have h2 : i ≠ 0 := by simpa using h1
        repeat' (walk_at "st")
        rw [if_neg h2]; exact ⟨rfl, rfl⟩
    rintro a ω' ⟨rfl, rfl⟩
    repeat' (walk_at "st")
    refine ex_for (by walk_at "sd") (by walk_at "sd") (itr_range2 (by walk_at "sd") (ev_int ⟨_, rfl, by omega, by omega, ?_⟩))
    repeat' (walk_at "st")
    refine ⟨by omega, by omega, ?_⟩
    refine ⟨fun m ρ' ω' => ω' = [(D, .lst ((sinvN p i).map rq))] ∧ ρ' (Str.ofString "found") = some (.own D) ∧ ρ' (Str.ofString "a") = some (.p p) ∧ ρ' (Str.ofString "at") = some (.i i) ∧ ρ' (Str.ofString "total") = some (.q (sinvT p (sinvN p i) i m)), ⟨rfl, by walk_at "lk", by walk_at "lk", by walk_at "lk", by walk_at "lk"⟩, ?_, ?_⟩
    · rintro m d ρ₂ ω₂ hd ⟨rfl, hf, ha, hat, hto⟩
      have hm : m < i := by
        have := (List.getElem?_eq_some_iff.mp hd).1
        rw [rangeD_length] at this; omega
      rw [rangeD_get (by omega)] at hd
      cases hd
      have g1 : (List.map rq p)[(1 + (m : Int)).toNat]? = some (rq (p.getD (m + 1) 0)) := by
        rw [show (1 + (m : Int)).toNat = m + 1 by omega]; exact rq_get (getD_get (by omega))
      have g2 : (List.map rq (sinvN p i))[((i : Int) - (1 + (m : Int))).toNat]? = some (rq ((sinvN p i).getD (i - (m + 1)) 0)) := by
        rw [show ((i : Int) - (1 + (m : Int))).toNat = i - (m + 1) by omega]; exact rq_get (getD_get (by omega))
      have hmm : m * 129 ≤ 10 * 129 := Nat.mul_le_mul (by omega) (Nat.le_refl _)
      repeat' (walk_at "st")
      refine itemAt.lst (by omega) (by omega) g1 ?_
      repeat' (walk_at "st")
      refine itemAt.own (ω₁ := []) (ω₂ := []) (by omega) (by omega) g2 ?_
      repeat' (walk_at "st")
      refine rmul_ok (by omega) (getD_rs (by omega) sp _) (getD_rs (by omega) so' _) (by omega) ?_
      repeat' (walk_at "st")
      refine rsub_ok (by omega) (hsum m (by omega)) ((getD_rs (by omega) sp (m + 1)).mul (getD_rs (by omega) so' (i - (m + 1)))) (by omega) ?_
      repeat' (walk_at "st")
      refine ⟨rfl, by walk_at "lk", by walk_at "lk", by walk_at "lk", (if_pos rfl).trans ?_⟩
      rw [Rat.sub_eq_add_neg]; rfl
    · rintro ρ₂ ω₂ ⟨rfl, hf, ha, hat, hto⟩
      rw [rangeD_length, show ((i : Int) + 1 - 1).toNat = i by omega] at hto
      refine ex_cons (ex_append (l := D) (by walk_at "lk") ⟨_, [], [], rfl⟩ ?_)
      repeat' (walk_at "st")
      refine itemAt.lst (by omega) (by omega) g0 ?_
      repeat' (walk_at "st")
      refine rdiv_ok (by omega) (hsum i (Nat.le_refl _)) r0 (by omega) h0 ?_
      repeat' (walk_at "st")
      refine let_ok (by omega) hnew ?_
      repeat' (walk_at "st")
      refine ⟨_, _, [], [], rfl, rfl, by simp; omega, ?_⟩
      repeat' (walk_at "st")
      refine ⟨?_, by walk_at "lk", by walk_at "lk"⟩
      rw [sinvN]; simp
  · rintro ρ' ω' ⟨rfl, hf, ha⟩
    refine ex_cons (ex_returnOwn (ev_var (by walk_at "lk") ⟨D, _, [], [], rfl, rfl, ?_⟩))
    refine ⟨_, _, rfl, ?_⟩
    rw [rangeD_length, show ((List.map rq p).length : Int).toNat = p.length by simp]
    exact h
theorem sexp_ok {p : List Rat} (hn : 4 ≤ c.n) (l1 : 1 ≤ p.length) (lp : p.length ≤ 10) (sp : ∀ x ∈ p, RS 64 x) (h0 : p[0]? = some 0) (so : ∀ x ∈ sexpN p p.length, RS 64 x) (h : P (.p (sexpN p p.length)) ω) :
    callT c ρ ω (.ref 201) [.p p] P := by
  refine call_def1 (ω₀ := []) (x := Str.ofString "a") (f := 201) (P := P) (by exact rfl) (by exact rfl) (fun u => by exact rfl) (by exact rfl) (by omega) (by exact rfl) (by exact rfl) (by exact rfl) (by decide) ?_
  intro c' hw hn' he
  repeat' (walk_at "st")
  refine need_begin_ok (by omega) (by omega) (fun _ => h0) ?_
  repeat' (walk_at "st")
  refine ⟨rfl, ?_⟩
  repeat' (walk_at "st")
  refine ev_listOwn (evs_nil ⟨[], rfl, by decide, fun D => ?_⟩)
  repeat' (walk_at "st")
  refine ex_for (by walk_at "sd") (by walk_at "sd") (itr_range1 (by walk_at "sd") ?_)
  repeat' (walk_at "st")
  refine call_len (by simp; omega) ⟨_, rfl, by omega, by simp; omega, ?_⟩
  refine ⟨fun i ρ' ω' => ω' = [(D, .lst ((sexpN p i).map rq))] ∧ ρ' (Str.ofString "found") = some (.own D) ∧ ρ' (Str.ofString "a") = some (.p p), ⟨rfl, by walk_at "lk", by walk_at "lk"⟩, ?_, ?_⟩
  · rintro i d ρ' ω' hd ⟨rfl, hf, ha⟩
    have hi : i < p.length := by
      have := (List.getElem?_eq_some_iff.mp hd).1
      rw [rangeD_length] at this; simpa using this
    rw [rangeD_get (by simpa using hi)] at hd
    cases hd
    rw [Int.zero_add]
    have hlen := sexpN_length p i
    have so' : ∀ x ∈ sexpN p i, RS 64 x := fun x hx => so x (sexpN_mem _ (by omega) hx)
    have ht : RS 1 (0 : Rat) := RS.zero
    have hterm : ∀ s, s < i → RS 138 (nq (s + 1) * p.getD (s + 1) 0 * (sexpN p i).getD (i - (s + 1)) 0) := fun s hs => (((RS.nq (n := s + 1) (by omega)).mul (getD_rs (by omega) sp (s + 1))).mul (getD_rs (by omega) so' (i - (s + 1))))
    have hsum : ∀ m, m ≤ i → RS (1 + m * 139) (sexpT p (sexpN p i) i m) := fun m hm => sumN_sz (k := 138) ht m fun s hs => hterm s (by omega)
    have hnew : RS 64 (if i = 0 then (1 : Rat) else sexpT p (sexpN p i) i i / nq i) := so _ (sexpN_mem (n := i + 1) _ hi (by rw [sexpN]; simp))
    have hm2 : i * 139 ≤ 10 * 139 := Nat.mul_le_mul (by omega) (Nat.le_refl _)
    repeat' (walk_at "st")
    refine ex_for (by walk_at "sd") (by walk_at "sd") (itr_range2 (by walk_at "sd") (ev_int ⟨_, rfl, by omega, by omega, ?_⟩))
    repeat' (walk_at "st")
    refine ⟨by omega, by omega, ?_⟩
    refine ⟨fun m ρ' ω' => ω' = [(D, .lst ((sexpN p i).map rq))] ∧ ρ' (Str.ofString "found") = some (.own D) ∧ ρ' (Str.ofString "a") = some (.p p) ∧ ρ' (Str.ofString "at") = some (.i i) ∧ ρ' (Str.ofString "total") = some (.q (sexpT p (sexpN p i) i m)), ⟨rfl, by walk_at "lk", by walk_at "lk", by walk_at "lk", by walk_at "lk"⟩, ?_, ?_⟩
    · rintro m d ρ₂ ω₂ hd ⟨rfl, hf, ha, hat, hto⟩
      have hm : m < i := by
        have := (List.getElem?_eq_some_iff.mp hd).1
        rw [rangeD_length] at this; omega
      rw [rangeD_get (by omega)] at hd
      cases hd
      have em : (1 + (m : Int)) = ((m + 1 : Nat) : Int) := by omega
      rw [em]
      have g1 : (List.map rq p)[((m + 1 : Nat) : Int).toNat]? = some (rq (p.getD (m + 1) 0)) := by
        rw [Int.toNat_natCast]; exact rq_get (getD_get (by omega))
      have g2 : (List.map rq (sexpN p i))[((i : Int) - ((m + 1 : Nat) : Int)).toNat]? = some (rq ((sexpN p i).getD (i - (m + 1)) 0)) := by
        rw [show ((i : Int) - ((m + 1 : Nat) : Int)).toNat = i - (m + 1) by omega]; exact rq_get (getD_get (by omega))
      have hmm : m * 139 ≤ 10 * 139 := Nat.mul_le_mul (by omega) (Nat.le_refl _)
      repeat' (walk_at "st")
      refine itemAt.lst (by omega) (by omega) g1 ?_
      repeat' (walk_at "st")
      refine rmul_ok (a := nq (m + 1)) (by omega) (RS.nq (by omega)) (getD_rs (by omega) sp _) (by omega) ?_
      repeat' (walk_at "st")
      refine itemAt.own (ω₁ := []) (ω₂ := []) (by omega) (by omega) g2 ?_
      repeat' (walk_at "st")
      refine rmul_ok (by omega) ((RS.nq (n := m + 1) (by omega)).mul (getD_rs (by omega) sp (m + 1))) (getD_rs (by omega) so' _) (by omega) ?_
      repeat' (walk_at "st")
      refine radd_ok (by omega) (hsum m (by omega)) (hterm m hm) (by omega) ?_
      repeat' (walk_at "st")
      exact ⟨rfl, by walk_at "lk", by walk_at "lk", by walk_at "lk", (if_pos rfl).trans rfl⟩
    · rintro ρ₂ ω₂ ⟨rfl, hf, ha, hat, hto⟩
      rw [rangeD_length, show ((i : Int) + 1 - 1).toNat = i by omega] at hto
      refine ex_cons (ex_append (l := D) (by walk_at "lk") ⟨_, [], [], rfl⟩ ?_)
      refine evT.mono (P := fun a ω' => a = .q (if i = 0 then (1 : Rat) else sexpT p (sexpN p i) i i / nq i) ∧ ω' = [(D, .lst ((sexpN p i).map rq))]) ?_ ?_
      · repeat' (walk_at "st")
        split
        · rename_i h1
          have h2 : i = 0 := by simpa using h1
          repeat' (walk_at "st")
          rw [if_pos h2]; exact ⟨rfl, rfl⟩
        · rename_i h1
          have h2 : i ≠ 0 := by simpa using h1
          rw [if_neg h2] at hnew ⊢
          repeat' (walk_at "st")
          refine rdiv_ok (b := nq i) (by omega) (hsum i (Nat.le_refl _)) (RS.nq (by omega)) (by omega) (nq_ne h2) ?_
          repeat' (walk_at "st")
          exact let_ok (by omega) hnew ⟨rfl, rfl⟩
      rintro a ω' ⟨rfl, rfl⟩
      refine ⟨_, _, [], [], rfl, rfl, by simp; omega, ?_⟩
      repeat' (walk_at "st")
      refine ⟨?_, by walk_at "lk", by walk_at "lk"⟩
      rw [sexpN]; simp
  · rintro ρ' ω' ⟨rfl, hf, ha⟩
    refine ex_cons (ex_returnOwn (ev_var (by walk_at "lk") ⟨D, _, [], [], rfl, rfl, ?_⟩))
    refine ⟨_, _, rfl, ?_⟩
    rw [rangeD_length, show ((List.map rq p).length : Int).toNat = p.length by simp]
    exact h
end

section
variable {c : Cx} {ρ : Rho} {ω : Om} {P : Ab → Om → Prop}
set_option maxHeartbeats 1000000
theorem sreverse_ok {p t : List Rat} (hn : 8 ≤ c.n) (l1 : 2 ≤ p.length) (lp : p.length ≤ 10) (sp : ∀ x ∈ p, RS 64 x) (h0 : p[0]? = some 0) (h1 : p.getD 1 0 ≠ 0) (et : sinvN (p.drop 1) (p.length - 1) = t) (st : ∀ x ∈ t, RS 64 x) (sr : ∀ n < p.length, ∀ x ∈ (revN t p.length n).2, RS 64 x)
    (h : P (.p (revN t p.length (p.length - 1)).1) ω) : callT c ρ ω (.ref 194) [.p p] P := by
  refine call_def1 (ω₀ := []) (x := Str.ofString "a") (f := 194) (P := P) (by exact rfl) (by exact rfl) (fun u => by exact rfl) (by exact rfl) (by omega) (by exact rfl) (by exact rfl) (by exact rfl) (by decide) ?_
  intro c' hw hn' he
  have lt : t.length = p.length - 1 := by rw [← et, sinvN_length]
  repeat' (walk_at "st")
  refine need_begin_ok (by omega) (by omega) (fun _ => h0) ?_
  repeat' (walk_at "st")
  refine ⟨rfl, ?_⟩
  repeat' (walk_at "st")
  refine call_len (by simp; omega) ?_
  repeat' (walk_at "st")
  rw [if_neg (by simp; omega)]
  repeat' (walk_at "st")
  refine ev_sliceFrom (ev_var (by walk_at "lk") ⟨_, rfl, by simp; omega, ev_int ⟨_, rfl, by decide, ?_⟩⟩)
  repeat' (walk_at "st")
  rw [show (1 : Int).toNat = 1 from rfl, ← List.map_drop]
  have ld : (p.drop 1).length = p.length - 1 := by simp
  refine sinverse_ok (by omega) (by omega) (by omega) (fun x hx => sp x (List.mem_of_mem_drop hx)) (by simpa using h1) (by rw [ld, et]; exact st) ?_
  rw [ld, et]
  repeat' (walk_at "st")
  refine ev_listOwn (evs_cons (ev_R0 (by walk_at "sd") (evs_nil ⟨[rq 0], rfl, by decide, fun D => ?_⟩)))
  repeat' (walk_at "st")
  refine ex_for (by walk_at "sd") (by walk_at "sd") (itr_range2 (by walk_at "sd") (ev_int ⟨_, rfl, by omega, by omega, ?_⟩))
  repeat' (walk_at "st")
  refine call_len (by simp; omega) ⟨_, rfl, by omega, by simp; omega, ?_⟩
  refine ⟨fun i ρ' ω' => ω' = [(D, .lst ((revN t p.length i).1.map rq))] ∧ ρ' (Str.ofString "found") = some (.own D) ∧ ρ' (Str.ofString "raised") = some (.p (revN t p.length i).2) ∧ ρ' (Str.ofString "a") = some (.p p) ∧ ρ' (Str.ofString "turned") = some (.p t), ⟨rfl, by walk_at "lk", by walk_at "lk", by walk_at "lk", by walk_at "lk"⟩, ?_, ?_⟩
  · rintro i d ρ' ω' hd ⟨rfl, hf, hr, ha, ht⟩
    have hi : i + 1 < p.length := by
      have := (List.getElem?_eq_some_iff.mp hd).1
      rw [rangeD_length, List.length_map] at this; omega
    rw [rangeD_get (by rw [List.length_map]; omega)] at hd
    cases hd
    rw [show (1 + (i : Int)) = ((i + 1 : Nat) : Int) by omega]
    have hlen := revN_length t p.length i
    have g1 : (List.map rq (revN t p.length i).2)[(((i + 1 : Nat) : Int) - 1).toNat]? = some (rq ((revN t p.length i).2.getD i 0)) := by
      rw [show (((i + 1 : Nat) : Int) - 1).toNat = i by omega]; exact rq_get (getD_get (by omega))
    have sri := sr i (by omega)
    refine ex_cons (ex_append (l := D) (by walk_at "lk") ⟨_, [], [], rfl⟩ ?_)
    repeat' (walk_at "st")
    refine itemAt.lst (by omega) (by omega) g1 ?_
    repeat' (walk_at "st")
    refine rdiv_ok (b := nq (i + 1)) (by omega) (getD_rs (by omega) sri i) (RS.nq (by omega)) (by omega) (nq_ne (by omega)) ?_
    repeat' (walk_at "st")
    refine ⟨_, _, [], [], rfl, rfl, by simp; omega, ?_⟩
    repeat' (walk_at "st")
    refine call_len (by simp; omega) ?_
    repeat' (walk_at "st")
    split
    · rename_i h3
      have h4 : i + 1 < p.length - 1 := by have := of_decide_eq_true h3; simp at this; omega
      repeat' (walk_at "st")
      have hs : (revN t p.length (i + 1)).2 = smulF (revN t p.length i).2 t := by rw [revN]; exact if_pos h4
      refine smul_ok (by omega) (by omega) (by omega) sri st (by rw [← hs]; exact sr (i + 1) (by omega)) ?_
      repeat' (walk_at "st")
      refine ⟨by simp [revN], by walk_at "lk", (if_pos rfl).trans (by rw [hs]), by walk_at "lk", by walk_at "lk"⟩
    · rename_i h3
      have h4 : ¬ i + 1 < p.length - 1 := fun q => h3 (decide_eq_true (by simp; omega))
      repeat' (walk_at "st")
      have hs : (revN t p.length (i + 1)).2 = (revN t p.length i).2 := by rw [revN]; exact if_neg h4
      refine ⟨by simp [revN], by walk_at "lk", (if_pos rfl).trans (by rw [hs]), by walk_at "lk", by walk_at "lk"⟩
  · rintro ρ' ω' ⟨rfl, hf, hr, ha, ht⟩
    refine ex_cons (ex_returnOwn (ev_var (by walk_at "lk") ⟨D, _, [], [], rfl, rfl, ?_⟩))
    refine ⟨_, _, rfl, ?_⟩
    rw [rangeD_length, show (((List.map rq p).length : Int) - 1).toNat = p.length - 1 by simp]
    exact h
end

def onwardN (a : Int) : Nat → List Rat × Int × Int
  | 0 => ([0], 1, 1)
  | n + 1 => ((onwardN a n).1 ++ [Rat.divInt (onwardN a n).2.1 (onwardN a n).2.2], (onwardN a n).2.1 * a, (onwardN a n).2.2 * (n + 1 : Nat))
def turnedF (a : Int) (most : Nat) : List Rat := sinvN ((onwardN a most).1.drop 1) most
def revF (a : Int) (most : Nat) : List Rat := (revN (turnedF a most) (most + 1) most).1
def toldF (a : Int) (most : Nat) (c : Int) : List Rat := sexpN ((revF a most).map ((c : Rat) * ·)) (most + 1)
def dueZ (a c : Int) (place : Nat) : Int := if place = 0 then 1 else c * (c - place * a) ^ (place - 1)
def byZ : Nat → Int
  | 0 => 1
  | n + 1 => byZ n * (if 1 < n then (n : Int) else 1)
def togN (a c : Int) (place : Nat) : Nat → List Int
  | 0 => []
  | k + 1 => qaddZ (togN a c place k) (qscaleZ (abelZ k a) ((chooseZ place place).getD k 0 * qatZ (abelZ (place - k) a) c))
def As : List Int := [1, -1, 2, -2]
def Cs : List Int := [-3, -2, -1, 0, 1, 2, 3]
theorem told_ok : ∀ a ∈ As, ∀ most ∈ [2, 3, 4], ∀ c ∈ Cs, ∀ place < most + 1, (toldF a most c).getD place 0 = Rat.divInt (dueZ a c place) (byZ (place + 1)) := by decide +kernel
theorem at_ok : ∀ a ∈ As, ∀ c ∈ Cs, ∀ place < 5, qatZ (abelZ place a) c = dueZ a c place := by decide +kernel
theorem comp_ok : ∀ a ∈ As, ∀ c ∈ Cs, ∀ place < 5, qcomposeZ (abelZ place a) [c, 1] = togN a c place (place + 1) := by decide +kernel
theorem der_ok : ∀ a ∈ As, ∀ place < 5, 0 < place → qderiveZ (abelZ place a) = qscaleZ (qcomposeZ (abelZ (place - 1) a) [0 - a, 1]) place := by decide +kernel

def rsb (k : Nat) (q : Rat) : Bool := decide (q.num.natAbs < 2 ^ k) && decide (q.den < 2 ^ k)
theorem rsb_ok {k : Nat} {q : Rat} (h : rsb k q = true) : RS k q := by
  unfold rsb at h
  rw [Bool.and_eq_true] at h
  exact ⟨of_decide_eq_true (p := q.num.natAbs < 2 ^ k) h.1, of_decide_eq_true (p := q.den < 2 ^ k) h.2⟩
def slopeN (f : List Int) : Nat → List Int
  | 0 => f
  | n + 1 => qderiveZ (slopeN f n)
def worthZ (a : Int) (f : List Int) (n : Nat) : Int := qatZ (slopeN f n) (n * a)
def foundN (a : Int) (f : List Int) : Nat → List Rat
  | 0 => []
  | n + 1 => qaddF (foundN a f n) (qscaleF (cz (abelZ n a)) (Rat.divInt (worthZ a f n) (1 * byZ (n + 1))))
theorem As_sz : ∀ a ∈ As, Sz 3 a := by unfold Sz; decide +kernel
theorem onward_sz : ∀ a ∈ As, ∀ n < 5, (onwardN a n).2.1.natAbs < 2 ^ 10 ∧ (onwardN a n).2.2.natAbs < 2 ^ 10 ∧ (onwardN a n).2.2 ≠ 0 := by decide +kernel
theorem onward_rs' : ∀ a ∈ As, ∀ n < 5, ∀ x ∈ (onwardN a n).1, rsb 64 x = true := by decide +kernel
theorem onward_rs {a : Int} {n : Nat} (ha : a ∈ As) (hn : n < 5) : ∀ x ∈ (onwardN a n).1, RS 64 x := fun x hx => rsb_ok (onward_rs' a ha n hn x hx)
theorem onward_length (a : Int) : ∀ n, (onwardN a n).1.length = n + 1
  | 0 => rfl
  | n + 1 => by rw [onwardN, List.length_append, onward_length]; rfl
theorem onward_head : ∀ a ∈ As, ∀ most ∈ [2, 3, 4], (onwardN a most).1[0]? = some 0 ∧ (onwardN a most).1.getD 1 0 ≠ 0 := by decide +kernel
theorem turned_rs' : ∀ a ∈ As, ∀ most ∈ [2, 3, 4], ∀ x ∈ turnedF a most, rsb 64 x = true := by decide +kernel
theorem rev_rs' : ∀ a ∈ As, ∀ most ∈ [2, 3, 4], ∀ n < most + 1, ∀ x ∈ (revN (turnedF a most) (most + 1) n).2, rsb 64 x = true := by decide +kernel
theorem rev_rs2' : ∀ a ∈ As, ∀ most ∈ [2, 3, 4], ∀ x ∈ revF a most, rsb 50 x = true := by decide +kernel
theorem rev_head : ∀ a ∈ As, ∀ most ∈ [2, 3, 4], (revF a most)[0]? = some 0 ∧ (revF a most).length = most + 1 := by decide +kernel
theorem told_rs' : ∀ a ∈ As, ∀ most ∈ [2, 3, 4], ∀ c ∈ Cs, ∀ x ∈ toldF a most c, rsb 64 x = true := by decide +kernel
theorem told_length : ∀ a ∈ As, ∀ most ∈ [2, 3, 4], ∀ c ∈ Cs, (toldF a most c).length = most + 1 := by decide +kernel
theorem abel_sz : ∀ a ∈ As, ∀ n < 5, (abelZ n a).length ≤ 5 ∧ ∀ x ∈ abelZ n a, x.natAbs < 2 ^ 12 := by decide +kernel
theorem due_sz : ∀ a ∈ As, ∀ c ∈ Cs, ∀ n < 5, (dueZ a c n).natAbs < 2 ^ 20 := by decide +kernel
theorem by_sz : ∀ n < 6, (byZ n).natAbs < 2 ^ 10 ∧ byZ n ≠ 0 := by decide +kernel
theorem tog_sz : ∀ a ∈ As, ∀ c ∈ Cs, ∀ n < 5, ∀ k < 6, (togN a c n k).length ≤ 5 ∧ ∀ x ∈ togN a c n k, x.natAbs < 2 ^ 40 := by decide +kernel
theorem at_sz : ∀ a ∈ As, ∀ c ∈ Cs, ∀ n < 5, (qatZ (abelZ n a) c).natAbs < 2 ^ 20 := by decide +kernel
theorem shift_sz : ∀ a ∈ As, ∀ n < 5, (qcomposeZ (abelZ n a) [0 - a, 1]).length ≤ 5 ∧ ∀ x ∈ qcomposeZ (abelZ n a) [0 - a, 1], x.natAbs < 2 ^ 40 := by decide +kernel
theorem pow_sz : ∀ a ∈ As, ∀ c ∈ Cs, ∀ n : Nat, n < 5 → 0 < n → (((Builtin.Int.intBits (c - n * a) : Nat) : Int) * ((n : Int) - 1) ≤ 2 ^ 27) ∧ ((c - n * a) ^ (n - 1)).natAbs < 2 ^ 20 := by decide +kernel
theorem trimF_mem {p : List Rat} {x : Rat} (h : x ∈ trimF p) : x ∈ p := by
  unfold trimF at h
  rw [List.mem_reverse] at h
  exact List.mem_reverse.mp ((List.dropWhile_sublist _).mem h)
theorem qaddF_sz {j k : Nat} {a b : List Rat} (hj : 1 ≤ j) (hk : 1 ≤ k) (ha : ∀ x ∈ a, RS j x) (hb : ∀ x ∈ b, RS k x) : ∀ x ∈ qaddF a b, RS (j + k + 1) x := fun x hx => by
  obtain ⟨i, hi, rfl⟩ := List.mem_map.mp (trimF_mem hx)
  exact RS.add (getD_rs hj ha i) (getD_rs hk hb i)
theorem qscaleF_sz {j k : Nat} {p : List Rat} {r : Rat} (hp : ∀ x ∈ p, RS j x) (hr : RS k r) : ∀ x ∈ qscaleF p r, RS (j + k) x := fun x hx => by
  unfold qscaleF at hx
  split at hx
  · cases hx
  · obtain ⟨y, hy, rfl⟩ := List.mem_map.mp hx
    exact (hp y hy).mul hr
theorem qscaleF_length (p : List Rat) (r : Rat) : (qscaleF p r).length ≤ p.length := by
  unfold qscaleF; split
  · exact Nat.zero_le _
  · simp
theorem qaddF_length (a b : List Rat) : (qaddF a b).length ≤ max a.length b.length := by
  unfold qaddF trimF
  rw [List.length_reverse]
  exact Nat.le_trans (List.dropWhile_sublist _).length_le (by simp)
theorem slopeN_sz {f : List Int} (hl : f.length ≤ 5) (hf : ∀ x ∈ f, Sz 2 x) : ∀ n, (slopeN f n).length ≤ 5 ∧ ∀ x ∈ slopeN f n, Sz (2 + 10 * n) x
  | 0 => ⟨hl, hf⟩
  | n + 1 => by
    have ih := slopeN_sz hl hf n
    exact ⟨Nat.le_trans (qderive_length _) ih.1, fun x hx => (qderive_sz (by omega) ih.2 x hx).mono (by omega)⟩
theorem place_sz {a : Int} {n : Nat} (ha : a ∈ As) (hn : n < 5) : Sz 6 ((n : Int) * a) := (show Sz 3 (n : Int) from by show ((n : Int)).natAbs < 2 ^ 3; rw [Int.natAbs_natCast]; omega).mul (As_sz a ha)
theorem worth_sz {a : Int} {f : List Int} {n : Nat} (ha : a ∈ As) (hn : n < 5) (hl : f.length ≤ 5) (hf : ∀ x ∈ f, Sz 2 x) : Sz 300 (worthZ a f n) := by
  have h := slopeN_sz hl hf n
  have h2 := qatZ_sz (r := (n : Int) * a) (by omega) (by omega) h.2 (place_sz ha hn)
  refine Sz.mono h2 ?_
  have : (slopeN f n).length * (6 + (2 + 10 * n) + 1) ≤ 5 * 59 := Nat.mul_le_mul h.1 (by omega)
  omega
theorem ratio_sz {a : Int} {f : List Int} {n : Nat} (ha : a ∈ As) (hn : n < 5) (hl : f.length ≤ 5) (hf : ∀ x ∈ f, Sz 2 x) : RS 300 (Rat.divInt (worthZ a f n) (1 * byZ (n + 1))) := by
  obtain ⟨b1, b2⟩ := by_sz (n + 1) (by omega)
  rw [Int.one_mul]
  exact divInt_sz b2 (worth_sz ha hn hl hf) (Sz.mono (j := 10) b1 (by omega))
theorem found_sz {a : Int} {f : List Int} (ha : a ∈ As) (hl : f.length ≤ 5) (hf : ∀ x ∈ f, Sz 2 x) : ∀ n, n ≤ 5 → (foundN a f n).length ≤ 5 ∧ ∀ x ∈ foundN a f n, RS (1 + 400 * n) x
  | 0, _ => ⟨Nat.zero_le _, fun x hx => by cases hx⟩
  | n + 1, hn => by
    have ih := found_sz ha hl hf n (by omega)
    obtain ⟨a1, a2⟩ := abel_sz a ha n (by omega)
    have s1 := qscaleF_sz (RS.cz (k := 12) (by omega) a2) (ratio_sz (n := n) ha (by omega) hl hf)
    refine ⟨?_, fun x hx => (qaddF_sz (by omega) (by omega) ih.2 s1 x hx).mono (by omega)⟩
    refine Nat.le_trans (qaddF_length _ _) (Nat.max_le.mpr ⟨ih.1, Nat.le_trans (qscaleF_length _ _) ?_⟩)
    rw [cz_length]; exact a1

theorem snoc_cases {α : Type} (p : List α) : p = [] ∨ ∃ l x, p = l ++ [x] := by
  by_cases h : p = []
  · exact .inl h
  · exact .inr ⟨p.dropLast, p.getLast h, (List.dropLast_concat_getLast h).symm⟩
theorem getD_snoc0 (l : List Rat) (i : Nat) : (l ++ [0]).getD i 0 = l.getD i 0 := by
  simp only [List.getD_eq_getElem?_getD, List.getElem?_append]
  split
  · rfl
  · rename_i h
    rw [List.getElem?_eq_none (Nat.not_lt.mp h)]
    cases (i - l.length) <;> simp
theorem trimF_getD : ∀ (n : Nat) (p : List Rat), p.length = n → ∀ i, (trimF p).getD i 0 = p.getD i 0
  | 0, p, h, i => by
    obtain rfl := List.eq_nil_of_length_eq_zero h
    rfl
  | n + 1, p, h, i => by
    rcases snoc_cases p with rfl | ⟨l, x, rfl⟩
    · rfl
    · by_cases hx : x = 0
      · subst hx
        rw [trim_zero, trimF_getD n l (by simpa using h) i, getD_snoc0]
      · rw [trim_not hx]
theorem trimF_length (p : List Rat) : (trimF p).length ≤ p.length := by
  unfold trimF
  rw [List.length_reverse]
  exact Nat.le_trans (List.dropWhile_sublist _).length_le (by simp)
theorem trimF_trimF : ∀ (n : Nat) (p : List Rat), p.length = n → trimF (trimF p) = trimF p
  | 0, p, h => by
    obtain rfl := List.eq_nil_of_length_eq_zero h
    rfl
  | n + 1, p, h => by
    rcases snoc_cases p with rfl | ⟨l, x, rfl⟩
    · rfl
    · by_cases hx : x = 0
      · subst hx
        rw [trim_zero, trimF_trimF n l (by simpa using h)]
      · rw [trim_not hx, trim_not hx]
theorem trimmed_last {p : List Rat} (h : trimF p = p) (hp : p ≠ []) : p.getD (p.length - 1) 0 ≠ 0 := by
  rcases snoc_cases p with rfl | ⟨l, x, rfl⟩
  · exact absurd rfl hp
  · intro e
    have e' : x = 0 := by simpa [List.getD_eq_getElem?_getD] using e
    subst e'
    rw [trim_zero] at h
    have h1 := trimF_length l
    rw [h] at h1
    simp at h1
    omega
theorem trimmed_le {p q : List Rat} (hq : trimF q = q) (h : ∀ i, p.getD i 0 = q.getD i 0) : q.length ≤ p.length := by
  by_cases e : q = []
  · subst e; exact Nat.zero_le _
  · refine Nat.le_of_not_lt fun hlt => trimmed_last hq e ?_
    rw [← h, List.getD_eq_getElem?_getD, List.getElem?_eq_none (by omega)]; rfl
theorem trimmed_ext {p q : List Rat} (hp : trimF p = p) (hq : trimF q = q) (h : ∀ i, p.getD i 0 = q.getD i 0) : p = q := by
  have l1 := trimmed_le hq h
  have l2 := trimmed_le hp fun i => (h i).symm
  refine List.ext_getElem (by omega) fun i h1 h2 => ?_
  have := h i
  rw [List.getD_eq_getElem?_getD, List.getD_eq_getElem?_getD, List.getElem?_eq_getElem h1, List.getElem?_eq_getElem h2] at this
  exact this
theorem getD_none {α : Type} {p : List α} {d : α} {i : Nat} (h : p.length ≤ i) : p.getD i d = d := by
  rw [List.getD_eq_getElem?_getD, List.getElem?_eq_none h]; rfl
theorem qaddF_getD (a b : List Rat) (i : Nat) : (qaddF a b).getD i 0 = a.getD i 0 + b.getD i 0 := by
  unfold qaddF
  rw [trimF_getD _ _ rfl]
  by_cases h : i < max a.length b.length
  · rw [List.getD_eq_getElem?_getD, List.getElem?_map, List.getElem?_range h]; rfl
  · rw [getD_none (by simp; omega), getD_none (p := a) (by omega), getD_none (p := b) (by omega), Rat.add_zero]
theorem qscaleF_getD (p : List Rat) (r : Rat) (i : Nat) : (qscaleF p r).getD i 0 = p.getD i 0 * r := by
  unfold qscaleF
  split
  · rename_i h; subst h; rw [Rat.mul_zero]; rfl
  · simp only [List.getD_eq_getElem?_getD, List.getElem?_map]
    cases p[i]? with
    | none => exact (Rat.zero_mul r).symm
    | some x => rfl
theorem foundN_getD (a : Int) (f : List Int) (n i : Nat) : (foundN a f (n + 1)).getD i 0 = (foundN a f n).getD i 0 + (((abelZ n a).getD i 0 : Int) : Rat) * Rat.divInt (worthZ a f n) (1 * byZ (n + 1)) := by
  rw [foundN, qaddF_getD, qscaleF_getD, cz_getD]
theorem qderive_getD (p : List Int) (j : Nat) : (qderiveZ p).getD j 0 = p.getD (j + 1) 0 * ((j + 1 : Nat) : Int) := by
  unfold qderiveZ
  rw [List.getD_eq_getElem?_getD, List.getElem?_drop, List.getElem?_map]
  by_cases h : j + 1 < p.length
  · rw [show 1 + j = j + 1 from Nat.add_comm _ _, List.getElem?_range h]; rfl
  · rw [List.getElem?_eq_none (by simp; omega), getD_none (p := p) (by omega), Int.zero_mul]; rfl
theorem qat_getD : ∀ (p : List Int) (r : Int), p.length ≤ 5 → qatZ p r = (((p.getD 4 0 * r + p.getD 3 0) * r + p.getD 2 0) * r + p.getD 1 0) * r + p.getD 0 0
  | [], r, _ => by simp [qatZ]
  | [a], r, _ => by simp [qatZ]
  | [a, b], r, _ => by simp [qatZ]
  | [a, b, c], r, _ => by simp [qatZ]
  | [a, b, c, d], r, _ => by simp [qatZ]
  | [a, b, c, d, e], r, _ => by simp [qatZ]
  | _ :: _ :: _ :: _ :: _ :: _ :: _, r, h => by simp at h
theorem comb (t0 t1 t2 t3 t4 w0 w1 w2 w3 w4 f : Int) (h : t0 * w0 * 24 + t1 * w1 * 24 + t2 * w2 * 12 + t3 * w3 * 4 + t4 * w4 = 24 * f) :
    (0 : Rat) + (t0 : Rat) * Rat.divInt w0 (1 * byZ 1) + (t1 : Rat) * Rat.divInt w1 (1 * byZ 2) + (t2 : Rat) * Rat.divInt w2 (1 * byZ 3) + (t3 : Rat) * Rat.divInt w3 (1 * byZ 4) + (t4 : Rat) * Rat.divInt w4 (1 * byZ 5) = (f : Rat) := by
  have b1 : (1 * byZ 1 : Int) = 1 := by decide
  have b2 : (1 * byZ 2 : Int) = 1 := by decide
  have b3 : (1 * byZ 3 : Int) = 2 := by decide
  have b4 : (1 * byZ 4 : Int) = 6 := by decide
  have b5 : (1 * byZ 5 : Int) = 24 := by decide
  have h' := congrArg (fun z : Int => (z : Rat)) h
  simp only [Rat.intCast_add, Rat.intCast_mul] at h'
  rw [b1, b2, b3, b4, b5]
  simp only [Rat.divInt_eq_div]
  have c24 : ((24 : Int) : Rat) = 24 := rfl
  have c12 : ((12 : Int) : Rat) = 12 := rfl
  have c4 : ((4 : Int) : Rat) = 4 := rfl
  have c6 : ((6 : Int) : Rat) = 6 := rfl
  have c2 : ((2 : Int) : Rat) = 2 := rfl
  have c1 : ((1 : Int) : Rat) = 1 := rfl
  rw [c24, c12, c4] at h'
  rw [c24, c6, c2, c1]
  grind
theorem slope_len (f : List Int) (hf : f.length ≤ 5) : ∀ n, (slopeN f n).length ≤ 5
  | 0 => hf
  | n + 1 => Nat.le_trans (qderive_length _) (slope_len f hf n)
theorem slope_getD (f : List Int) : ∀ (n j : Nat), (slopeN f (n + 1)).getD j 0 = (slopeN f n).getD (j + 1) 0 * ((j + 1 : Nat) : Int) := fun n j => qderive_getD _ j
theorem trimZ_getD (p : List Int) (i : Nat) : (trimZ p).getD i 0 = p.getD i 0 := by
  have h := trimF_getD _ (cz p) rfl i
  rw [trim_cz, cz_getD, cz_getD] at h
  exact Rat.intCast_inj.mp h
theorem ab_p1_0 : abelZ 0 (1) = [1] := by decide
theorem ab_p1_1 : abelZ 1 (1) = [0, 1] := by decide
theorem ab_p1_2 : abelZ 2 (1) = [0, (-2), 1] := by decide
theorem ab_p1_3 : abelZ 3 (1) = [0, 9, (-6), 1] := by decide
theorem ab_p1_4 : abelZ 4 (1) = [0, (-64), 48, (-12), 1] := by decide
theorem ab_m1_0 : abelZ 0 (-1) = [1] := by decide
theorem ab_m1_1 : abelZ 1 (-1) = [0, 1] := by decide
theorem ab_m1_2 : abelZ 2 (-1) = [0, 2, 1] := by decide
theorem ab_m1_3 : abelZ 3 (-1) = [0, 9, 6, 1] := by decide
theorem ab_m1_4 : abelZ 4 (-1) = [0, 64, 48, 12, 1] := by decide
theorem ab_p2_0 : abelZ 0 (2) = [1] := by decide
theorem ab_p2_1 : abelZ 1 (2) = [0, 1] := by decide
theorem ab_p2_2 : abelZ 2 (2) = [0, (-4), 1] := by decide
theorem ab_p2_3 : abelZ 3 (2) = [0, 36, (-12), 1] := by decide
theorem ab_p2_4 : abelZ 4 (2) = [0, (-512), 192, (-24), 1] := by decide
theorem ab_m2_0 : abelZ 0 (-2) = [1] := by decide
theorem ab_m2_1 : abelZ 1 (-2) = [0, 1] := by decide
theorem ab_m2_2 : abelZ 2 (-2) = [0, 4, 1] := by decide
theorem ab_m2_3 : abelZ 3 (-2) = [0, 36, 12, 1] := by decide
theorem ab_m2_4 : abelZ 4 (-2) = [0, 512, 192, 24, 1] := by decide
theorem worth_0 (a : Int) (f : List Int) (hl : f.length ≤ 5) : worthZ a f 0 = f.getD 0 0 := by
  unfold worthZ
  rw [qat_getD _ _ (slope_len f hl 0)]
  have z : ∀ j, 5 ≤ j → f.getD j 0 = 0 := fun j h => getD_none (by omega)
  simp [slopeN, qderive_getD, z 5 (by omega), z 6 (by omega), z 7 (by omega), z 8 (by omega), -List.getD_eq_getElem?_getD]
theorem worth_1 (a : Int) (f : List Int) (hl : f.length ≤ 5) : worthZ a f 1 = ((f.getD 4 0 * 4 * a + f.getD 3 0 * 3) * a + f.getD 2 0 * 2) * a + f.getD 1 0 := by
  unfold worthZ
  rw [qat_getD _ _ (slope_len f hl 1)]
  have z : ∀ j, 5 ≤ j → f.getD j 0 = 0 := fun j h => getD_none (by omega)
  simp [slopeN, qderive_getD, z 5 (by omega), z 6 (by omega), z 7 (by omega), z 8 (by omega), -List.getD_eq_getElem?_getD]
theorem worth_2 (a : Int) (f : List Int) (hl : f.length ≤ 5) : worthZ a f 2 = (f.getD 4 0 * 4 * 3 * (2 * a) + f.getD 3 0 * 3 * 2) * (2 * a) + f.getD 2 0 * 2 := by
  unfold worthZ
  rw [qat_getD _ _ (slope_len f hl 2)]
  have z : ∀ j, 5 ≤ j → f.getD j 0 = 0 := fun j h => getD_none (by omega)
  simp [slopeN, qderive_getD, z 5 (by omega), z 6 (by omega), z 7 (by omega), z 8 (by omega), -List.getD_eq_getElem?_getD]
theorem worth_3 (a : Int) (f : List Int) (hl : f.length ≤ 5) : worthZ a f 3 = f.getD 4 0 * 4 * 3 * 2 * (3 * a) + f.getD 3 0 * 3 * 2 := by
  unfold worthZ
  rw [qat_getD _ _ (slope_len f hl 3)]
  have z : ∀ j, 5 ≤ j → f.getD j 0 = 0 := fun j h => getD_none (by omega)
  simp [slopeN, qderive_getD, z 5 (by omega), z 6 (by omega), z 7 (by omega), z 8 (by omega), -List.getD_eq_getElem?_getD]
theorem worth_4 (a : Int) (f : List Int) (hl : f.length ≤ 5) : worthZ a f 4 = f.getD 4 0 * 4 * 3 * 2 := by
  unfold worthZ
  rw [qat_getD _ _ (slope_len f hl 4)]
  have z : ∀ j, 5 ≤ j → f.getD j 0 = 0 := fun j h => getD_none (by omega)
  simp [slopeN, qderive_getD, z 5 (by omega), z 6 (by omega), z 7 (by omega), z 8 (by omega), -List.getD_eq_getElem?_getD]
def Key (a : Int) (f : List Int) (i : Nat) : Prop :=
  (abelZ 0 a).getD i 0 * worthZ a f 0 * 24 + (abelZ 1 a).getD i 0 * worthZ a f 1 * 24 + (abelZ 2 a).getD i 0 * worthZ a f 2 * 12 + (abelZ 3 a).getD i 0 * worthZ a f 3 * 4 + (abelZ 4 a).getD i 0 * worthZ a f 4 = 24 * f.getD i 0
theorem key_big {a : Int} (ha : a ∈ As) {f : List Int} {i : Nat} (hl : f.length ≤ 5) (hi : 5 ≤ i) : Key a f i := by
  have z : ∀ n < 5, (abelZ n a).getD i 0 = 0 := fun n hn => getD_none (Nat.le_trans (abel_sz a ha n hn).1 hi)
  unfold Key
  rw [z 0 (by decide), z 1 (by decide), z 2 (by decide), z 3 (by decide), z 4 (by decide), getD_none (p := f) (Nat.le_trans hl hi)]
  simp only [Int.zero_mul, Int.mul_zero, Int.add_zero]
theorem lin_p1_0 (f0 f1 f2 f3 f4 : Int) : 1 * f0 * 24 + 0 * (((f4 * 4 * 1 + f3 * 3) * 1 + f2 * 2) * 1 + f1) * 24 + 0 * ((f4 * 4 * 3 * (2 * 1) + f3 * 3 * 2) * (2 * 1) + f2 * 2) * 12 + 0 * (f4 * 4 * 3 * 2 * (3 * 1) + f3 * 3 * 2) * 4 + 0 * (f4 * 4 * 3 * 2) = 24 * f0 := by omega
theorem lin_p1_1 (f0 f1 f2 f3 f4 : Int) : 0 * f0 * 24 + 1 * (((f4 * 4 * 1 + f3 * 3) * 1 + f2 * 2) * 1 + f1) * 24 + (-2) * ((f4 * 4 * 3 * (2 * 1) + f3 * 3 * 2) * (2 * 1) + f2 * 2) * 12 + 9 * (f4 * 4 * 3 * 2 * (3 * 1) + f3 * 3 * 2) * 4 + (-64) * (f4 * 4 * 3 * 2) = 24 * f1 := by omega
theorem lin_p1_2 (f0 f1 f2 f3 f4 : Int) : 0 * f0 * 24 + 0 * (((f4 * 4 * 1 + f3 * 3) * 1 + f2 * 2) * 1 + f1) * 24 + 1 * ((f4 * 4 * 3 * (2 * 1) + f3 * 3 * 2) * (2 * 1) + f2 * 2) * 12 + (-6) * (f4 * 4 * 3 * 2 * (3 * 1) + f3 * 3 * 2) * 4 + 48 * (f4 * 4 * 3 * 2) = 24 * f2 := by omega
theorem lin_p1_3 (f0 f1 f2 f3 f4 : Int) : 0 * f0 * 24 + 0 * (((f4 * 4 * 1 + f3 * 3) * 1 + f2 * 2) * 1 + f1) * 24 + 0 * ((f4 * 4 * 3 * (2 * 1) + f3 * 3 * 2) * (2 * 1) + f2 * 2) * 12 + 1 * (f4 * 4 * 3 * 2 * (3 * 1) + f3 * 3 * 2) * 4 + (-12) * (f4 * 4 * 3 * 2) = 24 * f3 := by omega
theorem lin_p1_4 (f0 f1 f2 f3 f4 : Int) : 0 * f0 * 24 + 0 * (((f4 * 4 * 1 + f3 * 3) * 1 + f2 * 2) * 1 + f1) * 24 + 0 * ((f4 * 4 * 3 * (2 * 1) + f3 * 3 * 2) * (2 * 1) + f2 * 2) * 12 + 0 * (f4 * 4 * 3 * 2 * (3 * 1) + f3 * 3 * 2) * 4 + 1 * (f4 * 4 * 3 * 2) = 24 * f4 := by omega
theorem key_p1 {f : List Int} {i : Nat} (hl : f.length ≤ 5) (hi : i < 5) : Key (1) f i := by
  unfold Key
  rw [worth_0 _ f hl, worth_1 _ f hl, worth_2 _ f hl, worth_3 _ f hl, worth_4 _ f hl, ab_p1_0, ab_p1_1, ab_p1_2, ab_p1_3, ab_p1_4]
  match i, hi with
  | 0, _ => exact lin_p1_0 (f.getD 0 0) (f.getD 1 0) (f.getD 2 0) (f.getD 3 0) (f.getD 4 0)
  | 1, _ => exact lin_p1_1 (f.getD 0 0) (f.getD 1 0) (f.getD 2 0) (f.getD 3 0) (f.getD 4 0)
  | 2, _ => exact lin_p1_2 (f.getD 0 0) (f.getD 1 0) (f.getD 2 0) (f.getD 3 0) (f.getD 4 0)
  | 3, _ => exact lin_p1_3 (f.getD 0 0) (f.getD 1 0) (f.getD 2 0) (f.getD 3 0) (f.getD 4 0)
  | 4, _ => exact lin_p1_4 (f.getD 0 0) (f.getD 1 0) (f.getD 2 0) (f.getD 3 0) (f.getD 4 0)
theorem lin_m1_0 (f0 f1 f2 f3 f4 : Int) : 1 * f0 * 24 + 0 * (((f4 * 4 * (-1) + f3 * 3) * (-1) + f2 * 2) * (-1) + f1) * 24 + 0 * ((f4 * 4 * 3 * (2 * (-1)) + f3 * 3 * 2) * (2 * (-1)) + f2 * 2) * 12 + 0 * (f4 * 4 * 3 * 2 * (3 * (-1)) + f3 * 3 * 2) * 4 + 0 * (f4 * 4 * 3 * 2) = 24 * f0 := by omega
theorem lin_m1_1 (f0 f1 f2 f3 f4 : Int) : 0 * f0 * 24 + 1 * (((f4 * 4 * (-1) + f3 * 3) * (-1) + f2 * 2) * (-1) + f1) * 24 + 2 * ((f4 * 4 * 3 * (2 * (-1)) + f3 * 3 * 2) * (2 * (-1)) + f2 * 2) * 12 + 9 * (f4 * 4 * 3 * 2 * (3 * (-1)) + f3 * 3 * 2) * 4 + 64 * (f4 * 4 * 3 * 2) = 24 * f1 := by omega
theorem lin_m1_2 (f0 f1 f2 f3 f4 : Int) : 0 * f0 * 24 + 0 * (((f4 * 4 * (-1) + f3 * 3) * (-1) + f2 * 2) * (-1) + f1) * 24 + 1 * ((f4 * 4 * 3 * (2 * (-1)) + f3 * 3 * 2) * (2 * (-1)) + f2 * 2) * 12 + 6 * (f4 * 4 * 3 * 2 * (3 * (-1)) + f3 * 3 * 2) * 4 + 48 * (f4 * 4 * 3 * 2) = 24 * f2 := by omega
theorem lin_m1_3 (f0 f1 f2 f3 f4 : Int) : 0 * f0 * 24 + 0 * (((f4 * 4 * (-1) + f3 * 3) * (-1) + f2 * 2) * (-1) + f1) * 24 + 0 * ((f4 * 4 * 3 * (2 * (-1)) + f3 * 3 * 2) * (2 * (-1)) + f2 * 2) * 12 + 1 * (f4 * 4 * 3 * 2 * (3 * (-1)) + f3 * 3 * 2) * 4 + 12 * (f4 * 4 * 3 * 2) = 24 * f3 := by omega
theorem lin_m1_4 (f0 f1 f2 f3 f4 : Int) : 0 * f0 * 24 + 0 * (((f4 * 4 * (-1) + f3 * 3) * (-1) + f2 * 2) * (-1) + f1) * 24 + 0 * ((f4 * 4 * 3 * (2 * (-1)) + f3 * 3 * 2) * (2 * (-1)) + f2 * 2) * 12 + 0 * (f4 * 4 * 3 * 2 * (3 * (-1)) + f3 * 3 * 2) * 4 + 1 * (f4 * 4 * 3 * 2) = 24 * f4 := by omega
theorem key_m1 {f : List Int} {i : Nat} (hl : f.length ≤ 5) (hi : i < 5) : Key (-1) f i := by
  unfold Key
  rw [worth_0 _ f hl, worth_1 _ f hl, worth_2 _ f hl, worth_3 _ f hl, worth_4 _ f hl, ab_m1_0, ab_m1_1, ab_m1_2, ab_m1_3, ab_m1_4]
  match i, hi with
  | 0, _ => exact lin_m1_0 (f.getD 0 0) (f.getD 1 0) (f.getD 2 0) (f.getD 3 0) (f.getD 4 0)
  | 1, _ => exact lin_m1_1 (f.getD 0 0) (f.getD 1 0) (f.getD 2 0) (f.getD 3 0) (f.getD 4 0)
  | 2, _ => exact lin_m1_2 (f.getD 0 0) (f.getD 1 0) (f.getD 2 0) (f.getD 3 0) (f.getD 4 0)
  | 3, _ => exact lin_m1_3 (f.getD 0 0) (f.getD 1 0) (f.getD 2 0) (f.getD 3 0) (f.getD 4 0)
  | 4, _ => exact lin_m1_4 (f.getD 0 0) (f.getD 1 0) (f.getD 2 0) (f.getD 3 0) (f.getD 4 0)
theorem lin_p2_0 (f0 f1 f2 f3 f4 : Int) : 1 * f0 * 24 + 0 * (((f4 * 4 * 2 + f3 * 3) * 2 + f2 * 2) * 2 + f1) * 24 + 0 * ((f4 * 4 * 3 * (2 * 2) + f3 * 3 * 2) * (2 * 2) + f2 * 2) * 12 + 0 * (f4 * 4 * 3 * 2 * (3 * 2) + f3 * 3 * 2) * 4 + 0 * (f4 * 4 * 3 * 2) = 24 * f0 := by omega
theorem lin_p2_1 (f0 f1 f2 f3 f4 : Int) : 0 * f0 * 24 + 1 * (((f4 * 4 * 2 + f3 * 3) * 2 + f2 * 2) * 2 + f1) * 24 + (-4) * ((f4 * 4 * 3 * (2 * 2) + f3 * 3 * 2) * (2 * 2) + f2 * 2) * 12 + 36 * (f4 * 4 * 3 * 2 * (3 * 2) + f3 * 3 * 2) * 4 + (-512) * (f4 * 4 * 3 * 2) = 24 * f1 := by omega
theorem lin_p2_2 (f0 f1 f2 f3 f4 : Int) : 0 * f0 * 24 + 0 * (((f4 * 4 * 2 + f3 * 3) * 2 + f2 * 2) * 2 + f1) * 24 + 1 * ((f4 * 4 * 3 * (2 * 2) + f3 * 3 * 2) * (2 * 2) + f2 * 2) * 12 + (-12) * (f4 * 4 * 3 * 2 * (3 * 2) + f3 * 3 * 2) * 4 + 192 * (f4 * 4 * 3 * 2) = 24 * f2 := by omega
theorem lin_p2_3 (f0 f1 f2 f3 f4 : Int) : 0 * f0 * 24 + 0 * (((f4 * 4 * 2 + f3 * 3) * 2 + f2 * 2) * 2 + f1) * 24 + 0 * ((f4 * 4 * 3 * (2 * 2) + f3 * 3 * 2) * (2 * 2) + f2 * 2) * 12 + 1 * (f4 * 4 * 3 * 2 * (3 * 2) + f3 * 3 * 2) * 4 + (-24) * (f4 * 4 * 3 * 2) = 24 * f3 := by omega
theorem lin_p2_4 (f0 f1 f2 f3 f4 : Int) : 0 * f0 * 24 + 0 * (((f4 * 4 * 2 + f3 * 3) * 2 + f2 * 2) * 2 + f1) * 24 + 0 * ((f4 * 4 * 3 * (2 * 2) + f3 * 3 * 2) * (2 * 2) + f2 * 2) * 12 + 0 * (f4 * 4 * 3 * 2 * (3 * 2) + f3 * 3 * 2) * 4 + 1 * (f4 * 4 * 3 * 2) = 24 * f4 := by omega
theorem key_p2 {f : List Int} {i : Nat} (hl : f.length ≤ 5) (hi : i < 5) : Key (2) f i := by
  unfold Key
  rw [worth_0 _ f hl, worth_1 _ f hl, worth_2 _ f hl, worth_3 _ f hl, worth_4 _ f hl, ab_p2_0, ab_p2_1, ab_p2_2, ab_p2_3, ab_p2_4]
  match i, hi with
  | 0, _ => exact lin_p2_0 (f.getD 0 0) (f.getD 1 0) (f.getD 2 0) (f.getD 3 0) (f.getD 4 0)
  | 1, _ => exact lin_p2_1 (f.getD 0 0) (f.getD 1 0) (f.getD 2 0) (f.getD 3 0) (f.getD 4 0)
  | 2, _ => exact lin_p2_2 (f.getD 0 0) (f.getD 1 0) (f.getD 2 0) (f.getD 3 0) (f.getD 4 0)
  | 3, _ => exact lin_p2_3 (f.getD 0 0) (f.getD 1 0) (f.getD 2 0) (f.getD 3 0) (f.getD 4 0)
  | 4, _ => exact lin_p2_4 (f.getD 0 0) (f.getD 1 0) (f.getD 2 0) (f.getD 3 0) (f.getD 4 0)
theorem lin_m2_0 (f0 f1 f2 f3 f4 : Int) : 1 * f0 * 24 + 0 * (((f4 * 4 * (-2) + f3 * 3) * (-2) + f2 * 2) * (-2) + f1) * 24 + 0 * ((f4 * 4 * 3 * (2 * (-2)) + f3 * 3 * 2) * (2 * (-2)) + f2 * 2) * 12 + 0 * (f4 * 4 * 3 * 2 * (3 * (-2)) + f3 * 3 * 2) * 4 + 0 * (f4 * 4 * 3 * 2) = 24 * f0 := by omega
theorem lin_m2_1 (f0 f1 f2 f3 f4 : Int) : 0 * f0 * 24 + 1 * (((f4 * 4 * (-2) + f3 * 3) * (-2) + f2 * 2) * (-2) + f1) * 24 + 4 * ((f4 * 4 * 3 * (2 * (-2)) + f3 * 3 * 2) * (2 * (-2)) + f2 * 2) * 12 + 36 * (f4 * 4 * 3 * 2 * (3 * (-2)) + f3 * 3 * 2) * 4 + 512 * (f4 * 4 * 3 * 2) = 24 * f1 := by omega
theorem lin_m2_2 (f0 f1 f2 f3 f4 : Int) : 0 * f0 * 24 + 0 * (((f4 * 4 * (-2) + f3 * 3) * (-2) + f2 * 2) * (-2) + f1) * 24 + 1 * ((f4 * 4 * 3 * (2 * (-2)) + f3 * 3 * 2) * (2 * (-2)) + f2 * 2) * 12 + 12 * (f4 * 4 * 3 * 2 * (3 * (-2)) + f3 * 3 * 2) * 4 + 192 * (f4 * 4 * 3 * 2) = 24 * f2 := by omega
theorem lin_m2_3 (f0 f1 f2 f3 f4 : Int) : 0 * f0 * 24 + 0 * (((f4 * 4 * (-2) + f3 * 3) * (-2) + f2 * 2) * (-2) + f1) * 24 + 0 * ((f4 * 4 * 3 * (2 * (-2)) + f3 * 3 * 2) * (2 * (-2)) + f2 * 2) * 12 + 1 * (f4 * 4 * 3 * 2 * (3 * (-2)) + f3 * 3 * 2) * 4 + 24 * (f4 * 4 * 3 * 2) = 24 * f3 := by omega
theorem lin_m2_4 (f0 f1 f2 f3 f4 : Int) : 0 * f0 * 24 + 0 * (((f4 * 4 * (-2) + f3 * 3) * (-2) + f2 * 2) * (-2) + f1) * 24 + 0 * ((f4 * 4 * 3 * (2 * (-2)) + f3 * 3 * 2) * (2 * (-2)) + f2 * 2) * 12 + 0 * (f4 * 4 * 3 * 2 * (3 * (-2)) + f3 * 3 * 2) * 4 + 1 * (f4 * 4 * 3 * 2) = 24 * f4 := by omega
theorem key_m2 {f : List Int} {i : Nat} (hl : f.length ≤ 5) (hi : i < 5) : Key (-2) f i := by
  unfold Key
  rw [worth_0 _ f hl, worth_1 _ f hl, worth_2 _ f hl, worth_3 _ f hl, worth_4 _ f hl, ab_m2_0, ab_m2_1, ab_m2_2, ab_m2_3, ab_m2_4]
  match i, hi with
  | 0, _ => exact lin_m2_0 (f.getD 0 0) (f.getD 1 0) (f.getD 2 0) (f.getD 3 0) (f.getD 4 0)
  | 1, _ => exact lin_m2_1 (f.getD 0 0) (f.getD 1 0) (f.getD 2 0) (f.getD 3 0) (f.getD 4 0)
  | 2, _ => exact lin_m2_2 (f.getD 0 0) (f.getD 1 0) (f.getD 2 0) (f.getD 3 0) (f.getD 4 0)
  | 3, _ => exact lin_m2_3 (f.getD 0 0) (f.getD 1 0) (f.getD 2 0) (f.getD 3 0) (f.getD 4 0)
  | 4, _ => exact lin_m2_4 (f.getD 0 0) (f.getD 1 0) (f.getD 2 0) (f.getD 3 0) (f.getD 4 0)
theorem key {a : Int} (ha : a ∈ As) {f : List Int} (hl : f.length ≤ 5) (i : Nat) : Key a f i := by
  by_cases hi : i < 5
  · simp only [As, List.mem_cons, List.not_mem_nil, or_false] at ha
    rcases ha with rfl | rfl | rfl | rfl
    · exact key_p1 hl hi
    · exact key_m1 hl hi
    · exact key_p2 hl hi
    · exact key_m2 hl hi
  · exact key_big ha hl (Nat.not_lt.mp hi)
theorem found_get {a : Int} (ha : a ∈ As) {most : Nat} {f : List Int} (h2 : 2 ≤ most) (h4 : most ≤ 4) (hl : f.length ≤ most + 1) (i : Nat) : (foundN a f (most + 1)).getD i 0 = ((f.getD i 0 : Int) : Rat) := by
  have hl5 : f.length ≤ 5 := Nat.le_trans hl (Nat.succ_le_succ h4)
  have k := key ha hl5 i
  unfold Key at k
  have z : (foundN a f 0).getD i 0 = 0 := rfl
  obtain rfl | rfl | rfl : most = 2 ∨ most = 3 ∨ most = 4 := by clear k hl; omega
  · have w3 : worthZ a f 3 = 0 := by rw [worth_3 _ f hl5, getD_none (p := f) (i := 4) (Nat.le_trans hl (by decide)), getD_none (p := f) (i := 3) hl]; simp
    have w4 : worthZ a f 4 = 0 := by rw [worth_4 _ f hl5, getD_none (p := f) (i := 4) (Nat.le_trans hl (by decide))]; simp
    rw [w3, w4, Int.mul_zero, Int.mul_zero] at k
    have c := comb _ _ _ 0 0 _ _ _ 0 0 _ ((congrArg (fun z => _ + z * 4 + z) (Int.mul_zero 0)).trans k)
    rw [show ((0 : Int) : Rat) = 0 from rfl, Rat.zero_mul, Rat.zero_mul, Rat.add_zero, Rat.add_zero] at c
    rw [foundN_getD, foundN_getD, foundN_getD, z]
    exact c
  · have w4 : worthZ a f 4 = 0 := by rw [worth_4 _ f hl5, getD_none (p := f) (i := 4) hl]; simp
    rw [w4, Int.mul_zero] at k
    have c := comb _ _ _ _ 0 _ _ _ _ 0 _ ((congrArg (fun z => _ + z) (Int.mul_zero 0)).trans k)
    rw [show ((0 : Int) : Rat) = 0 from rfl, Rat.zero_mul, Rat.add_zero] at c
    rw [foundN_getD, foundN_getD, foundN_getD, foundN_getD, z]
    exact c
  · rw [foundN_getD, foundN_getD, foundN_getD, foundN_getD, foundN_getD, z]
    exact comb _ _ _ _ _ _ _ _ _ _ _ k
theorem found_ok {a : Int} (ha : a ∈ As) {most : Nat} (hm : most ∈ [2, 3, 4]) {fs : List Int} (hl : fs.length = most + 1) : foundN a (trimZ fs) (most + 1) = cz (trimZ fs) := by
  have hm' : 2 ≤ most ∧ most ≤ 4 := by
    simp only [List.mem_cons, List.not_mem_nil, or_false] at hm; omega
  have lz : (trimZ fs).length ≤ most + 1 := by
    unfold trimZ
    rw [List.length_reverse]
    exact Nat.le_trans (List.dropWhile_sublist _).length_le (by simp; omega)
  refine trimmed_ext ?_ ?_ fun i => ?_
  · rw [foundN]; unfold qaddF; exact trimF_trimF _ _ rfl
  · rw [← trim_cz]; exact trimF_trimF _ _ rfl
  · rw [found_get ha hm'.1 hm'.2 lz, cz_getD]

theorem pick4 {v : Nat} (h : v < 4) : ∃ a ∈ As, [PyData.int 1, .int (-1), .int 2, .int (-2)][v]? = some (.int a) := by
  match v, h with
  | 0, _ => exact ⟨1, by decide, rfl⟩
  | 1, _ => exact ⟨-1, by decide, rfl⟩
  | 2, _ => exact ⟨2, by decide, rfl⟩
  | 3, _ => exact ⟨-2, by decide, rfl⟩
theorem pick3 {v : Nat} (h : v < 3) : ∃ most ∈ [2, 3, 4], (2 : Int) + v = ((most : Nat) : Int) := by
  match v, h with
  | 0, _ => exact ⟨2, by decide, rfl⟩
  | 1, _ => exact ⟨3, by decide, rfl⟩
  | 2, _ => exact ⟨4, by decide, rfl⟩
theorem pick7 {v : Nat} (h : v < 7) : ((v : Int) - 3) ∈ Cs := by
  match v, h with
  | 0, _ => decide
  | 1, _ => decide
  | 2, _ => decide
  | 3, _ => decide
  | 4, _ => decide
  | 5, _ => decide
  | 6, _ => decide
theorem most_le {most : Nat} (h : most ∈ [2, 3, 4]) : 2 ≤ most ∧ most ≤ 4 := by
  simp only [List.mem_cons, List.not_mem_nil, or_false] at h; omega
theorem Cs_sz {c : Int} (h : c ∈ Cs) : Sz 3 c := by
  have : ∀ c ∈ Cs, Sz 3 c := by unfold Sz; decide +kernel
  exact this c h
theorem eqv_pz (p : List Int) : PyData.eqv (.list (p.map zq)) (.list (p.map zq)) = true := by
  rw [← cz_rq, eqv_list]; simp
theorem shaped_pz (p : List Int) : SeqAt.shaped (.list (p.map zq)) = true := by rw [← cz_rq]; exact shaped_list _
theorem eqv_zq (x : Int) : PyData.eqv (zq x) (zq x) = true := by
  rw [← rq_cast, eqv_rq]; simp
theorem qscale_zq {c : Cx} {ρ : Rho} {ω : Om} {P : Ab → Om → Prop} {j k : Nat} {p : List Int} {r : Rat} (hn : 4 ≤ c.n) (lp : p.length ≤ 1000) (hj : 1 ≤ j) (hp : ∀ q ∈ p, Sz j q) (hr : RS k r) (hjk : j + k ≤ 9000) (h : P (.p (qscaleF (cz p) r)) ω) :
    callT c ρ ω (.ref 116) [.pz p, .q r] P := by
  rw [Ab.pz_p]
  exact qscale_ok hn (by rwa [cz_length]) (RS.cz hj hp) hr hjk h
section
variable {c : Cx}
set_option maxHeartbeats 4000000
theorem law_three {fs : List Int} {a cc : Int} {most : Nat} {rows : List PyData} {ρ : Rho} {nm : Str} {ar : Arguments} {body : List Stmt} {dl : List Expr} {rt : Option Expr} {tp : List TypeParam} {scope : Scope} {ts : Option Scope} {bd : Str} {ps : Pos} {fa : Addr} {cd : Value}
    (hb : PP.main.body.getLast? = some (.FunctionDef nm ar body dl rt tp scope ts bd ps)) (he : c.env = envOfC nm scope c.L fa cd) (hn : 12 ≤ c.n)
    (ha : a ∈ As) (hm : most ∈ [2, 3, 4]) (hc : cc ∈ Cs) (hfl : fs.length ≤ most + 1) (hfs : ∀ z ∈ fs, Sz 2 z) (lab : rows.length = most + 1) (gab : ∀ i, i < most + 1 → rows[i]? = some (.list ((abelZ i a).map zq)))
    (hfo : foundN a fs (most + 1) = cz fs)
    (hf : ρ (Str.ofString "f") = some (.pz fs)) (hra : ρ (Str.ofString "a") = some (.i a)) (hrm : ρ (Str.ofString "most") = some (.i most)) (hrc : ρ (Str.ofString "c") = some (.i cc)) (hro : ρ (Str.ofString "rows") = some (.l rows)) (hon : ρ (Str.ofString "onward") = some (.p (onwardN a most).1)) :
    ex c ρ [] (body.drop 8) fun o => ∃ ω', o = .ret (.b true) ω' := by
  change some (Stmt.FunctionDef _ _ _ _ _ _ _ _ _ _) = _ at hb
  injection hb with hb
  injection hb with h1 h2 h3 h4 h5 h6 h7
  subst h3 h7
  clear h2 h4 h5 h6
  dsimp only at he
  dsimp only [List.drop]
  have hm' := most_le hm
  have hsa := As_sz a ha
  have hsc := Cs_sz hc
  have lon := onward_length a most
  obtain ⟨o1, o2⟩ := onward_head a ha most hm
  obtain ⟨v1, v2⟩ := rev_head a ha most hm
  repeat' (walk_at "st")
  refine sreverse_ok (p := (onwardN a most).1) (t := turnedF a most) (by omega) (by omega) (by omega) (onward_rs ha (by omega)) o1 o2 (by rw [lon]; rfl) (fun x hx => rsb_ok (turned_rs' a ha most hm x hx)) (fun n hn x hx => ?_) ?_
  · rw [lon] at hn hx
    exact rsb_ok (rev_rs' a ha most hm n hn x hx)
  rw [lon]
  have er : (revN (turnedF a most) (most + 1) (most + 1 - 1)).1 = revF a most := rfl
  rw [er]
  repeat' (walk_at "st")
  have sr := fun x hx => rsb_ok (rev_rs2' a ha most hm x hx)
  have lr : ((revF a most).map ((cc : Rat) * ·)).length = most + 1 := by rw [List.length_map, v2]
  refine sscale_ok (r := (cc : Rat)) (p := revF a most) (by omega) (by omega) sr (RS.cast (k := 3) (by omega) hsc) (by omega) ?_
  repeat' (walk_at "st")
  refine sexp_ok (p := (revF a most).map ((cc : Rat) * ·)) (by omega) (by omega) (by omega) (fun x hx => ?_) ?_ (fun x hx => ?_) ?_
  · obtain ⟨y, hy, rfl⟩ := List.mem_map.mp hx
    exact ((RS.cast (k := 3) (by omega) hsc).mul (sr y hy)).mono (by omega)
  · rw [List.getElem?_map, v1]
    show some ((cc : Rat) * 0) = some 0
    rw [Rat.mul_zero]
  · rw [lr] at hx
    exact rsb_ok (told_rs' a ha most hm cc hc x hx)
  rw [lr]
  have et : sexpN ((revF a most).map ((cc : Rat) * ·)) (most + 1) = toldF a most cc := rfl
  rw [et]
  repeat' (walk_at "st")
  refine ev_list (evs_nil ⟨[], rfl, by decide, ?_⟩)
  repeat' (walk_at "st")
  have lt := told_length a ha most hm cc hc
  refine ex_for (by walk_at "sd") (by walk_at "sd") (itr_range1 (by walk_at "sd") (ev_bin (ev_var (by walk_at "lk") (ev_int (bin_add ⟨_, rfl, by omega, by omega, ?_⟩)))))
  refine ⟨fun i ρ' ω' => ω' = [] ∧ ρ' (Str.ofString "by") = some (.i (byZ i)) ∧ ρ' (Str.ofString "slope") = some (.pz (slopeN fs i)) ∧ ρ' (Str.ofString "found") = some (.p (foundN a fs i)) ∧ ρ' (Str.ofString "told") = some (.p (toldF a most cc)) ∧ ρ' (Str.ofString "a") = some (.i a) ∧ ρ' (Str.ofString "c") = some (.i cc) ∧ ρ' (Str.ofString "f") = some (.pz fs) ∧ ρ' (Str.ofString "rows") = some (.l rows),
    ⟨rfl, by walk_at "lk", by walk_at "lk", by walk_at "lk", by walk_at "lk", by walk_at "lk", by walk_at "lk", by walk_at "lk", by walk_at "lk"⟩, ?_, ?_⟩
  · rintro i d ρ' ω' hd ⟨rfl, q1, q2, q3, q4, q5, q6, q7, q8⟩
    have hi : i < most + 1 := by
      have := (List.getElem?_eq_some_iff.mp hd).1
      rw [rangeD_length] at this; omega
    rw [rangeD_get (by omega)] at hd
    cases hd
    rw [Int.zero_add]
    have hi5 : i < 5 := by omega
    have zi : Sz 3 (i : Int) := by show ((i : Int)).natAbs < 2 ^ 3; rw [Int.natAbs_natCast]; omega
    obtain ⟨b1, b2⟩ := by_sz i (by omega)
    obtain ⟨b3, b4⟩ := by_sz (i + 1) (by omega)
    have b3' : Sz 10 (byZ (i + 1)) := b3
    have zp := place_sz (n := i) ha hi5
    have zmax : Sz 3 (if (i : Int) > 1 then (i : Int) else 1) := by split; exact zi; exact Sz.one (by omega)
    have m1 : IntMulOk (byZ i) (if (i : Int) > 1 then (i : Int) else 1) := mulOk (j := 10) b1 zmax (by omega)
    have m2 : IntMulOk (i : Int) a := mulOk zi hsa (by omega)
    have eby : byZ i * (if (i : Int) > 1 then (i : Int) else 1) = byZ (i + 1) := by
      rw [byZ]
      congr 1
      by_cases h : 1 < i
      · rw [if_pos h, if_pos (by omega)]
      · rw [if_neg h, if_neg (by omega)]
    have grow := gab i hi
    obtain ⟨a1, a2⟩ := abel_sz a ha i hi5
    have hdue := due_sz a ha cc hc i hi5
    repeat' (walk_at "st")
    refine call_max ?_
    refine bin_mul m1 ?_
    rw [eby]
    refine ex_cons (ex_assign (by walk_at "sd") (by walk_at "sd") (evT.mono (P := fun x ω' => x = .i (dueZ a cc i) ∧ ω' = []) ?_ ?_))
    · repeat' (walk_at "st")
      split
      · rename_i h0
        have h1 : 0 < i := by have := of_decide_eq_true h0; omega
        have h2 : ((i : Int) - 1).toNat = i - 1 := by omega
        obtain ⟨p1, p2⟩ := pow_sz a ha cc hc i hi5 h1
        have m3 : IntMulOk cc ((cc - (i : Int) * a) ^ ((i : Int) - 1).toNat) := by rw [h2]; exact mulOk (k := 20) hsc p2 (by omega)
        repeat' (walk_at "st")
        refine bin_pow (by omega) p1 ?_
        repeat' (walk_at "st")
        refine ⟨?_, rfl⟩
        unfold dueZ
        rw [if_neg (by omega), h2]
      · rename_i h0
        have h1 : i = 0 := by
          have : ¬ (0 : Int) < i := fun q => h0 (decide_eq_true q)
          omega
        repeat' (walk_at "st")
        refine ⟨?_, rfl⟩
        unfold dueZ
        rw [if_pos h1]
    rintro x ω' ⟨rfl, rfl⟩
    repeat' (walk_at "st")
    refine itemAt.lst (d := rq ((toldF a most cc).getD i 0)) (by omega) (by omega) (by rw [Int.toNat_natCast]; exact rq_get (getD_get (by omega))) ?_
    repeat' (walk_at "st")
    refine rat_ok (by omega) b4 b3' (by omega) ?_
    repeat' (walk_at "st")
    refine bin_neD (shaped_rq _) (shaped_rq _) ⟨_, rfl, ?_⟩
    rw [eqv_rq, told_ok a ha most hm cc hc i hi, if_neg (by simp)]
    repeat' (walk_at "st")
    refine itemAt.lst (by omega) (by omega) (by rw [Int.toNat_natCast]; exact grow) ?_
    repeat' (walk_at "st")
    refine qat_z (k := 12) (m := 3) (p := abelZ i a) (r := cc) (by omega) (by omega) (by omega) a2 hsc (by omega) ?_
    repeat' (walk_at "st")
    refine bin_neD (by exact rfl) (by exact rfl) ⟨_, rfl, ?_⟩
    rw [at_ok a ha cc hc i hi5, show PyData.tuple [.int (dueZ a cc i), .int 1] = zq (dueZ a cc i) from rfl, eqv_zq, if_neg (by simp)]
    repeat' (walk_at "st")
    rw [if_neg (by decide)]
    repeat' (walk_at "st")
    refine ev_list (evs_nil ⟨[], rfl, by decide, ?_⟩)
    repeat' (walk_at "st")
    refine choices_ok (n := i) (by omega) (by omega) ?_
    repeat' (walk_at "st")
    refine ex_for (by walk_at "sd") (by walk_at "sd") (itr_range1 (by walk_at "sd") (ev_bin (ev_var (by walk_at "lk") (ev_int (bin_add ⟨_, rfl, by omega, by omega, ?_⟩)))))
    refine ⟨fun k ρ' ω' => ω' = [] ∧ ρ' (Str.ofString "together") = some (.pz (togN a cc i k)) ∧ ρ' (Str.ofString "choices") = some (.l ((chooseZ i i).map .int)) ∧ ρ' (Str.ofString "place") = some (.i i) ∧ ρ' (Str.ofString "by") = some (.i (byZ (i + 1))) ∧ ρ' (Str.ofString "slope") = some (.pz (slopeN fs i)) ∧ ρ' (Str.ofString "found") = some (.p (foundN a fs i)) ∧ ρ' (Str.ofString "told") = some (.p (toldF a most cc)) ∧ ρ' (Str.ofString "a") = some (.i a) ∧ ρ' (Str.ofString "c") = some (.i cc) ∧ ρ' (Str.ofString "f") = some (.pz fs) ∧ ρ' (Str.ofString "rows") = some (.l rows),
      ⟨rfl, by walk_at "lk", by walk_at "lk", by walk_at "lk", by walk_at "lk", by walk_at "lk", by walk_at "lk", by walk_at "lk", by walk_at "lk", by walk_at "lk", by walk_at "lk", by walk_at "lk"⟩, ?_, ?_⟩
    · clear q1 q2 q3 q4 q5 q6 q7 q8
      rintro k d ρ' ω' hd ⟨rfl, r1, r2, r3, q1, q2, q3, q4, q5, q6, q7, q8⟩
      have hk : k < i + 1 := by
        have := (List.getElem?_eq_some_iff.mp hd).1
        rw [rangeD_length] at this; omega
      rw [rangeD_get (by omega)] at hd
      cases hd
      rw [Int.zero_add]
      obtain ⟨t1, t2⟩ := tog_sz a ha cc hc i hi5 k (by omega)
      have g1 := gab (i - k) (by omega)
      have g2 := gab k (by omega)
      obtain ⟨a3, a4⟩ := abel_sz a ha (i - k) (by omega)
      obtain ⟨a5, a6⟩ := abel_sz a ha k (by omega)
      have z1 : Sz 10 ((chooseZ i i).getD k 0) := getD_sz (fun x hx => chooseZ_sz i hi5 i hi5 x hx) k
      have z2 : Sz 20 (qatZ (abelZ (i - k) a) cc) := at_sz a ha cc hc (i - k) (by omega)
      have m4 : IntMulOk ((chooseZ i i).getD k 0) (qatZ (abelZ (i - k) a) cc) := mulOk z1 z2 (by omega)
      have lch := chooseZ_length i i
      have g3 : ((chooseZ i i).map PyData.int)[(k : Int).toNat]? = some (.int ((chooseZ i i).getD k 0)) := by
        rw [Int.toNat_natCast, List.getElem?_map, List.getElem?_eq_getElem (by omega), List.getD_eq_getElem?_getD, List.getElem?_eq_getElem (by omega)]; rfl
      repeat' (walk_at "st")
      refine itemAt.lst (by omega) (by omega) (by rw [show ((i : Int) - (k : Int)).toNat = i - k by omega]; exact g1) ?_
      repeat' (walk_at "st")
      refine qat_z (k := 12) (m := 3) (p := abelZ (i - k) a) (r := cc) (by omega) (by omega) (by omega) a4 hsc (by omega) ?_
      repeat' (walk_at "st")
      refine itemAt.lst (by omega) (by omega) (by rw [Int.toNat_natCast]; exact g2) ?_
      repeat' (walk_at "st")
      refine itemAt.lst (by omega) (by omega) g3 ?_
      repeat' (walk_at "st")
      refine qscale_z (j := 12) (k := 30) (p := abelZ k a) (r := (chooseZ i i).getD k 0 * qatZ (abelZ (i - k) a) cc) (by omega) (by omega) a6 (z1.mul z2) (by omega) (by omega) (by omega) ?_
      repeat' (walk_at "st")
      have z3 : (qscaleZ (abelZ k a) ((chooseZ i i).getD k 0 * qatZ (abelZ (i - k) a) cc)).length ≤ 5 ∧ ∀ x ∈ qscaleZ (abelZ k a) ((chooseZ i i).getD k 0 * qatZ (abelZ (i - k) a) cc), Sz 42 x := by
        unfold qscaleZ
        split
        · exact ⟨Nat.zero_le _, fun x hx => by cases hx⟩
        · refine ⟨by simpa using a5, fun x hx => ?_⟩
          obtain ⟨y, hy, rfl⟩ := List.mem_map.mp hx
          exact Sz.mul (j := 12) (a6 y hy) (z1.mul z2)
      refine qadd_z (j := 40) (k := 42) (a := togN a cc i k) (b := qscaleZ (abelZ k a) ((chooseZ i i).getD k 0 * qatZ (abelZ (i - k) a) cc)) (by omega) (by omega) (by omega) t2 z3.2 (by omega) (by omega) (by omega) ?_
      repeat' (walk_at "st")
      exact ⟨rfl, by walk_at "lk", by walk_at "lk", by walk_at "lk", by walk_at "lk", by walk_at "lk", by walk_at "lk", by walk_at "lk", by walk_at "lk", by walk_at "lk", by walk_at "lk", by walk_at "lk"⟩
    clear q1 q2 q3 q4 q5 q6 q7 q8
    rintro ρ' ω' ⟨rfl, r1, r2, r3, q1, q2, q3, q4, q5, q6, q7, q8⟩
    rw [rangeD_length, show ((i : Int) + 1).toNat = i + 1 by omega] at r1
    obtain ⟨t1, t2⟩ := tog_sz a ha cc hc i hi5 (i + 1) (by omega)
    have hcs : ∀ q ∈ [cc, 1], Sz 3 q := fun q hq => by
      simp only [List.mem_cons, List.not_mem_nil, or_false] at hq
      rcases hq with rfl | rfl
      · exact hsc
      · exact Sz.one (by omega)
    repeat' (walk_at "st")
    refine itemAt.lst (by omega) (by omega) (by rw [Int.toNat_natCast]; exact grow) ?_
    repeat' (walk_at "st")
    refine ev_list ?_
    repeat' (walk_at "st")
    refine ⟨[zq cc, zq 1], rfl, by simp, ?_⟩
    repeat' (walk_at "st")
    refine qcompose_z (j := 12) (k := 3) (a := abelZ i a) (b := [cc, 1]) (by omega) (by omega) (by omega) (by omega) (by omega) (by omega) (by simp) a2 hcs ?_
    repeat' (walk_at "st")
    refine bin_neD (shaped_pz _) (shaped_pz _) ⟨_, rfl, ?_⟩
    rw [comp_ok a ha cc hc i hi5, eqv_pz, if_neg (by simp)]
    refine ex_nil ?_
    refine ex_cons (ex_if (tsT.mono (P := fun b ω' => b = false ∧ ω' = []) ?_ ?_))
    · repeat' (walk_at "st")
      split
      · rename_i h0
        have h1 : 0 < i := by have := of_decide_eq_true h0; omega
        obtain ⟨a3, a4⟩ := abel_sz a ha (i - 1) (by omega)
        obtain ⟨s1, s2⟩ := shift_sz a ha (i - 1) (by omega)
        have g1 := gab (i - 1) (by omega)
        have hbs : ∀ q ∈ [0 - a, 1], Sz 4 q := fun q hq => by
          simp only [List.mem_cons, List.not_mem_nil, or_false] at hq
          rcases hq with rfl | rfl
          · exact Sz.sub (Sz.zero 3) hsa
          · exact Sz.one (by omega)
        repeat' (walk_at "st")
        refine itemAt.lst (by omega) (by omega) (by rw [Int.toNat_natCast]; exact grow) ?_
        repeat' (walk_at "st")
        refine qderive_z (k := 12) (p := abelZ i a) (by omega) (by omega) (by omega) (by omega) a2 ?_
        repeat' (walk_at "st")
        refine itemAt.lst (by omega) (by omega) (by rw [show ((i : Int) - 1).toNat = i - 1 by omega]; exact g1) ?_
        repeat' (walk_at "st")
        refine ev_list ?_
        repeat' (walk_at "st")
        refine ⟨[zq (0 - a), zq 1], rfl, by simp, ?_⟩
        repeat' (walk_at "st")
        refine qcompose_z (j := 12) (k := 4) (a := abelZ (i - 1) a) (b := [0 - a, 1]) (by omega) (by omega) (by omega) (by omega) (by omega) (by omega) (by simp) a4 hbs ?_
        repeat' (walk_at "st")
        refine qscale_z (j := 40) (k := 3) (p := qcomposeZ (abelZ (i - 1) a) [0 - a, 1]) (r := (i : Int)) (by omega) (by omega) s2 zi (by omega) (by omega) (by omega) ?_
        repeat' (walk_at "st")
        refine bin_neD (shaped_pz _) (shaped_pz _) ⟨_, rfl, ?_⟩
        rw [der_ok a ha i hi5 h1, eqv_pz]
        exact ⟨rfl, rfl⟩
      · exact ⟨rfl, rfl⟩
    rintro b ω' ⟨rfl, rfl⟩
    rw [if_neg (by decide)]
    have hfl5 : fs.length ≤ 5 := by omega
    have ss := slopeN_sz hfl5 hfs i
    have ws := worth_sz (n := i) ha hi5 hfl5 hfs
    have rs := ratio_sz (n := i) ha hi5 hfl5 hfs
    have fz := found_sz ha hfl5 hfs i (by omega)
    have b5 : (1 : Int) * byZ (i + 1) ≠ 0 := by rw [Int.one_mul]; exact b4
    have b6 : Sz 10 ((1 : Int) * byZ (i + 1)) := by rw [Int.one_mul]; exact b3'
    have m5 : IntMulOk 1 (byZ (i + 1)) := mulOk (j := 1) (Sz.one (by omega)) b3' (by omega)
    have hmx : (slopeN fs i).length * (6 + (2 + 10 * i) + 1) ≤ 5 * 59 := Nat.mul_le_mul ss.1 (by omega)
    repeat' (walk_at "st")
    refine qat_z (k := 2 + 10 * i) (m := 6) (p := slopeN fs i) (r := (i : Int) * a) (by omega) (by omega) (by omega) ss.2 zp (by omega) ?_
    repeat' (walk_at "st")
    refine itemAt.lst (by omega) (by omega) (by rw [Int.toNat_natCast]; exact grow) ?_
    repeat' (walk_at "st")
    refine rat_ok (by omega) b5 b6 (by omega) ?_
    repeat' (walk_at "st")
    refine qscale_zq (j := 12) (p := abelZ i a) (by omega) (by omega) (by omega) a2 rs (by omega) ?_
    repeat' (walk_at "st")
    refine qadd_ok (j := 1 + 400 * i) (k := 312) (a := foundN a fs i) (b := qscaleF (cz (abelZ i a)) (Rat.divInt (worthZ a fs i) (1 * byZ (i + 1)))) (by omega) (by have := fz.1; omega) (by have := qscaleF_length (cz (abelZ i a)) (Rat.divInt (worthZ a fs i) (1 * byZ (i + 1))); rw [cz_length] at this; omega) fz.2 (qscaleF_sz (RS.cz (k := 12) (by omega) a2) rs) (by omega) (by omega) (by omega) ?_
    repeat' (walk_at "st")
    refine qderive_z (k := 2 + 10 * i) (p := slopeN fs i) (by omega) (by omega) (by omega) (by have := ss.1; omega) ss.2 ?_
    repeat' (walk_at "st")
    exact ⟨rfl, by walk_at "lk", by walk_at "lk", by walk_at "lk", by walk_at "lk", by walk_at "lk", by walk_at "lk", by walk_at "lk", by walk_at "lk"⟩
  · rintro ρ' ω' ⟨rfl, q1, q2, q3, q4, q5, q6, q7, q8⟩
    rw [rangeD_length, show ((most : Int) + 1).toNat = most + 1 by omega, hfo] at q3
    repeat' (walk_at "st")
    refine bin_eqD (shaped_list _) (shaped_pz _) ?_
    rw [cz_rq, eqv_pz]
    exact ⟨_, rfl⟩
end

section
variable {c : Cx}
set_option maxHeartbeats 4000000
theorem law_two {fs : List Int} {a cc : Int} {most : Nat} {ρ : Rho} {nm : Str} {ar : Arguments} {body : List Stmt} {dl : List Expr} {rt : Option Expr} {tp : List TypeParam} {scope : Scope} {ts : Option Scope} {bd : Str} {ps : Pos} {fa : Addr} {cd : Value}
    (hb : PP.main.body.getLast? = some (.FunctionDef nm ar body dl rt tp scope ts bd ps)) (he : c.env = envOfC nm scope c.L fa cd) (hn : 12 ≤ c.n)
    (ha : a ∈ As) (hm : most ∈ [2, 3, 4]) (hc : cc ∈ Cs) (hfl : fs.length = most + 1) (hfs : ∀ z ∈ fs, Sz 2 z)
    (hf : ρ (Str.ofString "f") = some (.pz fs)) (hra : ρ (Str.ofString "a") = some (.i a)) (hrm : ρ (Str.ofString "most") = some (.i most)) (hrc : ρ (Str.ofString "c") = some (.i cc)) :
    ex c ρ [] (body.drop 4) fun o => ∃ ω', o = .ret (.b true) ω' := by
  have hb0 := hb
  change some (Stmt.FunctionDef _ _ _ _ _ _ _ _ _ _) = _ at hb
  injection hb with hb
  injection hb with h1 h2 h3 h4 h5 h6 h7
  subst h3 h7
  clear h2 h4 h5 h6
  dsimp only at he
  dsimp only [List.drop]
  have hm' := most_le hm
  have hsa := As_sz a ha
  have hsc := Cs_sz hc
  repeat' (walk_at "st")
  refine qtrim_z (by omega) (by omega) ?_
  repeat' (walk_at "st")
  refine ex_assignComp (ρf := Rho.none.set (Str.ofString "a") (.i a)) (by walk_at "sd") (by walk_at "sd") (by walk_at "sd") (by walk_at "sd") (by decide) (by exact rfl) (by decide) (by exact rfl) (Frees.set Frees.nil (by walk_at "lk") (by walk_at "sd") (by walk_at "sd") (by walk_at "sd")) ?_
  refine itr_range1 (by walk_at "sd") (ev_bin (ev_var (by walk_at "lk") (ev_int (bin_add ⟨_, rfl, by omega, by omega, ?_⟩))))
  refine ⟨(List.range (most + 1)).map fun p => .list ((abelZ p a).map zq), by simp [rangeD], by rw [rangeD_length]; omega, ?_, ?_⟩
  · intro c₂ C i d y hw₂ hn₂ he₂ hd hy
    rw [he] at he₂
    have hi : i < most + 1 := by
      have := (List.getElem?_eq_some_iff.mp hd).1
      rw [rangeD_length] at this; omega
    rw [rangeD_get (by omega)] at hd
    cases hd
    have hy' : y = .list ((abelZ i a).map zq) := by
      rw [List.getElem?_map, List.getElem?_range hi] at hy
      exact (Option.some.inj hy).symm
    subst hy'
    rw [Int.zero_add]
    repeat' (walk_at "st")
    exact abel_z (by omega) (by omega) hsa ⟨rfl, rfl⟩
  dsimp only
  have lab : (List.map (fun p => PyData.list (List.map zq (abelZ p a))) (List.range (most + 1))).length = most + 1 := by simp
  have gab : ∀ i, i < most + 1 → (List.map (fun p => PyData.list (List.map zq (abelZ p a))) (List.range (most + 1)))[i]? = some (.list ((abelZ i a).map zq)) := fun i hi => by
    rw [List.getElem?_map, List.getElem?_range hi]; rfl
  generalize List.map (fun p => PyData.list (List.map zq (abelZ p a))) (List.range (most + 1)) = rows at lab gab
  refine ex_cons (ex_triple (by walk_at "sd") (by walk_at "sd") (by walk_at "sd") (by walk_at "sd") ?_)
  refine evs_cons (ev_listOwn ?_)
  repeat' (walk_at "st")
  refine ⟨[rq 0], rfl, by decide, fun On => ?_⟩
  repeat' (walk_at "st")
  refine ex_for (by walk_at "sd") (by walk_at "sd") (itr_range2 (by walk_at "sd") (ev_int ⟨_, rfl, by omega, by omega, ?_⟩))
  repeat' (walk_at "st")
  refine ⟨by omega, by omega, ?_⟩
  refine ⟨fun i ρ' ω' => ω' = [(On, .lst ((onwardN a i).1.map rq))] ∧ ρ' (Str.ofString "onward") = some (.own On) ∧ ρ' (Str.ofString "top") = some (.i (onwardN a i).2.1) ∧ ρ' (Str.ofString "bottom") = some (.i (onwardN a i).2.2) ∧ ρ' (Str.ofString "a") = some (.i a) ∧ ρ' (Str.ofString "most") = some (.i most) ∧ ρ' (Str.ofString "c") = some (.i cc) ∧ ρ' (Str.ofString "f") = some (.pz (trimZ fs)) ∧ ρ' (Str.ofString "rows") = some (.l rows),
    ⟨rfl, by walk_at "lk", by walk_at "lk", by walk_at "lk", by walk_at "lk", by walk_at "lk", by walk_at "lk", by walk_at "lk", by walk_at "lk"⟩, ?_, ?_⟩
  · rintro i d ρ' ω' hd ⟨rfl, q1, q2, q3, q4, q5, q6, q7, q8⟩
    have hi : i < most := by
      have := (List.getElem?_eq_some_iff.mp hd).1
      rw [rangeD_length] at this; omega
    rw [rangeD_get (by omega)] at hd
    cases hd
    rw [show (1 + (i : Int)) = ((i + 1 : Nat) : Int) by omega]
    obtain ⟨z1, z2, z3⟩ := onward_sz a ha i (by omega)
    have z2' : Sz 10 (onwardN a i).2.2 := z2
    have len := onward_length a i
    have m1 : IntMulOk (onwardN a i).2.1 a := mulOk (j := 10) z1 hsa (by omega)
    have m2 : IntMulOk (onwardN a i).2.2 ((i + 1 : Nat) : Int) := mulOk (k := 10) z2' (show (((i + 1 : Nat) : Int)).natAbs < 2 ^ 10 by rw [Int.natAbs_natCast]; omega) (by omega)
    refine ex_cons (ex_append (l := On) (by walk_at "lk") ⟨_, [], [], rfl⟩ ?_)
    repeat' (walk_at "st")
    refine rat_ok (by omega) z3 z2' (by omega) ?_
    repeat' (walk_at "st")
    refine ⟨_, _, [], [], rfl, rfl, by simp; omega, ?_⟩
    repeat' (walk_at "st")
    exact ⟨by simp [onwardN], by walk_at "lk", by walk_at "lk", by walk_at "lk", by walk_at "lk", by walk_at "lk", by walk_at "lk", by walk_at "lk", by walk_at "lk"⟩
  rintro ρ' ω' ⟨rfl, q1, q2, q3, q4, q5, q6, q7, q8⟩
  rw [rangeD_length, show ((most : Int) + 1 - 1).toNat = most by omega] at *
  refine exT_freeze (ω₁ := []) ?_
  refine exT.mono (law_three (ρ := ρ'.froze On ((onwardN a most).1.map rq)) (fs := trimZ fs) hb0 he hn ha hm hc ?_ ?_ lab gab ?_ ?_ ?_ ?_ ?_ ?_ ?_) ?_
  · exact Nat.le_trans (trimZ_length fs) (by omega)
  · exact fun z hz => hfs z (trimZ_mem hz)
  · exact found_ok ha hm hfl
  · simp only [Rho.froze, q7]
  · simp only [Rho.froze, q4]
  · simp only [Rho.froze, q5]
  · simp only [Rho.froze, q6]
  · simp only [Rho.froze, q8]
  · simp only [Rho.froze, q1, if_true]
  · rintro o ⟨ω', rfl⟩
    exact ⟨_, rfl⟩
end

section
variable {c : Cx}
set_option maxHeartbeats 4000000
theorem law_walk {xs : List Int} {nm : Str} {ar : Arguments} {body : List Stmt} {dl : List Expr} {rt : Option Expr} {tp : List TypeParam} {scope : Scope} {ts : Option Scope} {bd : Str} {ps : Pos} {fa : Addr} {cd : Value}
    (hb : PP.main.body.getLast? = some (.FunctionDef nm ar body dl rt tp scope ts bd ps)) (he : c.env = envOfC nm scope c.L fa cd) (hn : 12 ≤ c.n) (hl : xs.length ≤ 100) (hoz : c.oρ = Rho.none) :
    ex c (Rho.none.set (Str.ofString "script") (.l (xs.map .int))) [(c.L + 1, .vac)] body fun o => ∃ ω', o = .ret (.b true) ω' := by
  have hb0 := hb
  change some (Stmt.FunctionDef _ _ _ _ _ _ _ _ _ _) = _ at hb
  injection hb with hb
  injection hb with h1 h2 h3 h4 h5 h6 h7
  subst h3 h7
  clear h2 h4 h5 h6
  dsimp only at he
  repeat' (walk_at "st")
  refine ev_listOwn (evs_cons (ev_comp (ρf := Rho.none) (by walk_at "sd") (by walk_at "sd") (by decide) (by exact rfl) (by decide) (by exact rfl) Frees.nil ?_))
  refine itr_list (ev_sliceTo (ev_var (by walk_at "lk") ⟨_, rfl, by simp; omega, ev_int ⟨_, rfl, by decide, ?_⟩⟩))
  rw [show (8 : Int).toNat = 8 from rfl, ← List.map_take]
  refine ⟨_, rfl, (xs.take 8).map .int, rfl, by simp; omega, ?_, ?_⟩
  · intro c₂ C i d y hw₂ hn₂ he₂ hd hy
    rw [he] at he₂
    obtain rfl : d = y := Option.some.inj (hd.symm.trans hy)
    rw [List.getElem?_map] at hd
    obtain ⟨x, hx, rfl⟩ := Option.map_eq_some_iff.mp hd
    repeat' (walk_at "st")
    refine call_int ⟨rfl, rfl⟩
  repeat' (walk_at "st")
  refine ⟨[.list ((xs.take 8).map .int), .int ((0 : Nat) : Int)], rfl, by simp, fun Pl => ?_⟩
  dsimp only
  have lx : (xs.take 8).length ≤ 1000 := by simp; omega
  generalize xs.take 8 = ys at lx
  refine exT_swap ?_
  refine ex_cellPair (C := c.L + 1) hoz (by walk_at "sd") (by walk_at "sd") (by walk_at "sd") (by walk_at "sd") ?_
  refine evs_cons (ev_sub (ev_tuple ?_))
  refine evs_cons (ev_int (evs_cons (ev_neg (evs_cons (ev_int (evs_cons (ev_neg (evs_nil ⟨[.int 1, .int (-1), .int 2, .int (-2)], rfl, by decide, ?_⟩))))))))
  refine evT_swap ?_
  repeat' (walk_at "st")
  refine draw_ok (spot := 0) (many := 4) (by omega) (by omega) lx (by omega) fun v hv => ?_
  obtain ⟨a, ha, hav⟩ := pick4 hv
  refine ⟨_, rfl, itemAt.tup (d := .int a) (by omega) (by omega) (by rw [Int.toNat_natCast]; exact hav) ?_⟩
  repeat' (walk_at "st")
  refine draw_ok (spot := 1) (many := 3) (by omega) (by omega) lx (by omega) fun v2 hv2 => ?_
  obtain ⟨most, hm, em⟩ := pick3 hv2
  repeat' (walk_at "st")
  rw [em]
  refine ⟨_, _, _, _, rfl, rfl, ?_⟩
  have hm' := most_le hm
  have hsa := As_sz a ha
  repeat' (walk_at "st")
  refine draw_ok (spot := 2) (many := 7) (by omega) (by omega) lx (by omega) fun v3 hv3 => ?_
  have hc := pick7 hv3
  repeat' (walk_at "st")
  generalize ((v3 : Int) - 3) = cc at hc
  refine ev_listOwn (evs_nil ⟨[], rfl, by decide, fun Fd => ?_⟩)
  repeat' (walk_at "st")
  try dsimp only
  refine exT_swap ?_
  refine ex_for (by walk_at "sd") (by walk_at "sd") (itr_range1 (by walk_at "sd") (ev_bin (ev_var (by walk_at "lk") (ev_int (bin_add ⟨_, rfl, by omega, by omega, ?_⟩)))))
  refine ⟨fun i ρ' ω' => ∃ fs : List Int, fs.length = i ∧ (∀ z ∈ fs, Sz 2 z) ∧ ω' = [(Pl, .lst [.list (ys.map .int), .int ((3 + i : Nat) : Int)]), (Fd, .lst (fs.map zq))] ∧ ρ' (Str.ofString "f") = some (.own Fd) ∧ ρ' (Str.ofString "pool") = some (.own Pl) ∧ ρ' (Str.ofString "a") = some (.i a) ∧ ρ' (Str.ofString "most") = some (.i most) ∧ ρ' (Str.ofString "c") = some (.i cc), ⟨[], rfl, by simp, rfl, by walk_at "lk", by walk_at "lk", by walk_at "lk", by walk_at "lk", by walk_at "lk"⟩, ?_, ?_⟩
  · rintro i d ρ' ω' hd ⟨fs, hfl, hfs, rfl, hf, hp, hra, hrm, hrc⟩
    have hi : i < most + 1 := by
      have := (List.getElem?_eq_some_iff.mp hd).1
      rw [rangeD_length] at this; omega
    refine ex_cons (ex_append (l := Fd) (by walk_at "lk") ⟨_, [_], [], rfl⟩ ?_)
    repeat' (walk_at "st")
    refine draw_ok (spot := 3 + i) (many := 7) (by omega) (by omega) lx (by omega) fun v4 hv4 => ?_
    repeat' (walk_at "st")
    refine ⟨zq ((v4 : Int) - 3), fs.map zq, [_], [], rfl, rfl, by simp; omega, ?_⟩
    repeat' (walk_at "st")
    refine ⟨fs ++ [(v4 : Int) - 3], by simp [hfl], fun z hz => ?_, by simp [Nat.add_assoc], by walk_at "lk", by walk_at "lk", by walk_at "lk", by walk_at "lk", by walk_at "lk"⟩
    rcases List.mem_append.mp hz with hz | hz
    · exact hfs z hz
    · rw [List.mem_singleton.mp hz]
      show ((v4 : Int) - 3).natAbs < 2 ^ 2
      omega
  rintro ρ' ω' ⟨fs, hfl, hfs, rfl, hf, hp, hra, hrm, hrc⟩
  rw [rangeD_length] at hfl
  have hfl : fs.length = most + 1 := by omega
  clear hp
  refine exT_drop (ω₁ := []) ?_
  refine exT_freeze (ω₁ := []) ?_
  refine exT.mono (law_two (ρ := ρ'.froze Fd (fs.map zq)) hb0 he hn ha hm hc hfl hfs ?_ ?_ ?_ ?_) ?_
  · simp only [Rho.froze, hf, if_true]
  · simp only [Rho.froze, hra]
  · simp only [Rho.froze, hrm]
  · simp only [Rho.froze, hrc]
  · rintro o ⟨ω', rfl⟩
    exact ⟨_, rfl⟩
end

theorem law_entry {w : World} {s₁ : Shared} {mean : ExcName → Option Value} {mg mb : Str → Option Value} {h₁ : Heap} {tk : Nat} {m : Str → Option Value} {cell : Obj} {xs : List Int} {ax : Addr} {as : List Addr}
    {nm : Str} {ar : Arguments} {body : List Stmt} {dl : List Expr} {rt : Option Expr} {tp : List TypeParam} {scope : Scope} {ts : Option Scope} {bd : Str} {ps : Pos} {fa : Addr} {cd : Value} {Q : Flow → Shared → Prop} {E : Value → Shared → Prop}
    (hb : PP.main.body.getLast? = some (.FunctionDef nm ar body dl rt tp scope ts bd ps)) (hk : scope.kind = .function)
    (KX : KIn s₁.heap) (T : TT mean mg mb s₁.heap) (K0 : Below callerA s₁.heap [] s₁.heap)
    (F : Fr s₁.heap s₁.heap.objs.size h₁ m) (N0 : News s₁.heap s₁.heap.objs.size h₁ [(s₁.heap.objs.size + 1, cell)]) (hcell : ∃ v, cell.data = .cell v)
    (hm : m (Str.ofString "script") = some (.ref ax)) (hks : scope.names.lookup (Str.ofString "script") = some .local) (r0 : Reads s₁.heap (.ref ax) (.list (xs.map .int)) as) (hl : xs.length ≤ 100)
    (hQ : ∀ h' tk', (∀ b o, s₁.heap.get? b = some o → h'.get? b = some o) → Q (.ret (.bool true)) { s₁ with heap := h', toks := tk' }) :
    wpAny (model PP w) (callerA.deeper (envOfC nm scope s₁.heap.objs.size fa cd)) (execs body (envOfC nm scope s₁.heap.objs.size fa cd)) Q E { s₁ with heap := h₁, toks := tk } := by
  have e49 : s₁.heap.get? 49 = some _ := KX.r0
  have e50 : s₁.heap.get? 50 = some _ := KX.r1
  let c : Cx := {
    w := w
    A := callerA.deeper (envOfC nm scope s₁.heap.objs.size fa cd)
    env := envOfC nm scope s₁.heap.objs.size fa cd
    fenv := envOfC nm scope s₁.heap.objs.size fa cd
    L := s₁.heap.objs.size
    g := s₁.heap
    s₀ := s₁
    gx₀ := s₁.heap
    n := 12
    base := s₁.heap
    outer := []
    A₀ := callerA
    mean := mean
    mg := mg
    mb := mb
    hh := rfl
    below := K0
    frames := rfl
    ff := rfl
    fk := hk
    kin := KX
    top := T
    eg := rfl
    eb := rfl
    ek := hk
    depth := by show callerA.depth + 1 + 12 < recursionLimit; decide
    units := by show callerA.units + 3 + 8 * 12 + 100 < cLine; decide
    oenv := envOfC nm scope s₁.heap.objs.size fa cd
    oρ := Rho.none
    oz := fun _ => rfl
    r0 := Is.tuple e49 rfl rfl (.cons (Is.int _ _) (.cons (Is.int _ _) .nil))
    r1 := Is.tuple e50 rfl rfl (.cons (Is.int _ _) (.cons (Is.int _ _) .nil)) }
  have none_at : ∀ a, s₁.heap.objs.size ≤ a → s₁.heap.get? a = none := fun a ha => by
    cases e : s₁.heap.get? a with
    | none => rfl
    | some o' => exact absurd (Heap.lt_size e) (Nat.not_lt.mpr ha)
  have S : St c (Rho.none.set (Str.ofString "script") (.l (xs.map .int))) [(c.L + 1, .vac)] s₁.heap [] { s₁ with heap := h₁, toks := tk } := by
    refine ⟨⟨h₁, tk, rfl⟩, ⟨m, F, fun x a e => ?_, Vars.none rfl⟩, ⟨[(s₁.heap.objs.size + 1, cell)], by simpa using N0, .cons hcell .nil⟩, by simp, fun p hp q hq => (by cases hq), F.keep, none_at _ (Nat.le_refl _), fun p hp => ?_, fun q hq => (by cases hq), Keep.refl _, fun b o e => .inl e⟩
    · by_cases hx : x = Str.ofString "script"
      · subst hx
        simp only [Rho.set, if_true] at e
        cases e
        exact ⟨_, .inl ⟨rfl, hks, hm⟩, as, r0⟩
      · simp [Rho.set, Rho.none, hx] at e
    · rw [List.mem_singleton.mp hp]; exact none_at _ (Nat.le_succ _)
  refine wpAny_mono (law_walk (c := c) hb rfl (Nat.le_refl _) hl rfl s₁.heap [] _ _ S fun f s' gx' out p k i => ?_) (fun _ _ x => x) fun _ _ e => e.elim
  obtain ⟨ω', rfl⟩ := p
  cases f with
  | ret v =>
    obtain ⟨j, ρ', S'⟩ := i
    obtain rfl := Is.boolE j
    obtain ⟨h', tk', e⟩ := S'.same
    obtain ⟨m', F', _⟩ := S'.fr
    rw [e] at F' ⊢
    exact hQ h' tk' F'.keep
  | _ => exact i.elim

end Mine
end

open PySem PySem.W PySem.Calls PySem.Spec PyProof.Rows
set_option maxRecDepth 100000 in
set_option maxHeartbeats 8000000 in
theorem PySem.Challenge.cw_xm0084_01_holds : PySem.Challenge.rw_xm0084_01.Holds := by
  w_on
  o_law
  refine holds_open (q := Mine.view) (loose := []) (Xt := fun s => xlAt Mine.view [] s && recOk [] s) (XP := XL Mine.view []) (Yf := Hook.obs Mine.hook) (Ya := Hook.val Mine.hook) (YP := Hook.says Mine.hook) (N := 2508) ?hl (Hook.of Mine.hook) (Hook.keeps Mine.hook) (fun s e => xl_of s (Bool.and_eq_true_iff.mp e).1) XL.keeps (by rfl) (by rfl) (by rfl) (fun s e => recFacts_of (Bool.and_eq_true_iff.mp e).2) (by rfl) (by first | assumption | decide +kernel) (by decide +kernel) ⟨rfl, rfl, rfl, rfl, rfl, by decide +kernel⟩ ?hw ?hc
  case hl => intro w; kernel_rfl
  case hw => w_witness2
  case hc =>
    intro w s₀ s₁ mg mb G Y fa o pm cd doc dV kV ho hd hcd hD hmg hg args vals as hpre hlay hrd hwl hlo
    have KX : Mine.KIn s₁.heap := Y
    k_behind G ho hd hcd hD hmg hpre hlay hrd hwl hlo cd
    refine Mine.law_entry (by rfl) (by rfl) (by assumption) (by assumption) (by assumption) (by assumption) (by assumption) ⟨_, by assumption⟩ (by rfl) (by rfl) (by assumption) (by omega) ?_
    intro h' tk' hk
    refine ⟨.inl ⟨_, .bool true, [], rfl, fun _ => rfl, .bool true, ?_, fun _ => ⟨List.nodup_nil, fun a ha => by cases ha⟩⟩, hk, rfl, by assumption⟩
    refine postW_of (X := true) (by rfl) ?_ rfl
    show WTm.value _ (.eq .res (.lit (.bool true))) _ = _
    simp only [WTm.value]
    first | (simp [W.same]; done) | (congr 2; decide +kernel)
