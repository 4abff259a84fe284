import PyProof.Rows.All
import Wide.All
import OpenK.AllK
import Wide.FinOn
import Lean
import PySem.Challenge.RW_nz0099_01
open PySem PySem.W PySem.Calls PyProof.Rows
set_option Elab.async false
set_option linter.all false
set_option maxRecDepth 100000
set_option maxHeartbeats 0
namespace Mine.Internal

inductive Loc where
  | builder | tree | stack | fmt | kinds | spaces | names | attrs | texts | parents | children | contents
  | items | fitems | owners | modes | errors | pending | rules | state | notes | page | pkids | pattrs | digits | script | cvar
  | kid (i : Nat) | att (i : Nat) | lnode (i : Nat) | latt (i : Nat) | lkid (i : Nat) | tmp (k : Nat)
  deriving DecidableEq
inductive V where
  | none
  | bool (b : Bool)
  | int (i : Int)
  | str (s : Str)
  | tup (xs : List V)
  | cell (l : Loc)
  | glob (a : Addr)
  | ty (n : String)
  | blt (n : String)
inductive Cell where
  | list (xs : List V)
  | dict (es : List (Str × V))
  | inst (c : Addr) (fs : List (Str × V))
  | var (v : Option V)
structure MH where
  c : Loc → Option Cell
  nx : Nat
noncomputable def MH.put (H : MH) (l : Loc) (x : Cell) : MH := { H with c := fun y => if y = l then some x else H.c y }
noncomputable def Loc.bump (l : Loc) (n : Nat) : Nat := match l with | .tmp k => max n (k + 1) | _ => n
noncomputable def MH.add (H : MH) (l : Loc) (x : Cell) : MH := { c := fun y => if y = l then some x else H.c y, nx := l.bump H.nx }
noncomputable def MH.free (H : MH) (l : Loc) : Prop := (∀ k, l = .tmp k → H.nx ≤ k) ∧ ((∀ k, l ≠ .tmp k) → H.c l = none)
theorem le_bump (l : Loc) (n : Nat) : n ≤ l.bump n := by
  cases l with
  | tmp k => exact Nat.le_max_left ..
  | _ => exact Nat.le_refl _
theorem free_tmp {H : MH} {k : Nat} (h : H.nx ≤ k) : H.free (.tmp k) := ⟨fun k' e => by cases e; exact h, fun n => absurd rfl (n k)⟩
theorem free_of {H : MH} {l : Loc} (h : H.c l = none) (hn : ∀ k, l ≠ .tmp k) : H.free l := ⟨fun k e => absurd e (hn k), fun _ => h⟩
structure WD where
  ρ : Loc → Bool → Option Addr
  news : List (Addr × Obj)
noncomputable def WD.im (w : WD) (a : Addr) : Prop := ∃ l b, w.ρ l b = some a
noncomputable abbrev WD.keys (w : WD) : List Addr := w.news.map (·.1)
noncomputable abbrev tupObj (vs : List Value) : Obj := { cls := .type "tuple", data := .seq vs.toArray }
section
variable (K : Frag)
mutual
inductive VR (w : WD) : V → Value → Prop
  | none : VR w .none .none
  | bool (b : Bool) : VR w (.bool b) (.bool b)
  | int (i : Int) (t : Tok) : VR w (.int i) (.int i t)
  | str (s : Str) (t : Tok) : VR w (.str s) (.str s t)
  | cell {l : Loc} {a : Addr} : w.ρ l false = some a → VR w (.cell l) (.ref a)
  | glob (a : Addr) : VR w (.glob a) (.ref a)
  | ty (n : String) : VR w (.ty n) (.type n)
  | blt (n : String) : VR w (.blt n) (.builtin n)
  | tup {xs : List V} {vs : List Value} {a : Addr} : (a, tupObj vs) ∈ w.news → ¬ w.im a → VRs w xs vs → VR w (.tup xs) (.ref a)
  | ktup {a : Addr} {n : Nat} {sl : Array (Option Value)} : K.lookup a = some ⟨.type "tuple", Option.none, .seq #[] n, sl⟩ → VR w (.tup []) (.ref a)
inductive VRs (w : WD) : List V → List Value → Prop
  | nil : VRs w [] []
  | cons {x : V} {v : Value} {xs : List V} {vs : List Value} : VR w x v → VRs w xs vs → VRs w (x :: xs) (v :: vs)
end
section
variable {w : WD} {v : Value}
theorem VR.int_i {i : Int} (h : VR K w (.int i) v) : ∃ t, v = .int i t := by cases h; exact ⟨_, rfl⟩
theorem VR.str_i {i : Str} (h : VR K w (.str i) v) : ∃ t, v = .str i t := by cases h; exact ⟨_, rfl⟩
theorem VR.bool_i {b : Bool} (h : VR K w (.bool b) v) : v = .bool b := by cases h; rfl
theorem VR.none_i (h : VR K w .none v) : v = .none := by cases h; rfl
theorem VR.glob_i {a : Addr} (h : VR K w (.glob a) v) : v = .ref a := by cases h; rfl
theorem VR.blt_i {n : String} (h : VR K w (.blt n) v) : v = .builtin n := by cases h; rfl
theorem VR.ty_i {n : String} (h : VR K w (.ty n) v) : v = .type n := by cases h; rfl
theorem VR.cell_i {l : Loc} (h : VR K w (.cell l) v) : ∃ a, w.ρ l false = some a ∧ v = .ref a := by cases h; exact ⟨_, by assumption, rfl⟩
end
structure Ext (pu : Bool) (w w' : WD) : Prop where
  sub : ∀ l b a, w.ρ l b = some a → w'.ρ l b = some a
  new : ∀ l b a, w'.ρ l b = some a → w.ρ l b = some a ∨ a ∉ w.keys
  pers : ∀ p ∈ w.news, ¬ w.im p.1 → p ∈ w'.news
  kin : ∀ a ∈ w.keys, a ∈ w'.keys
  pure : pu = true → ∀ p ∈ w.news, p ∈ w'.news
theorem Ext.refl {pu : Bool} (w : WD) : Ext pu w w := ⟨fun _ _ _ h => h, fun _ _ _ h => .inl h, fun _ h _ => h, fun _ h => h, fun _ _ h => h⟩
theorem Ext.im {pu : Bool} {w w' : WD} (e : Ext pu w w') {a : Addr} (hk : a ∈ w.keys) (h : ¬ w.im a) : ¬ w'.im a := by
  rintro ⟨l, b, q⟩
  rcases e.new l b a q with q | q
  · exact h ⟨l, b, q⟩
  · exact q hk
theorem mem_keys {w : WD} {p : Addr × Obj} (h : p ∈ w.news) : p.1 ∈ w.keys := List.mem_map_of_mem h
theorem Ext.trans {pu : Bool} {w w' w'' : WD} (e : Ext pu w w') (f : Ext pu w' w'') : Ext pu w w'' where
  sub l b a h := f.sub l b a (e.sub l b a h)
  new l b a h := by
    rcases f.new l b a h with h | h
    · exact e.new l b a h
    · exact .inr fun q => h (e.kin a q)
  pers p h q := f.pers p (e.pers p h q) (e.im (mem_keys h) q)
  kin a h := f.kin a (e.kin a h)
  pure z p h := f.pure z p (e.pure z p h)
structure Vex (w w' : WD) : Prop where
  sub : ∀ l b a, w.ρ l b = some a → w'.ρ l b = some a
  tup : ∀ a vs, (a, tupObj vs) ∈ w.news → ¬ w.im a → (a, tupObj vs) ∈ w'.news ∧ ¬ w'.im a
theorem Ext.vex {pu : Bool} {w w' : WD} (e : Ext pu w w') : Vex w w' := ⟨e.sub, fun _ _ h n => ⟨e.pers _ h n, e.im (mem_keys h) n⟩⟩
theorem VR.vex {w w' : WD} (e : Vex w w') {x : V} {v : Value} (h : VR K w x v) : VR K w' x v :=
  VR.rec (motive_1 := fun x v _ => VR K w' x v) (motive_2 := fun xs vs _ => VRs K w' xs vs) .none .bool .int .str (fun h => .cell (e.sub _ _ _ h)) .glob .ty .blt
    (fun h n _ r => .tup (e.tup _ _ h n).1 (e.tup _ _ h n).2 r) .ktup .nil (fun _ _ a r => .cons a r) h
theorem VRs.ind {w : WD} {P : List V → List Value → Prop} (nil : P [] []) (cons : ∀ {x : V} {v : Value} {xs : List V} {vs : List Value}, VR K w x v → VRs K w xs vs → P xs vs → P (x :: xs) (v :: vs)) {xs : List V} {vs : List Value} (h : VRs K w xs vs) : P xs vs :=
  VRs.rec (motive_1 := fun _ _ _ => True) (motive_2 := fun xs vs _ => P xs vs) .intro (fun _ => .intro) (fun _ _ => .intro) (fun _ _ => .intro) (fun _ => .intro) (fun _ => .intro) (fun _ => .intro) (fun _ => .intro) (fun _ _ _ _ => .intro) (fun _ => .intro) nil (fun a r _ i => cons a r i) h
theorem VRs.vex {w w' : WD} (e : Vex w w') {xs : List V} {vs : List Value} (h : VRs K w xs vs) : VRs K w' xs vs := VRs.ind K .nil (fun a _ i => .cons (VR.vex K e a) i) h
theorem VR.ext {pu : Bool} {w w' : WD} (e : Ext pu w w') {x : V} {v : Value} (h : VR K w x v) : VR K w' x v := h.vex K e.vex
theorem VRs.ext {pu : Bool} {w w' : WD} (e : Ext pu w w') {xs : List V} {vs : List Value} (h : VRs K w xs vs) : VRs K w' xs vs := h.vex K e.vex
theorem VRs.length {w : WD} {xs : List V} {vs : List Value} (h : VRs K w xs vs) : vs.length = xs.length := VRs.ind K (P := fun xs vs => vs.length = xs.length) rfl (fun _ _ i => congrArg (· + 1) i) h
theorem VRs.get {w : WD} {xs : List V} {vs : List Value} {i : Nat} {x : V} (h : VRs K w xs vs) : xs[i]? = some x → ∃ v, vs[i]? = some v ∧ VR K w x v := by
  refine VRs.ind K (P := fun xs vs => ∀ i, xs[i]? = some x → ∃ v, vs[i]? = some v ∧ VR K w x v) (fun i e => by rw [List.getElem?_nil] at e; cases e) (fun {y v xs vs} a _ ih i e => ?_) h i
  cases i with
  | zero => exact ⟨v, rfl, Option.some.inj e ▸ a⟩
  | succ i => exact ih i e
theorem VRs.append {w : WD} {xs ys : List V} {vs us : List Value} (h : VRs K w xs vs) (g : VRs K w ys us) : VRs K w (xs ++ ys) (vs ++ us) := VRs.ind K (P := fun xs vs => VRs K w (xs ++ ys) (vs ++ us)) g (fun a _ i => .cons a i) h
theorem VRs.take {w : WD} {xs : List V} {vs : List Value} (n : Nat) (h : VRs K w xs vs) : VRs K w (xs.take n) (vs.take n) := by
  refine VRs.ind K (P := fun xs vs => ∀ n, VRs K w (xs.take n) (vs.take n)) (fun n => ?_) (fun a _ ih n => ?_) h n
  · rw [List.take_nil, List.take_nil]; exact .nil
  · cases n with
    | zero => exact .nil
    | succ n => exact .cons a (ih n)
inductive ER (P : Params) (w : WD) : List (Str × V) → List DictEntry → Prop
  | nil : ER P w [] []
  | cons {k : Str} {t : Tok} {x : V} {v : Value} {es : List (Str × V)} {ds : List DictEntry} : VR K w x v → ER P w es ds → ER P w ((k, x) :: es) (⟨PyData.keyHash P k, .str k t, v⟩ :: ds)
theorem ER.ext {P : Params} {w w' : WD} (e : Vex w w') : ∀ {es : List (Str × V)} {ds : List DictEntry}, ER K P w es ds → ER K P w' es ds := by
  intro es ds h
  induction h with
  | nil => exact .nil
  | cons h _ ih => exact .cons (VR.vex K e h) ih
inductive DR (w : WD) : List (Str × V) → List (Str × Value) → Prop
  | nil : DR w [] []
  | cons {k : Str} {x : V} {v : Value} {es : List (Str × V)} {ds : List (Str × Value)} : VR K w x v → DR w es ds → DR w ((k, x) :: es) ((k, v) :: ds)
theorem DR.ext {w w' : WD} (e : Vex w w') : ∀ {es : List (Str × V)} {ds : List (Str × Value)}, DR K w es ds → DR K w' es ds := by
  intro es ds h
  induction h with
  | nil => exact .nil
  | cons h _ ih => exact .cons (VR.vex K e h) ih
noncomputable def getE (es : List (Str × V)) (k : Str) : Option V := (es.find? fun kv => kv.1 = k).map (·.2)
noncomputable def putE (es : List (Str × V)) (k : Str) (x : V) : List (Str × V) := if es.any (fun kv => kv.1 = k) then es.map (fun kv => if kv.1 = k then (kv.1, x) else kv) else es ++ [(k, x)]
theorem DR.get {w : WD} {k : Str} : ∀ {es : List (Str × V)} {ds : List (Str × Value)}, DR K w es ds → (match getE es k with | some x => ∃ v, valueAt ds k = some v ∧ VR K w x v | Option.none => valueAt ds k = Option.none) := by
  intro es ds h
  induction h with
  | nil => exact rfl
  | @cons k' _ _ es ds h _ ih =>
    unfold getE valueAt
    rw [List.find?_cons, List.find?_cons]
    by_cases q : k' = k
    · simp only [q, decide_true, Option.map_some]; exact ⟨_, rfl, h⟩
    · simp only [q, decide_false]
      exact ih
theorem DR.length {w : WD} : ∀ {es : List (Str × V)} {ds : List (Str × Value)}, DR K w es ds → ds.length = es.length := by
  intro es ds h
  induction h with
  | nil => rfl
  | cons _ _ ih => exact congrArg (· + 1) ih
theorem DR.any {w : WD} {k : Str} : ∀ {es : List (Str × V)} {ds : List (Str × Value)}, DR K w es ds → ds.any (fun kv => kv.1 = k) = es.any (fun kv => kv.1 = k) := by
  intro es ds h
  induction h with
  | nil => rfl
  | cons _ _ ih => rw [List.any_cons, List.any_cons, ih]
theorem DR.map {w : WD} {k : Str} {x : V} {v : Value} (hv : VR K w x v) : ∀ {es : List (Str × V)} {ds : List (Str × Value)}, DR K w es ds → DR K w (es.map fun kv => if kv.1 = k then (kv.1, x) else kv) (ds.map fun kv => if kv.1 = k then (kv.1, v) else kv) := by
  intro es ds h
  induction h with
  | nil => exact .nil
  | @cons k' _ _ _ _ h _ ih =>
    rw [List.map_cons, List.map_cons]
    by_cases q : k' = k
    · rw [if_pos q, if_pos q]; exact .cons hv ih
    · rw [if_neg q, if_neg q]; exact .cons h ih
theorem DR.snoc {w : WD} {k : Str} {x : V} {v : Value} (hv : VR K w x v) : ∀ {es : List (Str × V)} {ds : List (Str × Value)}, DR K w es ds → DR K w (es ++ [(k, x)]) (ds ++ [(k, v)]) := by
  intro es ds h
  induction h with
  | nil => exact .cons hv .nil
  | cons h _ ih => exact .cons h ih
theorem DR.put {w : WD} {k : Str} {x : V} {v : Value} {es : List (Str × V)} {ds : List (Str × Value)} (r : DR K w es ds) (hv : VR K w x v) : DR K w (putE es k x) (stored ds k v) := by
  unfold putE stored
  rw [r.any]
  split
  · exact r.map K hv
  · exact r.snoc K hv
noncomputable def CellAt (prog : Program) (wo : World) (w : WD) (l : Loc) : Cell → Prop
  | .list xs => ∃ a vs n, w.ρ l false = some a ∧ (a, listOf vs.toArray n) ∈ w.news ∧ VRs K w xs vs
  | .dict es => ∃ a o kvs, w.ρ l false = some a ∧ (a, o) ∈ w.news ∧ (a == sysModules) = false ∧ o.IsDictOf (PySem.strKind prog wo) kvs ∧ DR K w es kvs
  | .inst c fs => ∃ a dx ds n, w.ρ l false = some a ∧ w.ρ l true = some dx ∧ (a, instObj c dx) ∈ w.news ∧ (dx, dictOf ds n) ∈ w.news ∧ ER K wo.params w fs ds
  | .var x => ∃ a o ov, w.ρ l false = some a ∧ (a, o) ∈ w.news ∧ o.data = .cell ov ∧ (match x with | some x => ∃ v, ov = some v ∧ VR K w x v | Option.none => True)
structure Rel (prog : Program) (wo : World) (w : WD) (H : MH) : Prop where
  cells : ∀ l c, H.c l = some c → CellAt K prog wo w l c
  inj : ∀ l b l' b' a, w.ρ l b = some a → w.ρ l' b' = some a → l = l' ∧ b = b'
  nod : w.keys.Nodup
  dom : ∀ l b a, w.ρ l b = some a → a ∈ w.keys
  free : ∀ l b, H.free l → w.ρ l b = Option.none
end
structure Amb where
  prog : Program
  w : World
  K : Frag
  p : Program
  loose : List Str
  mean : ExcName → Option Value
  mg : Str → Option Value
  mb : Str → Option Value
  pu : Bool
  zs : List (Addr × Obj)
structure CX (M : Amb) (d : Nat) (A : Around) (base h₀ : Heap) (outer : List Env) (fenv env : Env) (L : Addr) (m mm : Str → Option Value) (cl : List (Str × Loc)) (ml : List (Str × V)) (s : Shared) (wd : WD) (H : MH) : Prop where
  hA : A.frames = some (fenv :: outer)
  bel : ∃ A₀, Below A₀ base outer h₀
  ff : fenv.frame = some L
  fk : fenv.scope.kind = .function
  F : Fr h₀ L s.heap m
  N : News h₀ L s.heap wd.news
  X : M.K.In h₀
  Z : ∀ p ∈ M.zs, h₀.get? p.1 = some p.2
  T : Top M.p M.loose M.mean M.mg M.mb h₀
  hh : A.handled = none
  room : A.depth + 4 * d ≤ 600
  units : A.units + 20 * d ≤ 9000
  ek : env.scope.kind = .function
  eg : env.globals = mainGlobals
  eb : env.builtins = builtinsNs
  loc : (env.locals = L ∧ mm = m) ∨ (∃ o es ep, (env.locals, o) ∈ wd.news ∧ ¬ wd.im env.locals ∧ o.data = .dict es ep ∧ StrKeys es ∧ ∀ n, nsFind es n = mm n)
  lr : ∀ x v, ml.lookup x = some v → ∃ v', mm x = some v' ∧ VR M.K wd v v'
  cr : ∀ x l, cl.lookup x = some l → ∃ a, env.cells.lookup x = some a ∧ wd.ρ l false = some a
  rel : Rel M.K M.prog M.w wd H
noncomputable def TG {α β : Type} (rel : Frag → WD → β → α → Prop) (M : Amb) (d : Nat) (sc : Scope) (cl : List (Str × Loc)) (ml : List (Str × V)) (H : MH) (t : Env → Sem α) (Q : β → MH → Prop) : Prop :=
  ∀ ⦃A : Around⦄ ⦃base h₀ : Heap⦄ ⦃outer : List Env⦄ ⦃fenv env : Env⦄ ⦃L : Addr⦄ ⦃m mm : Str → Option Value⦄ ⦃s : Shared⦄ ⦃wd : WD⦄ ⦃Qm : α → Shared → Prop⦄,
    env.scope = sc → CX M d A base h₀ outer fenv env L m mm cl ml s wd H →
    (∀ b a H' wd' h' tk', Q b H' → Ext M.pu wd wd' → rel M.K wd' b a → CX M d A base h₀ outer fenv env L m mm cl ml { s with heap := h', toks := tk' } wd' H' → Qm a { s with heap := h', toks := tk' }) →
    wpAny (model M.prog M.w) A (t env) Qm (fun _ _ => False) s
noncomputable abbrev TE (M : Amb) (d : Nat) (sc : Scope) (cl : List (Str × Loc)) (ml : List (Str × V)) (H : MH) (e : Expr) (Q : V → MH → Prop) : Prop := TG VR M d sc cl ml H (eval e) Q
noncomputable def argTrees (es : List Expr) (env : Env) : List (Bool × Sem Value) := es.map fun e => (false, eval e env)
noncomputable abbrev TEs (M : Amb) (d : Nat) (sc : Scope) (cl : List (Str × Loc)) (ml : List (Str × V)) (H : MH) (es : List Expr) (Q : List V → MH → Prop) : Prop := TG VRs M d sc cl ml H (fun env => spliced (argTrees es env)) Q
noncomputable abbrev eqR (_ : Frag) (_ : WD) (b a : Bool) : Prop := b = a
noncomputable abbrev TB (M : Amb) (d : Nat) (sc : Scope) (cl : List (Str × Loc)) (ml : List (Str × V)) (H : MH) (e : Expr) (Q : Bool → MH → Prop) : Prop := TG eqR M d sc cl ml H (fun env => PySem.isTrue e env (eval e env)) Q
section
variable {M : Amb} {d : Nat} {A : Around} {base h₀ : Heap} {outer : List Env} {fenv env : Env} {L : Addr} {m mm : Str → Option Value} {cl : List (Str × Loc)} {ml : List (Str × V)} {s : Shared} {wd wd' : WD} {H H' : MH}
theorem CX.ns (c : CX M d A base h₀ outer fenv env L m mm cl ml s wd H) : s.heap.Ns env.locals mm := by
  rcases c.loc with ⟨h1, h2⟩ | ⟨o, es, ep, h1, _, h3, h4, h5⟩
  · rw [h1, h2]; exact c.F.ns
  · exact ⟨o, es, ep, (c.N _ h1).1, h3, h4, h5⟩
theorem CX.go (c : CX M d A base h₀ outer fenv env L m mm cl ml s wd H) {h' : Heap} {tk' : Tok} (F : Fr h₀ L h' m) (N : News h₀ L h' wd'.news) (e : Ext M.pu wd wd') (R : Rel M.K M.prog M.w wd' H') :
    CX M d A base h₀ outer fenv env L m mm cl ml { s with heap := h', toks := tk' } wd' H' :=
  { c with
    F := F
    N := N
    loc := c.loc.imp id fun ⟨o, es, ep, h1, h2, h3⟩ => ⟨o, es, ep, e.pers _ h1 h2, e.im (mem_keys h1) h2, h3⟩
    lr := fun x v hx => let ⟨v', h1, h2⟩ := c.lr x v hx; ⟨v', h1, h2.ext M.K e⟩
    cr := fun x l hx => let ⟨a, h1, h2⟩ := c.cr x l hx; ⟨a, h1, e.sub _ _ _ h2⟩
    rel := R }
theorem CX.tok (c : CX M d A base h₀ outer fenv env L m mm cl ml s wd H) (tk' : Tok) : CX M d A base h₀ outer fenv env L m mm cl ml { s with heap := s.heap, toks := tk' } wd H := c.go c.F c.N (Ext.refl _) c.rel
end
section
variable {M : Amb} {d : Nat} {sc : Scope} {cl : List (Str × Loc)} {ml : List (Str × V)} {H : MH}
theorem TG.mono {α β : Type} {rel : Frag → WD → β → α → Prop} {t : Env → Sem α} {Q Q' : β → MH → Prop} (h : TG rel M d sc cl ml H t Q) (hq : ∀ b H', Q b H' → Q' b H') : TG rel M d sc cl ml H t Q' := by
  intro A base h₀ outer fenv env L m mm s wd Qm hs c k
  exact h hs c fun b a H' wd' h' tk' hb => k b a H' wd' h' tk' (hq b H' hb)
theorem TE_none {k : Nat} {pos : Pos} {Q : V → MH → Prop} (h : Q .none H) : TE M d sc cl ml H (.Constant .none k pos) Q := by
  intro A base h₀ outer fenv env L m mm s wd Qm hs c k
  exact Constant_none (k .none .none H wd s.heap s.toks h (Ext.refl _) .none (c.tok _))
theorem TE_bool {b : Bool} {k : Nat} {pos : Pos} {Q : V → MH → Prop} (h : Q (.bool b) H) : TE M d sc cl ml H (.Constant (.bool b) k pos) Q := by
  intro A base h₀ outer fenv env L m mm s wd Qm hs c k
  exact Constant_bool (k _ _ H wd s.heap s.toks h (Ext.refl _) (.bool b) (c.tok _))
theorem TE_int {i : Int} {k : Nat} {pos : Pos} {Q : V → MH → Prop} (h : Q (.int i) H) : TE M d sc cl ml H (.Constant (.int i) k pos) Q := by
  intro A base h₀ outer fenv env L m mm s wd Qm hs c k
  exact wpAny_Constant_int (k _ _ H wd s.heap (s.toks + 1) h (Ext.refl _) (.int i _) (c.tok _))
theorem TE_str {x : Str} {k : Nat} {pos : Pos} {Q : V → MH → Prop} (h : Q (.str x) H) : TE M d sc cl ml H (.Constant (.str x) k pos) Q := by
  intro A base h₀ outer fenv env L m mm s wd Qm hs c k
  exact wpAny_Constant_str (k _ _ H wd s.heap (s.toks + 1) h (Ext.refl _) (.str x _) (c.tok _))
theorem TE_local {x : Str} {pos : Pos} {v : V} {Q : V → MH → Prop} (hv : ml.lookup x = some v) (hk : sc.names.lookup x = some .local) (hd : (x == ("__debug__" : Str)) = false) (h : Q v H) : TE M d sc cl ml H (.Name x pos) Q := by
  intro A base h₀ outer fenv env L m mm s wd Qm hs c k
  obtain ⟨v', h1, h2⟩ := c.lr x v hv
  exact wpAny_Name (wpAny_loadName_local c.ek (by unfold Env.kindOf; rw [hs]; exact hk) c.ns h1 (k _ _ H wd s.heap s.toks h (Ext.refl _) h2 (c.tok _))) hd
theorem TE_cellvar {x : Str} {pos : Pos} {l : Loc} {v : V} {Q : V → MH → Prop} (hl : cl.lookup x = some l) (hc : H.c l = some (.var (some v))) (hk : sc.names.lookup x = some .cell) (hd : (x == ("__debug__" : Str)) = false) (h : Q v H) : TE M d sc cl ml H (.Name x pos) Q := by
  intro A base h₀ outer fenv env L m mm s wd Qm hs c k
  obtain ⟨a, h1, h2⟩ := c.cr x l hl
  obtain ⟨a', o, ov, e1, e2, e3, v', rfl, e4⟩ := c.rel.cells l _ hc
  obtain rfl : a = a' := Option.some.inj (h2.symm.trans e1)
  exact wpAny_Name (wpAny_loadName_cell c.ek (by unfold Env.kindOf; rw [hs]; exact hk) h1 ⟨o, (c.N _ e2).1, e3⟩ (k _ _ H wd s.heap s.toks h (Ext.refl _) e4 (c.tok _))) hd
theorem TE_global {x : Str} {pos : Pos} {a : Addr} {Q : V → MH → Prop} (e : nsIn M.K mainGlobals x = some (some (.ref a))) (hk : sc.names.lookup x = some .globalImplicit) (hd : (x == ("__debug__" : Str)) = false) (h : Q (.glob a) H) : TE M d sc cl ml H (.Name x pos) Q := by
  intro A base h₀ outer fenv env L m mm s wd Qm hs c k
  exact nameG_K c.F c.X (topRead_of c.T) e (k _ _ H wd s.heap s.toks h (Ext.refl _) (.glob a) (c.tok _)) c.eg c.ek (by unfold Env.kindOf; rw [hs]; exact hk) hd
end
theorem CellAt.keep {K : Frag} {prog : Program} {wo : World} {w w' : WD} (e : Vex w w') {l : Loc} (hp : ∀ b a o, w.ρ l b = some a → (a, o) ∈ w.news → (a, o) ∈ w'.news) : ∀ {c : Cell}, CellAt K prog wo w l c → CellAt K prog wo w' l c := by
  intro c h
  cases c with
  | list _ => obtain ⟨a, vs, n, e1, e2, e3⟩ := h; exact ⟨a, vs, n, e.sub _ _ _ e1, hp _ _ _ e1 e2, e3.vex _ e⟩
  | dict _ => obtain ⟨a, o, kvs, e1, e2, e3, e4, e5⟩ := h; exact ⟨a, o, kvs, e.sub _ _ _ e1, hp _ _ _ e1 e2, e3, e4, e5.ext _ e⟩
  | inst _ _ => obtain ⟨a, dx, ds, n, e1, e2, e3, e4, e5⟩ := h; exact ⟨a, dx, ds, n, e.sub _ _ _ e1, e.sub _ _ _ e2, hp _ _ _ e1 e3, hp _ _ _ e2 e4, e5.ext _ e⟩
  | var x =>
    obtain ⟨a, o, ov, e1, e2, e3, e4⟩ := h
    refine ⟨a, o, ov, e.sub _ _ _ e1, hp _ _ _ e1 e2, e3, ?_⟩
    cases x with
    | none => trivial
    | some x => obtain ⟨v, i1, i2⟩ := e4; exact ⟨v, i1, i2.vex _ e⟩
noncomputable def WD.more (w : WD) (a : Addr) (o : Obj) : WD := ⟨w.ρ, (a, o) :: w.news⟩
theorem Ext.more {pu : Bool} (w : WD) (a : Addr) (o : Obj) : Ext pu w (w.more a o) := ⟨fun _ _ _ h => h, fun _ _ _ h => .inl h, fun _ hp _ => .tail _ hp, fun _ ha => .tail _ ha, fun _ _ h => .tail _ h⟩
theorem Rel.more {K : Frag} {prog : Program} {wo : World} {w : WD} {H : MH} (r : Rel K prog wo w H) {a : Addr} (o : Obj) (ha : a ∉ w.keys) : Rel K prog wo (w.more a o) H where
  cells l c h := (r.cells l c h).keep (Ext.more (pu := true) w a o).vex fun _ _ _ _ q => .tail _ q
  inj := r.inj
  nod := List.nodup_cons.mpr ⟨ha, r.nod⟩
  dom l b a h := .tail _ (r.dom l b a h)
  free := r.free
noncomputable def WD.name (w : WD) (l : Loc) (b : Bool) (a : Addr) : WD := ⟨fun l' b' => if l' = l ∧ b' = b then some a else w.ρ l' b', w.news⟩
theorem Ext.name {pu : Bool} {w : WD} {l : Loc} {b : Bool} {a : Addr} {o : Obj} (hf : w.ρ l b = none) (ha : a ∉ w.keys) : Ext pu w ((w.more a o).name l b a) := by
  refine ⟨fun l' b' a' h => ?_, fun l' b' a' h => ?_, fun p hp _ => .tail _ hp, fun a ha => .tail _ ha, fun _ _ h => .tail _ h⟩
  · show (if _ then _ else _) = _
    by_cases q : l' = l ∧ b' = b
    · rw [q.1, q.2, hf] at h; cases h
    · rw [if_neg q]; exact h
  · have h : (if l' = l ∧ b' = b then some a else w.ρ l' b') = some a' := h
    by_cases q : l' = l ∧ b' = b
    · rw [if_pos q] at h; cases h; exact .inr ha
    · rw [if_neg q] at h; exact .inl h
theorem free_add {H : MH} {l l' : Loc} {x : Cell} (hn : l' ≠ l) (h : (H.add l x).free l') : H.free l' := by
  refine ⟨fun k e => Nat.le_trans (le_bump l H.nx) (h.1 k e), fun q => ?_⟩
  have h2 : (if l' = l then some x else H.c l') = none := h.2 q
  rwa [if_neg hn] at h2
theorem not_free_add {H : MH} {l : Loc} {x : Cell} : ¬ (H.add l x).free l := by
  intro h
  by_cases q : ∃ k, l = .tmp k
  · obtain ⟨k, rfl⟩ := q
    have h : max H.nx (k + 1) ≤ k := h.1 k rfl
    omega
  · have h : (if l = l then some x else H.c l) = none := h.2 fun k e => q ⟨k, e⟩
    rw [if_pos rfl] at h; cases h
theorem Rel.name {K : Frag} {prog : Program} {wo : World} {w : WD} {H : MH} (r : Rel K prog wo w H) {l : Loc} {a : Addr} {o : Obj} {c : Cell} (hf : H.free l) (ha : a ∉ w.keys)
    (hc : CellAt K prog wo ((w.more a o).name l false a) l c) : Rel K prog wo ((w.more a o).name l false a) (H.add l c) where
  cells l' c' h := by
    have h : (if l' = l then some c else H.c l') = some c' := h
    by_cases q : l' = l
    · subst q; rw [if_pos rfl] at h; cases h; exact hc
    · rw [if_neg q] at h
      exact (r.cells l' c' h).keep (Ext.name (pu := true) (r.free l false hf) ha).vex fun _ _ _ _ q => .tail _ q
  inj l₁ b₁ l₂ b₂ a' h₁ h₂ := by
    have h₁ : (if l₁ = l ∧ b₁ = false then some a else w.ρ l₁ b₁) = some a' := h₁
    have h₂ : (if l₂ = l ∧ b₂ = false then some a else w.ρ l₂ b₂) = some a' := h₂
    by_cases q₁ : l₁ = l ∧ b₁ = false <;> by_cases q₂ : l₂ = l ∧ b₂ = false
    · exact ⟨q₁.1.trans q₂.1.symm, q₁.2.trans q₂.2.symm⟩
    · rw [if_pos q₁] at h₁; rw [if_neg q₂] at h₂; cases h₁; exact absurd (r.dom _ _ _ h₂) ha
    · rw [if_neg q₁] at h₁; rw [if_pos q₂] at h₂; cases h₂; exact absurd (r.dom _ _ _ h₁) ha
    · rw [if_neg q₁] at h₁; rw [if_neg q₂] at h₂; exact r.inj _ _ _ _ _ h₁ h₂
  nod := List.nodup_cons.mpr ⟨ha, r.nod⟩
  dom l' b' a' h := by
    have h : (if l' = l ∧ b' = false then some a else w.ρ l' b') = some a' := h
    by_cases q : l' = l ∧ b' = false
    · rw [if_pos q] at h; cases h; exact .head _
    · rw [if_neg q] at h; exact .tail _ (r.dom _ _ _ h)
  free l' b' h := by
    show (if l' = l ∧ b' = false then some a else w.ρ l' b') = none
    by_cases q : l' = l
    · subst q; exact absurd h not_free_add
    · rw [if_neg fun z => q z.1]; exact r.free l' b' (free_add q h)
theorem name_at (w : WD) (l : Loc) (b : Bool) (a : Addr) : (w.name l b a).ρ l b = some a := by show (if _ then _ else _) = _; rw [if_pos ⟨rfl, rfl⟩]
theorem key_mem {l : List (Addr × Obj)} {p : Addr × Obj} (h : p ∈ l) {a : Addr} (e : p.1 = a) : a ∈ l.map (·.1) := e ▸ List.mem_map_of_mem h
theorem upd_exists {d : Addr} {o o' : Obj} : ∀ {news : List (Addr × Obj)}, (news.map (·.1)).Nodup → (d, o) ∈ news → ∃ news', Upd d o o' news news' ∧ news'.map (·.1) = news.map (·.1) ∧ (d, o') ∈ news' ∧ ∀ p ∈ news, p.1 ≠ d → p ∈ news'
  | p :: r, hn, hm => by
    rw [List.map_cons, List.nodup_cons] at hn
    rcases List.mem_cons.mp hm with e | hm
    · subst e
      refine ⟨(d, o') :: r, .head fun q hq e => hn.1 (key_mem hq e), rfl, .head _, fun q hq hne => ?_⟩
      rcases List.mem_cons.mp hq with rfl | hq
      · exact absurd rfl hne
      · exact .tail _ hq
    · obtain ⟨r', U, hk, hm', hp⟩ := upd_exists hn.2 hm
      refine ⟨p :: r', .tail (fun e => hn.1 (e ▸ List.mem_map_of_mem hm)) U, by rw [List.map_cons, hk]; rfl, .tail _ hm', fun q hq hne => ?_⟩
      rcases List.mem_cons.mp hq with rfl | hq
      · exact .head _
      · exact .tail _ (hp q hq hne)
theorem nodup_eq {news : List (Addr × Obj)} (hn : (news.map (·.1)).Nodup) {a : Addr} {o o' : Obj} (h : (a, o) ∈ news) (h' : (a, o') ∈ news) : o = o' := by
  induction news with
  | nil => cases h
  | cons p r ih =>
    rw [List.map_cons, List.nodup_cons] at hn
    rcases List.mem_cons.mp h with e | h <;> rcases List.mem_cons.mp h' with e' | h'
    · rw [← e] at e'; cases e'; rfl
    · exact absurd (key_mem h' (by rw [← e])) hn.1
    · exact absurd (key_mem h (by rw [← e'])) hn.1
    · exact ih hn.2 h h'
theorem Rel.set0 {pu : Bool} (hpu : pu = false) {K : Frag} {prog : Program} {wo : World} {w : WD} {H : MH} (r : Rel K prog wo w H) {l : Loc} {b : Bool} {a : Addr} {o o' : Obj} {c : Cell} (hl : w.ρ l b = some a) (hm : (a, o) ∈ w.news)
    (hc : ∀ news', (a, o') ∈ news' → (∀ p ∈ w.news, p.1 ≠ a → p ∈ news') → Ext pu w ⟨w.ρ, news'⟩ → CellAt K prog wo ⟨w.ρ, news'⟩ l c) :
    ∀ news', news'.map (·.1) = w.news.map (·.1) → (a, o') ∈ news' → (∀ p ∈ w.news, p.1 ≠ a → p ∈ news') → Ext pu w ⟨w.ρ, news'⟩ ∧ Rel K prog wo ⟨w.ρ, news'⟩ (H.put l c) := by
  intro news' hk hm' hp
  have E : Ext pu w ⟨w.ρ, news'⟩ := ⟨fun _ _ _ h => h, fun _ _ _ h => .inl h, fun p hp' hn => hp p hp' fun e => hn ⟨l, b, e ▸ hl⟩, fun a ha => by show a ∈ news'.map (·.1); rw [hk]; exact ha, fun z => absurd (hpu.symm.trans z) (by decide)⟩
  refine ⟨E, ?_, r.inj, by show (news'.map (·.1)).Nodup; rw [hk]; exact r.nod, fun l' b' a' h => by show a' ∈ news'.map (·.1); rw [hk]; exact r.dom l' b' a' h, fun l' b' h => ?_⟩
  · intro l' c' h
    have h : (if l' = l then some c else H.c l') = some c' := h
    by_cases q : l' = l
    · subst q; rw [if_pos rfl] at h; cases h; exact hc news' hm' hp E
    · rw [if_neg q] at h
      refine (r.cells l' c' h).keep E.vex fun b' a' o₁ h1 h2 => hp _ h2 fun e => q ?_
      have h1 : w.ρ l' b' = some a := by rw [h1]; exact congrArg some e
      exact (r.inj _ _ _ _ _ h1 hl).1
  · by_cases q : l' = l
    · subst q
      exfalso
      by_cases z : ∃ k, l' = .tmp k
      · obtain ⟨k, rfl⟩ := z
        have z2 := r.free (.tmp k) b (free_tmp (h.1 k rfl))
        rw [hl] at z2; cases z2
      · have h2 : (if l' = l' then some c else H.c l') = none := h.2 fun k e => z ⟨k, e⟩
        rw [if_pos rfl] at h2; cases h2
    · refine r.free l' b' ⟨h.1, fun n => ?_⟩
      have h2 : (if l' = l then some c else H.c l') = none := h.2 n
      rwa [if_neg q] at h2
theorem Rel.set {pu : Bool} (hpu : pu = false) {K : Frag} {prog : Program} {wo : World} {w : WD} {H : MH} (r : Rel K prog wo w H) {l : Loc} {b : Bool} {a : Addr} {o o' : Obj} {c : Cell} (hl : w.ρ l b = some a) (hm : (a, o) ∈ w.news)
    (hc : ∀ news', (a, o') ∈ news' → (∀ p ∈ w.news, p.1 ≠ a → p ∈ news') → Ext pu w ⟨w.ρ, news'⟩ → CellAt K prog wo ⟨w.ρ, news'⟩ l c) :
    ∃ news', Upd a o o' w.news news' ∧ Ext pu w ⟨w.ρ, news'⟩ ∧ Rel K prog wo ⟨w.ρ, news'⟩ (H.put l c) := by
  obtain ⟨news', U, hk, hm', hp⟩ := upd_exists (o' := o') r.nod hm
  obtain ⟨E, R⟩ := Rel.set0 hpu r hl hm hc news' hk hm' hp
  exact ⟨news', U, E, R⟩
theorem updF_of : ∀ {pre post : List (Addr × Obj)} {a : Addr} {o : Obj}, (∀ p ∈ pre, p.1 ≠ a) → (∀ p ∈ post, p.1 ≠ a) → UpdF a o (pre ++ (a, o) :: post) (fun o' => pre ++ (a, o') :: post)
  | [], _, _, _, _, h2 => .head h2
  | p :: r, _, _, _, h1, h2 => .tail (h1 p (.head _)) (updF_of (fun q hq => h1 q (.tail _ hq)) h2)
theorem Rel.setF {pu : Bool} (hpu : pu = false) {K : Frag} {prog : Program} {wo : World} {w : WD} {H : MH} (r : Rel K prog wo w H) {l : Loc} {b : Bool} {a : Addr} {o : Obj} (hl : w.ρ l b = some a) (hm : (a, o) ∈ w.news) :
    ∃ g, UpdF a o w.news g ∧ ∀ o' c, (∀ news', (a, o') ∈ news' → (∀ p ∈ w.news, p.1 ≠ a → p ∈ news') → Ext pu w ⟨w.ρ, news'⟩ → CellAt K prog wo ⟨w.ρ, news'⟩ l c) → Ext pu w ⟨w.ρ, g o'⟩ ∧ Rel K prog wo ⟨w.ρ, g o'⟩ (H.put l c) := by
  obtain ⟨_, U, _⟩ := upd_exists (o' := o) r.nod hm
  obtain ⟨pre, post, hw, _, h1, h2⟩ := U.split
  refine ⟨fun o' => pre ++ (a, o') :: post, by rw [hw]; exact updF_of h1 h2, fun o' c hc => Rel.set0 hpu r hl hm hc _ ?_ ?_ ?_⟩
  · rw [hw]; simp
  · simp
  · intro p hp hne
    rw [hw] at hp
    rcases List.mem_append.mp hp with q | q
    · exact List.mem_append_left _ q
    · rcases List.mem_cons.mp q with rfl | q
      · exact absurd rfl hne
      · exact List.mem_append_right _ (.tail _ q)
theorem CX.fresh {M : Amb} {d : Nat} {A : Around} {base h₀ : Heap} {outer : List Env} {fenv env : Env} {L : Addr} {m mm : Str → Option Value} {cl : List (Str × Loc)} {ml : List (Str × V)} {s : Shared} {wd : WD} {H : MH}
    (c : CX M d A base h₀ outer fenv env L m mm cl ml s wd H) : s.heap.objs.size ∉ wd.keys := fun hm => by
  obtain ⟨p, hp, e⟩ := List.mem_map.mp hm
  have := Heap.lt_size (c.N p hp).1
  rw [e] at this
  exact Nat.lt_irrefl _ this
theorem fresh_of {wd : WD} {a : Addr} (h : ∀ p ∈ wd.news, p.1 < a) : a ∉ wd.keys := fun hm => by
  obtain ⟨p, hp, e⟩ := List.mem_map.mp hm
  exact Nat.lt_irrefl _ (e ▸ h p hp)
theorem Rel.adopt0 {K : Frag} {prog : Program} {wo : World} {w : WD} {H : MH} (r : Rel K prog wo w H) {l : Loc} {a : Addr} {o o' : Obj} {c : Cell} (hf : H.free l) (hm : (a, o) ∈ w.news) (hn : ¬ w.im a) (ht : o.cls ≠ .type "tuple")
    (hc : ∀ w' : WD, w'.ρ l false = some a → (a, o') ∈ w'.news → Vex w w' → CellAt K prog wo w' l c) :
    ∀ news', news'.map (·.1) = w.news.map (·.1) → (a, o') ∈ news' → (∀ p ∈ w.news, p.1 ≠ a → p ∈ news') → Vex w ((⟨w.ρ, news'⟩ : WD).name l false a) ∧ Rel K prog wo ((⟨w.ρ, news'⟩ : WD).name l false a) (H.add l c) := by
  intro news' hk hm' hp
  have fl : ∀ b, w.ρ l b = none := fun b => r.free l b hf
  have E : Vex w ((⟨w.ρ, news'⟩ : WD).name l false a) := by
    refine ⟨fun l' b' a' h => ?_, fun a' vs h n => ?_⟩
    · show (if _ then _ else _) = _
      by_cases q : l' = l ∧ b' = false
      · rw [q.1, fl] at h; cases h
      · rw [if_neg q]; exact h
    · have ne : a' ≠ a := fun e => by
        subst e
        have := nodup_eq r.nod h hm
        exact ht (by rw [← this])
      refine ⟨hp _ h ne, ?_⟩
      rintro ⟨l', b', h'⟩
      have h' : (if l' = l ∧ b' = false then some a else w.ρ l' b') = some a' := h'
      by_cases q : l' = l ∧ b' = false
      · rw [if_pos q] at h'; cases h'; exact ne rfl
      · rw [if_neg q] at h'; exact n ⟨l', b', h'⟩
  refine ⟨E, ?_, ?_, by show (news'.map (·.1)).Nodup; rw [hk]; exact r.nod, ?_, ?_⟩
  · intro l' c' h
    have h : (if l' = l then some c else H.c l') = some c' := h
    by_cases q : l' = l
    · subst q; rw [if_pos rfl] at h; cases h
      exact hc _ (name_at ..) hm' E
    · rw [if_neg q] at h
      refine (r.cells l' c' h).keep E fun b' a' o₁ h1 h2 => hp _ h2 fun e => hn ⟨l', b', by rw [h1]; exact congrArg some e⟩
  · intro l₁ b₁ l₂ b₂ a' h₁ h₂
    have h₁ : (if l₁ = l ∧ b₁ = false then some a else w.ρ l₁ b₁) = some a' := h₁
    have h₂ : (if l₂ = l ∧ b₂ = false then some a else w.ρ l₂ b₂) = some a' := h₂
    by_cases q₁ : l₁ = l ∧ b₁ = false <;> by_cases q₂ : l₂ = l ∧ b₂ = false
    · exact ⟨q₁.1.trans q₂.1.symm, q₁.2.trans q₂.2.symm⟩
    · rw [if_pos q₁] at h₁; rw [if_neg q₂] at h₂; cases h₁; exact absurd ⟨_, _, h₂⟩ hn
    · rw [if_neg q₁] at h₁; rw [if_pos q₂] at h₂; cases h₂; exact absurd ⟨_, _, h₁⟩ hn
    · rw [if_neg q₁] at h₁; rw [if_neg q₂] at h₂; exact r.inj _ _ _ _ _ h₁ h₂
  · intro l' b' a' h
    show a' ∈ news'.map (·.1)
    rw [hk]
    have h : (if l' = l ∧ b' = false then some a else w.ρ l' b') = some a' := h
    by_cases q : l' = l ∧ b' = false
    · rw [if_pos q] at h; cases h; exact mem_keys hm
    · rw [if_neg q] at h; exact r.dom _ _ _ h
  · intro l' b' h
    show (if l' = l ∧ b' = false then some a else w.ρ l' b') = none
    by_cases q : l' = l
    · subst q; exact absurd h not_free_add
    · rw [if_neg fun z => q z.1]; exact r.free l' b' (free_add q h)
theorem Rel.adopt {K : Frag} {prog : Program} {wo : World} {w : WD} {H : MH} (r : Rel K prog wo w H) {l : Loc} {a : Addr} {o : Obj} (hf : H.free l) (hm : (a, o) ∈ w.news) (hn : ¬ w.im a) (ht : o.cls ≠ .type "tuple") :
    ∃ g, UpdF a o w.news g ∧ ∀ o', (g o').map (·.1) = w.news.map (·.1) ∧ (∀ p ∈ w.news, p.1 ≠ a → p ∈ g o') ∧ ∀ c, (∀ w' : WD, w'.ρ l false = some a → (a, o') ∈ w'.news → Vex w w' → CellAt K prog wo w' l c) →
      Vex w ((⟨w.ρ, g o'⟩ : WD).name l false a) ∧ Rel K prog wo ((⟨w.ρ, g o'⟩ : WD).name l false a) (H.add l c) := by
  obtain ⟨_, U, _⟩ := upd_exists (o' := o) r.nod hm
  obtain ⟨pre, post, hw, _, h1, h2⟩ := U.split
  have e1 : ∀ o', (pre ++ (a, o') :: post).map (·.1) = w.news.map (·.1) := fun o' => by rw [hw]; simp
  have e2 : ∀ o', ∀ p ∈ w.news, p.1 ≠ a → p ∈ pre ++ (a, o') :: post := fun o' p hp hne => by
    rw [hw] at hp
    rcases List.mem_append.mp hp with q | q
    · exact List.mem_append_left _ q
    · rcases List.mem_cons.mp q with rfl | q
      · exact absurd rfl hne
      · exact List.mem_append_right _ (.tail _ q)
  exact ⟨fun o' => pre ++ (a, o') :: post, by rw [hw]; exact updF_of h1 h2, fun o' => ⟨e1 o', e2 o', fun c hc => r.adopt0 hf hm hn ht hc _ (e1 o') (by simp) (e2 o')⟩⟩
theorem Ext.adopt {pu : Bool} {w w2 : WD} {a : Addr} {o : Obj} {l : Loc} {news' : List (Addr × Obj)} (e : Ext pu (w.more a o) w2) (ha : a ∉ w.keys) (hl : ∀ b, w2.ρ l b = none) (hk : news'.map (·.1) = w2.news.map (·.1)) (hp : ∀ p ∈ w2.news, p.1 ≠ a → p ∈ news') :
    Ext pu w ((⟨w2.ρ, news'⟩ : WD).name l false a) := by
  refine ⟨fun l' b' a' h => ?_, fun l' b' a' h => ?_, fun p hp' hn => ?_, fun a' h => ?_, fun z p hp' => ?_⟩
  · have h2 := e.sub l' b' a' h
    show (if _ then _ else _) = _
    by_cases q : l' = l ∧ b' = false
    · rw [q.1, hl] at h2; cases h2
    · rw [if_neg q]; exact h2
  · have h : (if l' = l ∧ b' = false then some a else w2.ρ l' b') = some a' := h
    by_cases q : l' = l ∧ b' = false
    · rw [if_pos q] at h; cases h; exact .inr ha
    · rw [if_neg q] at h
      rcases e.new l' b' a' h with h | h
      · exact .inl h
      · exact .inr fun z => h (.tail _ z)
  · refine hp p (e.pers p (.tail _ hp') hn) fun z => ha ?_
    rw [← z]; exact mem_keys hp'
  · show a' ∈ news'.map (·.1)
    rw [hk]
    exact e.kin a' (.tail _ h)
  · refine hp p (e.pure z p (.tail _ hp')) fun y => ha ?_
    rw [← y]; exact mem_keys hp'
noncomputable def WD.inst (w : WD) (l : Loc) (x dx : Addr) (C : Addr) : WD :=
  ⟨fun l' b' => if l' = l then (if b' = true then some dx else some x) else w.ρ l' b', (x, instObj C dx) :: (dx, dictOf [] 0) :: w.news⟩
theorem Ext.inst {pu : Bool} {w : WD} {l : Loc} {x dx C : Addr} (hf : ∀ b, w.ρ l b = none) (hx : x ∉ w.keys) (hd : dx ∉ w.keys) : Ext pu w (w.inst l x dx C) := by
  refine ⟨fun l' b' a' h => ?_, fun l' b' a' h => ?_, fun p hp _ => .tail _ (.tail _ hp), fun a ha => .tail _ (.tail _ ha), fun _ _ h => .tail _ (.tail _ h)⟩
  · show (if _ then _ else _) = _
    by_cases q : l' = l
    · rw [q, hf] at h; cases h
    · rw [if_neg q]; exact h
  · have h : (if l' = l then (if b' = true then some dx else some x) else w.ρ l' b') = some a' := h
    by_cases q : l' = l
    · rw [if_pos q] at h
      by_cases z : b' = true
      · rw [if_pos z] at h; cases h; exact .inr hd
      · rw [if_neg z] at h; cases h; exact .inr hx
    · rw [if_neg q] at h; exact .inl h
theorem Rel.inst {K : Frag} {prog : Program} {wo : World} {w : WD} {H : MH} (r : Rel K prog wo w H) {l : Loc} {x dx C : Addr} (hf : H.free l) (hx : x ∉ w.keys) (hd : dx ∉ w.keys) (hne : x ≠ dx) : Rel K prog wo (w.inst l x dx C) (H.add l (.inst C [])) := by
  have E : Ext true w (w.inst l x dx C) := Ext.inst (fun b => r.free l b hf) hx hd
  have ρe : ∀ l' b', (w.inst l x dx C).ρ l' b' = if l' = l then (if b' = true then some dx else some x) else w.ρ l' b' := fun _ _ => rfl
  refine ⟨?_, ?_, ?_, ?_, ?_⟩
  · intro l' c' h
    have h : (if l' = l then some (Cell.inst C []) else H.c l') = some c' := h
    by_cases q : l' = l
    · subst q; rw [if_pos rfl] at h; cases h
      exact ⟨x, dx, [], 0, by rw [ρe]; simp, by rw [ρe]; simp, .head _, .tail _ (.head _), .nil⟩
    · rw [if_neg q] at h
      exact (r.cells l' c' h).keep E.vex fun _ _ _ _ z => .tail _ (.tail _ z)
  · intro l₁ b₁ l₂ b₂ a' h₁ h₂
    rw [ρe] at h₁ h₂
    by_cases q₁ : l₁ = l <;> by_cases q₂ : l₂ = l
    · refine ⟨q₁.trans q₂.symm, ?_⟩
      rw [if_pos q₁] at h₁; rw [if_pos q₂] at h₂
      cases b₁ <;> cases b₂ <;> simp at h₁ h₂ <;> first | rfl | (exfalso; apply hne; rw [h₁, h₂]) | (exfalso; apply hne; rw [h₂, h₁])
    · rw [if_pos q₁] at h₁; rw [if_neg q₂] at h₂
      have z := r.dom _ _ _ h₂
      cases b₁ <;> simp at h₁ <;> subst h₁ <;> first | exact absurd z hx | exact absurd z hd
    · rw [if_neg q₁] at h₁; rw [if_pos q₂] at h₂
      have z := r.dom _ _ _ h₁
      cases b₂ <;> simp at h₂ <;> subst h₂ <;> first | exact absurd z hx | exact absurd z hd
    · rw [if_neg q₁] at h₁; rw [if_neg q₂] at h₂; exact r.inj _ _ _ _ _ h₁ h₂
  · refine List.nodup_cons.mpr ⟨fun hm => ?_, List.nodup_cons.mpr ⟨hd, r.nod⟩⟩
    rcases List.mem_cons.mp hm with e | hm
    · exact hne e
    · exact hx hm
  · intro l' b' a' h
    rw [ρe] at h
    by_cases q : l' = l
    · rw [if_pos q] at h
      cases b' <;> simp at h <;> subst h
      · exact .head _
      · exact .tail _ (.head _)
    · rw [if_neg q] at h; exact .tail _ (.tail _ (r.dom _ _ _ h))
  · intro l' b' h
    rw [ρe]
    by_cases q : l' = l
    · subst q; exact absurd h not_free_add
    · rw [if_neg q]; exact r.free l' b' (free_add q h)
noncomputable def OP1 {α β : Type} (rel : Frag → WD → β → α → Prop) (M : Amb) (d : Nat) (cl : List (Str × Loc)) (ml : List (Str × V)) (H : MH) (t : Value → Sem α) (x : V) (Q : β → MH → Prop) : Prop :=
  ∀ ⦃A : Around⦄ ⦃base h₀ : Heap⦄ ⦃outer : List Env⦄ ⦃fenv env : Env⦄ ⦃L : Addr⦄ ⦃m mm : Str → Option Value⦄ ⦃s : Shared⦄ ⦃wd : WD⦄ ⦃Qm : α → Shared → Prop⦄ ⦃x' : Value⦄,
    CX M d A base h₀ outer fenv env L m mm cl ml s wd H → VR M.K wd x x' →
    (∀ b a H' wd' h' tk', Q b H' → Ext M.pu wd wd' → rel M.K wd' b a → CX M d A base h₀ outer fenv env L m mm cl ml { s with heap := h', toks := tk' } wd' H' → Qm a { s with heap := h', toks := tk' }) →
    wpAny (model M.prog M.w) A (t x') Qm (fun _ _ => False) s
noncomputable def OP2 {α β : Type} (rel : Frag → WD → β → α → Prop) (M : Amb) (d : Nat) (cl : List (Str × Loc)) (ml : List (Str × V)) (H : MH) (t : Value → Value → Sem α) (x y : V) (Q : β → MH → Prop) : Prop :=
  ∀ ⦃A : Around⦄ ⦃base h₀ : Heap⦄ ⦃outer : List Env⦄ ⦃fenv env : Env⦄ ⦃L : Addr⦄ ⦃m mm : Str → Option Value⦄ ⦃s : Shared⦄ ⦃wd : WD⦄ ⦃Qm : α → Shared → Prop⦄ ⦃x' y' : Value⦄,
    CX M d A base h₀ outer fenv env L m mm cl ml s wd H → VR M.K wd x x' → VR M.K wd y y' →
    (∀ b a H' wd' h' tk', Q b H' → Ext M.pu wd wd' → rel M.K wd' b a → CX M d A base h₀ outer fenv env L m mm cl ml { s with heap := h', toks := tk' } wd' H' → Qm a { s with heap := h', toks := tk' }) →
    wpAny (model M.prog M.w) A (t x' y') Qm (fun _ _ => False) s
noncomputable def OPs {α β : Type} (rel : Frag → WD → β → α → Prop) (M : Amb) (d : Nat) (cl : List (Str × Loc)) (ml : List (Str × V)) (H : MH) (t : List Value → Sem α) (xs : List V) (Q : β → MH → Prop) : Prop :=
  ∀ ⦃A : Around⦄ ⦃base h₀ : Heap⦄ ⦃outer : List Env⦄ ⦃fenv env : Env⦄ ⦃L : Addr⦄ ⦃m mm : Str → Option Value⦄ ⦃s : Shared⦄ ⦃wd : WD⦄ ⦃Qm : α → Shared → Prop⦄ ⦃xs' : List Value⦄,
    CX M d A base h₀ outer fenv env L m mm cl ml s wd H → VRs M.K wd xs xs' →
    (∀ b a H' wd' h' tk', Q b H' → Ext M.pu wd wd' → rel M.K wd' b a → CX M d A base h₀ outer fenv env L m mm cl ml { s with heap := h', toks := tk' } wd' H' → Qm a { s with heap := h', toks := tk' }) →
    wpAny (model M.prog M.w) A (t xs') Qm (fun _ _ => False) s
section
variable {M : Amb} {d : Nat} {sc : Scope} {cl : List (Str × Loc)} {ml : List (Str × V)} {H : MH}
theorem TE_bty {x : Str} {pos : Pos} {n : String} {Q : V → MH → Prop} (e : nsIn M.K mainGlobals x = some none) (hv : bootBuiltins x = some (.type n)) (hn : x ≠ "__name__") (hk : sc.names.lookup x = some .globalImplicit) (hd : (x == ("__debug__" : Str)) = false) (h : Q (.ty n) H) : TE M d sc cl ml H (.Name x pos) Q := by
  intro A base h₀ outer fenv env L m mm s wd Qm hs c k
  have T := topRead_of c.T
  exact Name_function_global c.ek (by unfold Env.kindOf; rw [hs]; exact hk) (loadGlobal_builtin (by rw [c.eg]; exact T.g.keeps c.F.keep) (mg_none_of c.X T.g e) (by rw [c.eb]; exact T.b.keeps c.F.keep) ((T.builtins x hn).trans hv)
    (k _ _ H wd s.heap s.toks h (Ext.refl _) (.ty n) (c.tok _))) hd
theorem TE_bblt {x : Str} {pos : Pos} {n : String} {Q : V → MH → Prop} (e : nsIn M.K mainGlobals x = some none) (hv : bootBuiltins x = some (.builtin n)) (hn : x ≠ "__name__") (hk : sc.names.lookup x = some .globalImplicit) (hd : (x == ("__debug__" : Str)) = false) (h : Q (.blt n) H) : TE M d sc cl ml H (.Name x pos) Q := by
  intro A base h₀ outer fenv env L m mm s wd Qm hs c k
  have T := topRead_of c.T
  exact Name_function_global c.ek (by unfold Env.kindOf; rw [hs]; exact hk) (loadGlobal_builtin (by rw [c.eg]; exact T.g.keeps c.F.keep) (mg_none_of c.X T.g e) (by rw [c.eb]; exact T.b.keeps c.F.keep) ((T.builtins x hn).trans hv)
    (k _ _ H wd s.heap s.toks h (Ext.refl _) (.blt n) (c.tok _))) hd
theorem TE_bin {l r : Expr} {op : Operator} {pos : Pos} {Q : V → MH → Prop}
    (h : TE M d sc cl ml H l fun a H1 => TE M d sc cl ml H1 r fun b H2 => OP2 VR M d cl ml H2 (binaryOp op) a b Q) : TE M d sc cl ml H (.BinOp l op r pos) Q := by
  intro A base h₀ outer fenv env L m mm s wd Qm hs c k
  exact wpAny_BinOp (h hs c fun a a' H1 w1 h1 t1 q1 x1 r1 c1 => q1 hs c1 fun b b' H2 w2 h2 t2 q2 x2 r2 c2 =>
    q2 c2 (r1.ext _ x2) r2 fun v v' H3 w3 h3 t3 q3 x3 r3 c3 => k v v' H3 w3 h3 t3 q3 ((x1.trans x2).trans x3) r3 c3)
theorem TE_un {x : Expr} {op : UnaryOp} {pos : Pos} {Q : V → MH → Prop} (h : TE M d sc cl ml H x fun a H1 => OP1 VR M d cl ml H1 (unaryOp op) a Q) : TE M d sc cl ml H (.UnaryOp op x pos) Q := by
  intro A base h₀ outer fenv env L m mm s wd Qm hs c k
  exact UnaryOp_ (h hs c fun a a' H1 w1 h1 t1 q1 x1 r1 c1 => q1 c1 r1 fun v v' H3 w3 h3 t3 q3 x3 r3 c3 => k v v' H3 w3 h3 t3 q3 (x1.trans x3) r3 c3)
theorem TE_cmp {l r : Expr} {op : CmpOp} {pos : Pos} {Q : V → MH → Prop} (hb : behindInMarks op r = false)
    (h : TE M d sc cl ml H l fun a H1 => TE M d sc cl ml H1 r fun b H2 => OP2 VR M d cl ml H2 (compareOp op) a b Q) : TE M d sc cl ml H (.Compare l [op] [r] pos) Q := by
  intro A base h₀ outer fenv env L m mm s wd Qm hs c k
  exact wpAny_Compare1 (h hs c fun a a' H1 w1 h1 t1 q1 x1 r1 c1 => q1 hs c1 fun b b' H2 w2 h2 t2 q2 x2 r2 c2 =>
    q2 c2 (r1.ext _ x2) r2 fun v v' H3 w3 h3 t3 q3 x3 r3 c3 => k v v' H3 w3 h3 t3 q3 ((x1.trans x2).trans x3) r3 c3) hb
theorem TB_cmp {l r : Expr} {op : CmpOp} {pos : Pos} {Q : Bool → MH → Prop} (hb : behindInMarks op r = false)
    (h : TE M d sc cl ml H l fun a H1 => TE M d sc cl ml H1 r fun b H2 => OP2 VR M d cl ml H2 (compareOp op) a b fun v H3 => ∃ b, v = .bool b ∧ Q b H3) : TB M d sc cl ml H (.Compare l [op] [r] pos) Q := by
  intro A base h₀ outer fenv env L m mm s wd Qm hs c k
  refine wpAny_isTrue_Compare1 (h hs c fun a a' H1 w1 h1 t1 q1 x1 r1 c1 => q1 hs c1 fun b b' H2 w2 h2 t2 q2 x2 r2 c2 =>
    q2 c2 (r1.ext _ x2) r2 fun v v' H3 w3 h3 t3 q3 x3 r3 c3 => ?_) hb
  obtain ⟨b, rfl, q⟩ := q3
  cases r3.bool_i
  exact wpAny_truthy_bool (k b b H3 w3 h3 t3 q ((x1.trans x2).trans x3) rfl c3)
theorem TB_not {x : Expr} {pos : Pos} {Q : Bool → MH → Prop} (h : TB M d sc cl ml H x fun b H1 => Q (!b) H1) : TB M d sc cl ml H (.UnaryOp .Not x pos) Q := by
  intro A base h₀ outer fenv env L m mm s wd Qm hs c k
  refine isTrue_not (h hs c fun b a H1 w1 h1 t1 q1 x1 r1 c1 => ?_)
  cases r1
  exact k _ _ H1 w1 h1 t1 q1 x1 rfl c1
theorem TB_and {x : Expr} {rest : List Expr} {pos : Pos} {Q : Bool → MH → Prop} (h : TB M d sc cl ml H x fun b H1 => if b = true then TB M d sc cl ml H1 (.BoolOp .And rest pos) Q else Q false H1) :
    TB M d sc cl ml H (.BoolOp .And (x :: rest) pos) Q := by
  intro A base h₀ outer fenv env L m mm s wd Qm hs c k
  refine isTrue_and (h hs c fun b a H1 w1 h1 t1 q1 x1 r1 c1 => ?_)
  cases r1
  cases b with
  | true => exact q1 hs c1 fun v v' H3 w3 h3 t3 q3 x3 r3 c3 => k v v' H3 w3 h3 t3 q3 (x1.trans x3) r3 c3
  | false => exact k _ _ H1 w1 h1 t1 q1 x1 rfl c1
theorem TB_and_nil {pos : Pos} {Q : Bool → MH → Prop} (h : Q true H) : TB M d sc cl ml H (.BoolOp .And [] pos) Q := by
  intro A base h₀ outer fenv env L m mm s wd Qm hs c k
  exact isTrue_and_nil (k _ _ H wd s.heap s.toks h (Ext.refl _) rfl (c.tok _))
theorem TB_or {x : Expr} {rest : List Expr} {pos : Pos} {Q : Bool → MH → Prop} (h : TB M d sc cl ml H x fun b H1 => if b = true then Q true H1 else TB M d sc cl ml H1 (.BoolOp .Or rest pos) Q) :
    TB M d sc cl ml H (.BoolOp .Or (x :: rest) pos) Q := by
  intro A base h₀ outer fenv env L m mm s wd Qm hs c k
  refine isTrue_or (h hs c fun b a H1 w1 h1 t1 q1 x1 r1 c1 => ?_)
  cases r1
  cases b with
  | false => exact q1 hs c1 fun v v' H3 w3 h3 t3 q3 x3 r3 c3 => k v v' H3 w3 h3 t3 q3 (x1.trans x3) r3 c3
  | true => exact k _ _ H1 w1 h1 t1 q1 x1 rfl c1
theorem TB_or_nil {pos : Pos} {Q : Bool → MH → Prop} (h : Q false H) : TB M d sc cl ml H (.BoolOp .Or [] pos) Q := by
  intro A base h₀ outer fenv env L m mm s wd Qm hs c k
  exact isTrue_or_nil (k _ _ H wd s.heap s.toks h (Ext.refl _) rfl (c.tok _))
theorem TB_plain {e : Expr} {Q : Bool → MH → Prop} (hp : ∀ env whole, PySem.isTrue e env whole = (do let v ← whole; standAt e.pos; holding [v] (truthy v)))
    (h : TE M d sc cl ml H e fun v H1 => OP1 eqR M d cl ml H1 truthy v Q) : TB M d sc cl ml H e Q := by
  intro A base h₀ outer fenv env L m mm s wd Qm hs c k
  exact isTrue_plain (h hs c fun a a' H1 w1 h1 t1 q1 x1 r1 c1 => q1 c1 r1 fun v v' H3 w3 h3 t3 q3 x3 r3 c3 => k v v' H3 w3 h3 t3 q3 (x1.trans x3) r3 c3) (hp _ _)
theorem TE_one {e : Expr} {op : BoolOp} {pos : Pos} {Q : V → MH → Prop} (h : TE M d sc cl ml H e Q) : TE M d sc cl ml H (.BoolOp op [e] pos) Q := by
  intro A base h₀ outer fenv env L m mm s wd Qm hs c k
  exact BoolOp_one (h hs c k)
theorem TE_and {e₁ e₂ : Expr} {rest : List Expr} {pos : Pos} {Q : V → MH → Prop}
    (h : TE M d sc cl ml H e₁ fun v H1 => OP1 eqR M d cl ml H1 truthy v fun b H2 => if b = true then TE M d sc cl ml H2 (.BoolOp .And (e₂ :: rest) pos) Q else Q v H2) :
    TE M d sc cl ml H (.BoolOp .And (e₁ :: e₂ :: rest) pos) Q := by
  intro A base h₀ outer fenv env L m mm s wd Qm hs c k
  refine BoolOp_and (h hs c fun a a' H1 w1 h1 t1 q1 x1 r1 c1 => q1 c1 r1 fun b b' H2 w2 h2 t2 q2 x2 r2 c2 => ?_)
  cases r2
  cases b with
  | true => exact q2 hs c2 fun v v' H3 w3 h3 t3 q3 x3 r3 c3 => k v v' H3 w3 h3 t3 q3 ((x1.trans x2).trans x3) r3 c3
  | false => exact k _ _ H2 w2 h2 t2 q2 (x1.trans x2) (r1.ext _ x2) c2
theorem TE_or {e₁ e₂ : Expr} {rest : List Expr} {pos : Pos} {Q : V → MH → Prop}
    (h : TE M d sc cl ml H e₁ fun v H1 => OP1 eqR M d cl ml H1 truthy v fun b H2 => if b = true then Q v H2 else TE M d sc cl ml H2 (.BoolOp .Or (e₂ :: rest) pos) Q) :
    TE M d sc cl ml H (.BoolOp .Or (e₁ :: e₂ :: rest) pos) Q := by
  intro A base h₀ outer fenv env L m mm s wd Qm hs c k
  refine BoolOp_or (h hs c fun a a' H1 w1 h1 t1 q1 x1 r1 c1 => q1 c1 r1 fun b b' H2 w2 h2 t2 q2 x2 r2 c2 => ?_)
  cases r2
  cases b with
  | false => exact q2 hs c2 fun v v' H3 w3 h3 t3 q3 x3 r3 c3 => k v v' H3 w3 h3 t3 q3 ((x1.trans x2).trans x3) r3 c3
  | true => exact k _ _ H2 w2 h2 t2 q2 (x1.trans x2) (r1.ext _ x2) c2
theorem TE_if {test body orelse : Expr} {pos : Pos} {Q : V → MH → Prop} (h : TB M d sc cl ml H test fun b H1 => if b = true then TE M d sc cl ml H1 body Q else TE M d sc cl ml H1 orelse Q) :
    TE M d sc cl ml H (.IfExp test body orelse pos) Q := by
  intro A base h₀ outer fenv env L m mm s wd Qm hs c k
  refine IfExp_ (h hs c fun b a H1 w1 h1 t1 q1 x1 r1 c1 => ?_)
  cases r1
  cases b with
  | true => exact q1 hs c1 fun v v' H3 w3 h3 t3 q3 x3 r3 c3 => k v v' H3 w3 h3 t3 q3 (x1.trans x3) r3 c3
  | false => exact q1 hs c1 fun v v' H3 w3 h3 t3 q3 x3 r3 c3 => k v v' H3 w3 h3 t3 q3 (x1.trans x3) r3 c3
theorem TE_sub {value slice : Expr} {pos : Pos} {Q : V → MH → Prop}
    (h : TE M d sc cl ml H value fun o H1 => TE M d sc cl ml H1 slice fun i H2 => OP2 VR M d cl ml H2 (subscriptTail value slice) o i Q) : TE M d sc cl ml H (.Subscript value slice pos) Q := by
  intro A base h₀ outer fenv env L m mm s wd Qm hs c k
  exact Subscript_ (h hs c fun a a' H1 w1 h1 t1 q1 x1 r1 c1 => q1 hs c1 fun b b' H2 w2 h2 t2 q2 x2 r2 c2 =>
    q2 c2 (r1.ext _ x2) r2 fun v v' H3 w3 h3 t3 q3 x3 r3 c3 => k v v' H3 w3 h3 t3 q3 ((x1.trans x2).trans x3) r3 c3)
theorem TE_attr {value : Expr} {attr : Str} {pos : Pos} {Q : V → MH → Prop}
    (he : ∀ env, eval (.Attribute value attr pos) env = (do let o ← eval value env; standAt pos.atName; let r ← holding [o] (getAttr o attr true); letTemporaryGo value o r; pure r))
    (h : TE M d sc cl ml H value fun o H1 => OP1 VR M d cl ml H1 (fun o => getAttr o attr true) o Q) : TE M d sc cl ml H (.Attribute value attr pos) Q := by
  intro A base h₀ outer fenv env L m mm s wd Qm hs c k
  exact Attribute_any_ (h hs c fun a a' H1 w1 h1 t1 q1 x1 r1 c1 => q1 c1 r1 fun v v' H3 w3 h3 t3 q3 x3 r3 c3 => k v v' H3 w3 h3 t3 q3 (x1.trans x3) r3 c3) (he _)
theorem TEs_nil {Q : List V → MH → Prop} (h : Q [] H) : TEs M d sc cl ml H [] Q := by
  intro A base h₀ outer fenv env L m mm s wd Qm hs c k
  exact wpAny_pure (k _ _ H wd s.heap s.toks h (Ext.refl _) .nil (c.tok _))
theorem TEs_cons {e : Expr} {rest : List Expr} {Q : List V → MH → Prop} (h : TE M d sc cl ml H e fun v H1 => TEs M d sc cl ml H1 rest fun vs H2 => Q (v :: vs) H2) : TEs M d sc cl ml H (e :: rest) Q := by
  intro A base h₀ outer fenv env L m mm s wd Qm hs c k
  show wpAny _ _ (spliced ((false, eval e env) :: argTrees rest env)) _ _ _
  unfold spliced
  refine wpAny_bind (h hs c fun a a' H1 w1 h1 t1 q1 x1 r1 c1 => ?_)
  refine wpAny_bind (wpAny_pure (wpAny_bind (wpAny_holding (q1 hs c1 fun b b' H2 w2 h2 t2 q2 x2 r2 c2 => ?_))))
  exact wpAny_pure (k _ _ H2 w2 h2 t2 q2 (x1.trans x2) (.cons (r1.ext _ x2) r2) c2)
theorem back_args (pos : Pos) (es : List Expr) (env : Env) : backTo pos (argTrees es env) = argTrees es env := by
  unfold backTo argTrees
  rw [List.map_map]
  rfl
theorem TE_tuple {es : List Expr} {n : Nat} {pos : Pos} {Q : V → MH → Prop} (ha : ∀ env, starEach es env = argTrees es env) (hz : es.length ≤ 1000)
    (h : TEs M d sc cl ml H es fun vs H1 => vs.length ≤ 1000 ∧ Q (.tup vs) H1) : TE M d sc cl ml H (.Tuple es n pos) Q := by
  intro A base h₀ outer fenv env L m mm s wd Qm hs c k
  refine Tuple_ ?_
  rw [ha, back_args]
  refine h hs c fun a a' H1 w1 h1 t1 q1 x1 r1 c1 => ?_
  have hl := r1.length
  refine newTuple_N c1.F c1.N (fun h' F' N' => ?_) (by have := q1.1; rw [hl]; show _ ≤ 2 ^ 24; omega)
  have nk := c1.fresh
  refine k _ _ H1 (w1.more h1.objs.size (tupObj a')) h' t1 q1.2 (x1.trans (.more _ _ _)) (.tup (.head _) ?_ (r1.ext _ (Ext.more (pu := M.pu) _ _ _))) (c1.go F' N' (.more _ _ _) (c1.rel.more _ nk))
  rintro ⟨l, b, hb⟩
  exact nk (c1.rel.dom l b _ hb)
end
noncomputable def setF : List (Str × V) → Str → V → List (Str × V)
  | [], k, x => [(k, x)]
  | (k', y) :: r, k, x => if k' == k then (k', x) :: r else (k', y) :: setF r k x
noncomputable def getF : List (Str × V) → Str → Option V
  | [], _ => none
  | (k', y) :: r, k => if k' == k then some y else getF r k
section
variable {K : Frag} {P : Params} {w : WD}
theorem getL_cons (k k' : Str) (hsh : Int) (t : Tok) (v : Value) (ds : List DictEntry) : getL k (⟨hsh, .str k' t, v⟩ :: ds) = if (k' == k) = true then some (some v) else getL k ds := by
  have e : (⟨hsh, .str k' t, v⟩ : DictEntry).key.isStr k = (k' == k) := rfl
  unfold getL
  rw [List.find?_cons, e, List.any_cons]
  by_cases q : (k' == k) = true
  · rw [q, if_pos rfl]
  · rw [if_neg q]
    have q' : (k' == k) = false := by simpa using q
    rw [q']
    rfl
theorem ER.get {k : Str} : ∀ {es : List (Str × V)} {ds : List DictEntry}, ER K P w es ds → ∀ x, getF es k = some x → ∃ v, getL k ds = some (some v) ∧ VR K w x v := by
  intro es ds h
  induction h with
  | nil => intro x e; cases e
  | @cons k' _ _ _ _ _ h _ ih =>
    intro x e
    unfold getF at e
    rw [getL_cons]
    by_cases q : (k' == k) = true
    · rw [if_pos q] at e; cases e
      rw [if_pos q]; exact ⟨_, rfl, h⟩
    · rw [if_neg q] at e
      rw [if_neg q]
      exact ih x e
theorem ER.miss {k : Str} : ∀ {es : List (Str × V)} {ds : List DictEntry}, ER K P w es ds → getF es k = none → getL k ds = some none := by
  intro es ds h
  induction h with
  | nil => intro _; rfl
  | @cons k' _ _ _ _ _ h _ ih =>
    intro e
    unfold getF at e
    rw [getL_cons]
    by_cases q : (k' == k) = true
    · rw [if_pos q] at e; cases e
    · rw [if_neg q] at e
      rw [if_neg q]
      exact ih e
theorem ER.put {k : Str} {t : Tok} {x : V} {v : Value} (hv : VR K w x v) : ∀ {es : List (Str × V)} {ds : List DictEntry}, ER K P w es ds → ER K P w (setF es k x) (putL k (PyData.keyHash P k) (.str k t) v ds) := by
  intro es ds h
  induction h with
  | nil => exact .cons hv .nil
  | @cons k' _ _ _ _ _ h r ih =>
    unfold setF putL
    show ER K P w (if (k' == k) = true then _ else _) (if (k' == k) = true then _ else _)
    by_cases q : (k' == k) = true
    · rw [if_pos q, if_pos q]; exact .cons hv r
    · rw [if_neg q, if_neg q]; exact .cons h ih
theorem ER.length : ∀ {es : List (Str × V)} {ds : List DictEntry}, ER K P w es ds → ds.length = es.length := by
  intro es ds h
  induction h with
  | nil => rfl
  | cons _ _ ih => exact congrArg (· + 1) ih
theorem setF_length (k : Str) (x : V) : ∀ es : List (Str × V), (setF es k x).length ≤ es.length + 1
  | [] => Nat.le_refl _
  | (k', y) :: r => by
    unfold setF
    split
    · simp
    · have := setF_length k x r; simp only [List.length_cons]; omega
end
structure AttrOK (K : Frag) (C : Addr) (name : Str) : Prop where
  get : plainGet K C name = true
  dict : hasDictIn K C = true
  found : ∃ attr, findIn K (.ref C) name = some attr ∧ noGet K attr = true
structure SetOK (K : Frag) (C : Addr) (name : Str) : Prop where
  set : findIn K (.ref C) "__setattr__" = some (some (.builtin "object.__setattr__"))
  over : plainOver K C = true
  taker : takerIn K C name = some none
  dict : hasDictIn K C = true
structure MethOK (K : Frag) (C : Addr) (name : Str) (f : Addr) : Prop where
  get : plainGet K C name = true
  found : findIn K (.ref C) name = some (some (.ref f))
  fn : isFn K (.ref f) = true
  keep : keepIn K (.ref f) = true
noncomputable def V.noBlt : V → Prop
  | .blt _ => False
  | _ => True
theorem handed_of {K : Frag} {w : WD} {x : V} {v : Value} (h : VR K w x v) (n : x.noBlt) : handedIn v = true := by
  cases h <;> first | rfl | exact n.elim
section
variable {M : Amb} {d : Nat} {sc : Scope} {cl : List (Str × Loc)} {ml : List (Str × V)} {H : MH}
theorem OP_attr {l : Loc} {C : Addr} {fs : List (Str × V)} {name : Str} {x : V} {Q : V → MH → Prop} (hc : H.c l = some (.inst C fs)) (ok : AttrOK M.K C name) (hx : getF fs name = some x) (nb : x.noBlt) (h : Q x H) :
    OP1 VR M d cl ml H (fun o => getAttr o name true) (.cell l) Q := by
  intro A base h₀ outer fenv env L m mm s wd Qm x' c hv k
  obtain ⟨ax, hl, rfl⟩ := hv.cell_i
  · obtain ⟨a, dx, ds, n, e1, e2, e3, e4, e5⟩ := c.rel.cells l _ hc
    obtain rfl := Option.some.inj (hl.symm.trans e1)
    obtain ⟨v, g1, g2⟩ := e5.get x hx
    obtain ⟨at', f1, f2⟩ := ok.found
    exact get_own c.F c.X (InstAt.of_news c.N e3 e4) ok.get ok.dict f1 f2 g1 (handed_of g2 nb) (k _ _ H wd s.heap (s.toks + 1) h (Ext.refl _) g2 (c.tok _))
theorem OP_setattr (hpu : M.pu = false) {l : Loc} {C : Addr} {fs : List (Str × V)} {name : Str} {x : V} {Q : Unit → MH → Prop} (hc : H.c l = some (.inst C fs)) (ok : SetOK M.K C name) (hz : fs.length ≤ 900) (h : Q () (H.put l (.inst C (setF fs name x)))) :
    OP2 (fun _ _ _ _ => True) M d cl ml H (fun o v => setAttr o name v) (.cell l) x Q := by
  intro A base h₀ outer fenv env L m mm s wd Qm x' y' c hv hy k
  obtain ⟨ax, hl, rfl⟩ := hv.cell_i
  · obtain ⟨a, dx, ds, n, e1, e2, e3, e4, e5⟩ := c.rel.cells l _ hc
    obtain rfl := Option.some.inj (hl.symm.trans e1)
    have hg : (getL name ds).isSome = true := by
      cases hq : getF fs name with
      | none => rw [e5.miss hq]; rfl
      | some z => obtain ⟨v, g1, _⟩ := e5.get z hq; rw [g1]; rfl
    obtain ⟨news', U, E, R⟩ := Rel.set hpu c.rel (o' := dictOf (putL name (PyData.keyHash M.w.params name) (.str name (s.toks + 1)) y' ds) (putN name ds n)) (c := .inst C (setF fs name x)) e2 e4 fun news' hm' hp E =>
      ⟨_, dx, _, _, E.sub _ _ _ e1, E.sub _ _ _ e2, hp _ e3 (fun e => by
        have z : (l = l) ∧ (false = true) := c.rel.inj l false l true dx (by rw [e1]; exact congrArg some e) e2
        exact absurd z.2 (by decide)), hm', (e5.ext _ E.vex).put (hy.ext _ E)⟩
    refine set_dict c.F c.X c.N (InstAt.of_news c.N e3 e4) rfl ok.set ok.over ok.taker ok.dict hg rfl U ?_ fun h' F' N' => k () () _ ⟨wd.ρ, news'⟩ h' (s.toks + 2) h E trivial (c.go F' N' E R)
    have q1 := (e5.put (k := name) (t := s.toks + 1) hy).length
    have q2 := setF_length name x fs
    omega
end
section
variable {M : Model} {A : Around} {E : Value → Shared → Prop} {s : Shared} {env : Env}
theorem args_any (es : List Expr) (env : Env) : (argTrees es env).any (·.1) = false := by
  unfold argTrees
  induction es with
  | nil => rfl
  | cons e r ih => rw [List.map_cons, List.any_cons, ih]; rfl
theorem evalArgs_trees {f : Value} {es : List Expr} {Q : Args → Shared → Prop} (h : wpAny M A (spliced (argTrees es env)) (fun vs s' => Q ⟨vs, []⟩ s') E s) : wpAny M A (evalArgs f true (argTrees es env) []) Q E s := by
  cases es with
  | nil =>
    unfold evalArgs
    show wpAny M A (spliced [] >>= _) Q E s
    refine wpAny_bind (wpAny_mono h (fun vs s' h' => ?_) fun _ _ x => x)
    refine wpAny_holding ?_
    exact wpAny_bind (wpAny_pure (wpAny_bind (wpAny_pure (wpAny_pure h'))))
  | cons e r => exact evalArgs_plain h
end
section
variable {M : Amb} {d : Nat} {sc : Scope} {cl : List (Str × Loc)} {ml : List (Str × V)} {H : MH}
noncomputable def CALL (M : Amb) (d : Nat) (cl : List (Str × Loc)) (ml : List (Str × V)) (H : MH) (a : Addr) (xs : List V) (Q : V → MH → Prop) : Prop :=
  ∀ ⦃A : Around⦄ ⦃base h₀ : Heap⦄ ⦃outer : List Env⦄ ⦃fenv env : Env⦄ ⦃L : Addr⦄ ⦃m mm : Str → Option Value⦄ ⦃s : Shared⦄ ⦃wd : WD⦄ ⦃R : Result → Shared → Prop⦄ ⦃xs' : List Value⦄,
    CX M d A base h₀ outer fenv env L m mm cl ml s wd H → VRs M.K wd xs xs' →
    (∀ v v' H' wd' h' tk', Q v H' → Ext M.pu wd wd' → VR M.K wd' v v' → CX M d A base h₀ outer fenv env L m mm cl ml { s with heap := h', toks := tk' } wd' H' → R (.ok (.ret v')) { s with heap := h', toks := tk' }) →
    codeAny (model M.prog M.w) A (.call (.ref a) ⟨xs', []⟩) R s
noncomputable abbrev CALB (M : Amb) (d : Nat) (cl : List (Str × Loc)) (ml : List (Str × V)) (H : MH) (f : Value) (vs : List V) (Q : V → MH → Prop) : Prop := OPs VR M d cl ml H (fun vals => call f vals) vs Q
theorem TE_call {func : Expr} {args : List Expr} {pos : Pos} {Q : V → MH → Prop}
    (he : ∀ env, eval (.Call func args [] pos) env = (do callWith pos (← eval func env) [] (backTo pos (starEach args env)) (backToKw pos (keywordEach [] env))))
    (ha : ∀ env, starEach args env = argTrees args env)
    (h : TE M d sc cl ml H func fun v H1 => ∃ a, v = .glob a ∧ keepIn M.K (.ref a) = true ∧ TEs M d sc cl ml H1 args fun vs H2 => CALL M d cl ml H2 a vs Q) : TE M d sc cl ml H (.Call func args [] pos) Q := by
  intro A base h₀ outer fenv env L m mm s wd Qm hs c k
  refine Call_ (h hs c fun f f' H1 w1 h1 t1 q1 x1 r1 c1 => ?_) (he _)
  obtain ⟨a, rfl, hk, q1⟩ := q1
  obtain rfl := r1.glob_i
  rw [ha, back_args]
  refine callWith_of (P := M.K.In) (by rw [args_any]; rfl) (fun h X => keeps_K hk h X) (evalArgs_trees (q1 hs c1 fun b b' H2 w2 h2 t2 q2 x2 r2 c2 => ⟨c2.X.keeps c2.F.keep, ?_⟩))
  exact wpAny_call (q2 c2 r2 fun v v' H3 w3 h3 t3 q3 x3 r3 c3 => k v v' H3 w3 h3 t3 q3 ((x1.trans x2).trans x3) r3 c3)
theorem TE_meth {o : Expr} {name : Str} {apos pos : Pos} {args : List Expr} {pl : Env → Sem Bool} {Q : V → MH → Prop}
    (he : ∀ env, eval (.Call (.Attribute o name apos) args [] pos) env = (do
      let ov ← eval o env
      standAt apos.atName
      let (f, first) ← holding [ov] (getMethod ov name (pl env))
      callWith pos f first (backTo pos (starEach args env)) []))
    (ha : ∀ env, starEach args env = argTrees args env)
    (h : TE M d sc cl ml H o fun v H1 => ∃ l C fs f, v = .cell l ∧ H1.c l = some (.inst C fs) ∧ getF fs name = none ∧ MethOK M.K C name f ∧ TEs M d sc cl ml H1 args fun vs H2 => CALL M d cl ml H2 f (v :: vs) Q) : TE M d sc cl ml H (.Call (.Attribute o name apos) args [] pos) Q := by
  intro A base h₀ outer fenv env L m mm s wd Qm hs c k
  refine MethodCall_ (h hs c fun f f' H1 w1 h1 t1 q1 x1 r1 c1 => ?_) (he _)
  obtain ⟨l, C, fs, g, rfl, hc, hx, ok, q1⟩ := q1
  obtain ⟨ax, hl, rfl⟩ := r1.cell_i
  · obtain ⟨a, dx, ds, n, e1, e2, e3, e4, e5⟩ := c1.rel.cells l _ hc
    obtain rfl := Option.some.inj (hl.symm.trans e1)
    refine method_inst c1.F c1.X (InstAt.of_news c1.N e3 e4) ok.get ok.found ok.fn (e5.miss hx) ?_
    dsimp only
    rw [ha, back_args]
    refine callWith_of (P := M.K.In) (by rw [args_any]; rfl) (fun h X => keeps_K ok.keep h X) (evalArgs_trees (q1 hs c1 fun b b' H2 w2 h2 t2 q2 x2 r2 c2 => ⟨c2.X.keeps c2.F.keep, ?_⟩))
    exact wpAny_call (q2 c2 (.cons (.cell (x2.sub _ _ _ hl)) r2) fun v v' H3 w3 h3 t3 q3 x3 r3 c3 => k v v' H3 w3 h3 t3 q3 ((x1.trans x2).trans x3) r3 c3)
noncomputable def V.isTy (H : MH) : V → String → Prop
  | .str _, T => T = "str"
  | .cell l, T => (∃ xs, H.c l = some (.list xs) ∧ T = "list") ∨ (∃ es, H.c l = some (.dict es) ∧ T = "dict")
  | _, _ => False
theorem isTy_of {A : Around} {base h₀ : Heap} {outer : List Env} {fenv env : Env} {L : Addr} {m mm : Str → Option Value} {s : Shared} {wd : WD} {x : V} {x' : Value} {T : String}
    (c : CX M d A base h₀ outer fenv env L m mm cl ml s wd H) (r : VR M.K wd x x') (h : x.isTy H T) : s.TypeIs x' T ∧ ∀ a, x' = .ref a → ∃ o, s.heap.get? a = some o ∧ o.dict = none := by
  cases r <;> try exact h.elim
  · cases h; exact ⟨rfl, fun _ e => by cases e⟩
  · rename_i hl
    rcases h with ⟨xs, hc, rfl⟩ | ⟨es, hc, rfl⟩
    · obtain ⟨a, vs, n, e1, e2, e3⟩ := c.rel.cells _ _ hc
      obtain rfl := Option.some.inj (hl.symm.trans e1)
      exact ⟨⟨_, (c.N _ e2).1, rfl⟩, fun b e => by cases e; exact ⟨_, (c.N _ e2).1, rfl⟩⟩
    · obtain ⟨a, o, kvs, e1, e2, e3, e4, e5⟩ := c.rel.cells _ _ hc
      obtain rfl := Option.some.inj (hl.symm.trans e1)
      have D := Heap.dictOf_iff.mpr ⟨o, (c.N _ e2).1, e4⟩
      exact ⟨D.typeIs, D.mapOf.noDict⟩
theorem TE_bmeth {o : Expr} {name : Str} {apos pos : Pos} {args : List Expr} {pl : Env → Sem Bool} {Q : V → MH → Prop} {T id : String}
    (he : ∀ env, eval (.Call (.Attribute o name apos) args [] pos) env = (do
      let ov ← eval o env
      standAt apos.atName
      let (f, first) ← holding [ov] (getMethod ov name (pl env))
      callWith pos f first (backTo pos (starEach args env)) []))
    (ha : ∀ env, starEach args env = argTrees args env) (slot : Slot T name id) (pa : PlainAttrs T) (hty : typeOf (.builtin id) = pure (.type "method_descriptor"))
    (h : TE M d sc cl ml H o fun v H1 => v.isTy H1 T ∧ TEs M d sc cl ml H1 args fun vs H2 => CALB M d cl ml H2 (.builtin id) (v :: vs) Q) : TE M d sc cl ml H (.Call (.Attribute o name apos) args [] pos) Q := by
  intro A base h₀ outer fenv env L m mm s wd Qm hs c k
  refine MethodCall_ (h hs c fun f f' H1 w1 h1 t1 q1 x1 r1 c1 => ?_) (he _)
  obtain ⟨ty, q1⟩ := q1
  obtain ⟨i1, i2⟩ := isTy_of c1 r1 ty
  refine getMethod_builtin i1 pa slot hty i2 ?_
  dsimp only
  rw [ha, back_args]
  refine Calls.callWith_builtin (args_any _ _) (evalArgs_trees (q1 hs c1 fun b b' H2 w2 h2 t2 q2 x2 r2 c2 => ?_))
  exact q2 c2 (.cons (r1.ext _ x2) r2) fun v v' H3 w3 h3 t3 q3 x3 r3 c3 => k v v' H3 w3 h3 t3 q3 ((x1.trans x2).trans x3) r3 c3
theorem TE_bcall {func : Expr} {args : List Expr} {pos : Pos} {Q : V → MH → Prop}
    (he : ∀ env, eval (.Call func args [] pos) env = (do callWith pos (← eval func env) [] (backTo pos (starEach args env)) (backToKw pos (keywordEach [] env))))
    (ha : ∀ env, starEach args env = argTrees args env)
    (h : TE M d sc cl ml H func fun v H1 => ∃ n, v = .blt n ∧ TEs M d sc cl ml H1 args fun vs H2 => CALB M d cl ml H2 (.builtin n) vs Q) : TE M d sc cl ml H (.Call func args [] pos) Q := by
  intro A base h₀ outer fenv env L m mm s wd Qm hs c k
  refine Call_ (h hs c fun f f' H1 w1 h1 t1 q1 x1 r1 c1 => ?_) (he _)
  obtain ⟨a, rfl, q1⟩ := q1
  obtain rfl := r1.blt_i
  rw [ha, back_args]
  refine Calls.callWith_builtin (args_any _ _) (evalArgs_trees (q1 hs c1 fun b b' H2 w2 h2 t2 q2 x2 r2 c2 => ?_))
  exact q2 c2 r2 fun v v' H3 w3 h3 t3 q3 x3 r3 c3 => k v v' H3 w3 h3 t3 q3 ((x1.trans x2).trans x3) r3 c3
theorem TE_tcall {func e : Expr} {args : List Expr} {pos : Pos} {Q : V → MH → Prop}
    (he : ∀ env, eval (.Call func (e :: args) [] pos) env = (do callWith pos (← eval func env) [] (backTo pos (starEach (e :: args) env)) (backToKw pos (keywordEach [] env))))
    (ha : ∀ env, starEach (e :: args) env = (false, eval e env) :: starEach args env) (hb : ∀ env, starEach args env = argTrees args env)
    (h : TE M d sc cl ml H func fun v H1 => ∃ n, v = .ty n ∧ TEs M d sc cl ml H1 (e :: args) fun vs H2 => CALB M d cl ml H2 (.type n) vs Q) : TE M d sc cl ml H (.Call func (e :: args) [] pos) Q := by
  intro A base h₀ outer fenv env L m mm s wd Qm hs c k
  refine Call_ (h hs c fun f f' H1 w1 h1 t1 q1 x1 r1 c1 => ?_) (he _)
  obtain ⟨a, rfl, q1⟩ := q1
  obtain rfl := r1.ty_i
  refine PyProof.Rows.callWith_type1 ?_ (ha _) (by rw [hb, back_args]; exact args_any _ _)
  rw [ha, hb]
  show wpAny _ _ (spliced (backTo pos (argTrees (e :: args) env))) _ _ _
  rw [back_args]
  refine q1 hs c1 fun b b' H2 w2 h2 t2 q2 x2 r2 c2 => ?_
  exact q2 c2 r2 fun v v' H3 w3 h3 t3 q3 x3 r3 c3 => k v v' H3 w3 h3 t3 q3 ((x1.trans x2).trans x3) r3 c3
end
section
variable {M : Amb} {d : Nat} {sc : Scope} {cl : List (Str × Loc)} {ml : List (Str × V)} {H : MH}
theorem OP_add {i j : Int} {Q : V → MH → Prop} (h : Q (.int (i + j)) H) : OP2 VR M d cl ml H (binaryOp .Add) (.int i) (.int j) Q := by
  intro A base h₀ outer fenv env L m mm s wd Qm x' y' c hx hy k
  obtain ⟨_, rfl⟩ := hx.int_i; obtain ⟨_, rfl⟩ := hy.int_i
  exact add_int (k _ _ H wd s.heap _ h (Ext.refl _) (.int _ _) (c.tok _))
theorem OP_sub {i j : Int} {Q : V → MH → Prop} (h : Q (.int (i - j)) H) : OP2 VR M d cl ml H (binaryOp .Sub) (.int i) (.int j) Q := by
  intro A base h₀ outer fenv env L m mm s wd Qm x' y' c hx hy k
  obtain ⟨_, rfl⟩ := hx.int_i; obtain ⟨_, rfl⟩ := hy.int_i
  exact sub_int (k _ _ H wd s.heap _ h (Ext.refl _) (.int _ _) (c.tok _))
theorem OP_mul {i j : Int} {Q : V → MH → Prop} (hz : Builtin.Int.intBits i ≤ 64) (h : Q (.int (i * j)) H) : OP2 VR M d cl ml H (binaryOp .Mult) (.int i) (.int j) Q := by
  intro A base h₀ outer fenv env L m mm s wd Qm x' y' c hx hy k
  obtain ⟨_, rfl⟩ := hx.int_i; obtain ⟨_, rfl⟩ := hy.int_i
  exact mul_int (k _ _ H wd s.heap _ h (Ext.refl _) (.int _ _) (c.tok _)) (.of_left hz)
theorem OP_mod {i j : Int} {Q : V → MH → Prop} (hj : j ≠ 0) (h : Q (.int (i.fmod j)) H) : OP2 VR M d cl ml H (binaryOp .Mod) (.int i) (.int j) Q := by
  intro A base h₀ outer fenv env L m mm s wd Qm x' y' c hx hy k
  obtain ⟨_, rfl⟩ := hx.int_i; obtain ⟨_, rfl⟩ := hy.int_i
  exact mod_int hj (k _ _ H wd s.heap _ h (Ext.refl _) (.int _ _) (c.tok _))
theorem OP_fdiv {i j : Int} {Q : V → MH → Prop} (hj : j ≠ 0) (hp : Builtin.divisionGoesByPylong i j = false) (h : Q (.int (i.fdiv j)) H) : OP2 VR M d cl ml H (binaryOp .FloorDiv) (.int i) (.int j) Q := by
  intro A base h₀ outer fenv env L m mm s wd Qm x' y' c hx hy k
  obtain ⟨_, rfl⟩ := hx.int_i; obtain ⟨_, rfl⟩ := hy.int_i
  exact floordiv_int hj (k _ _ H wd s.heap _ h (Ext.refl _) (.int _ _) (c.tok _)) (.inl hp)
theorem OP_neg {i : Int} {Q : V → MH → Prop} (h : Q (.int (-i)) H) : OP1 VR M d cl ml H (unaryOp .USub) (.int i) Q := by
  intro A base h₀ outer fenv env L m mm s wd Qm x' c hx k
  obtain ⟨_, rfl⟩ := hx.int_i
  exact neg_int (k _ _ H wd s.heap _ h (Ext.refl _) (.int _ _) (c.tok _))
theorem OP_eq_int {i j : Int} {Q : V → MH → Prop} (h : Q (.bool (i == j)) H) : OP2 VR M d cl ml H (compareOp .Eq) (.int i) (.int j) Q := by
  intro A base h₀ outer fenv env L m mm s wd Qm x' y' c hx hy k
  obtain ⟨_, rfl⟩ := hx.int_i; obtain ⟨_, rfl⟩ := hy.int_i
  exact eq_int (k _ _ H wd s.heap _ h (Ext.refl _) (.bool _) (c.tok _))
theorem OP_ne_int {i j : Int} {Q : V → MH → Prop} (h : Q (.bool (i != j)) H) : OP2 VR M d cl ml H (compareOp .NotEq) (.int i) (.int j) Q := by
  intro A base h₀ outer fenv env L m mm s wd Qm x' y' c hx hy k
  obtain ⟨_, rfl⟩ := hx.int_i; obtain ⟨_, rfl⟩ := hy.int_i
  exact ne_int (k _ _ H wd s.heap _ h (Ext.refl _) (.bool _) (c.tok _))
theorem OP_lt_int {i j : Int} {Q : V → MH → Prop} (h : Q (.bool (decide (i < j))) H) : OP2 VR M d cl ml H (compareOp .Lt) (.int i) (.int j) Q := by
  intro A base h₀ outer fenv env L m mm s wd Qm x' y' c hx hy k
  obtain ⟨_, rfl⟩ := hx.int_i; obtain ⟨_, rfl⟩ := hy.int_i
  exact lt_int (k _ _ H wd s.heap _ h (Ext.refl _) (.bool _) (c.tok _))
theorem OP_le_int {i j : Int} {Q : V → MH → Prop} (h : Q (.bool (decide (i ≤ j))) H) : OP2 VR M d cl ml H (compareOp .LtE) (.int i) (.int j) Q := by
  intro A base h₀ outer fenv env L m mm s wd Qm x' y' c hx hy k
  obtain ⟨_, rfl⟩ := hx.int_i; obtain ⟨_, rfl⟩ := hy.int_i
  exact le_int (k _ _ H wd s.heap _ h (Ext.refl _) (.bool _) (c.tok _))
theorem OP_gt_int {i j : Int} {Q : V → MH → Prop} (h : Q (.bool (decide (i > j))) H) : OP2 VR M d cl ml H (compareOp .Gt) (.int i) (.int j) Q := by
  intro A base h₀ outer fenv env L m mm s wd Qm x' y' c hx hy k
  obtain ⟨_, rfl⟩ := hx.int_i; obtain ⟨_, rfl⟩ := hy.int_i
  exact gt_int (k _ _ H wd s.heap _ h (Ext.refl _) (.bool _) (c.tok _))
theorem OP_eq_str {x y : Str} {Q : V → MH → Prop} (h : Q (.bool (x == y)) H) : OP2 VR M d cl ml H (compareOp .Eq) (.str x) (.str y) Q := by
  intro A base h₀ outer fenv env L m mm s wd Qm x' y' c hx hy k
  obtain ⟨_, rfl⟩ := hx.str_i; obtain ⟨_, rfl⟩ := hy.str_i
  exact eq_str (k _ _ H wd s.heap _ h (Ext.refl _) (.bool _) (c.tok _))
theorem OP_ne_str {x y : Str} {Q : V → MH → Prop} (h : Q (.bool (x != y)) H) : OP2 VR M d cl ml H (compareOp .NotEq) (.str x) (.str y) Q := by
  intro A base h₀ outer fenv env L m mm s wd Qm x' y' c hx hy k
  obtain ⟨_, rfl⟩ := hx.str_i; obtain ⟨_, rfl⟩ := hy.str_i
  exact ne_str (k _ _ H wd s.heap _ h (Ext.refl _) (.bool _) (c.tok _))
theorem OP_add_str {x y : Str} {Q : V → MH → Prop} (hz : x.length + y.length ≤ 10000) (h : Q (.str (x ++ y)) H) : OP2 VR M d cl ml H (binaryOp .Add) (.str x) (.str y) Q := by
  intro A base h₀ outer fenv env L m mm s wd Qm x' y' c hx hy k
  obtain ⟨_, rfl⟩ := hx.str_i; obtain ⟨_, rfl⟩ := hy.str_i
  exact add_str (fun t' tk => k _ _ H wd s.heap _ h (Ext.refl _) (.str _ _) (c.tok _)) (Nat.le_trans hz (by decide))
theorem OP_truth_bool {b : Bool} {Q : Bool → MH → Prop} (h : Q b H) : OP1 eqR M d cl ml H truthy (.bool b) Q := by
  intro A base h₀ outer fenv env L m mm s wd Qm x' c hx k
  cases hx.bool_i
  exact wpAny_truthy_bool (k _ _ H wd s.heap s.toks h (Ext.refl _) rfl (c.tok _))
theorem isList_of {A : Around} {base h₀ : Heap} {outer : List Env} {fenv env : Env} {L : Addr} {m mm : Str → Option Value} {s : Shared} {wd : WD} {l : Loc} {x' : Value} {xs : List V}
    (c : CX M d A base h₀ outer fenv env L m mm cl ml s wd H) (hc : H.c l = some (.list xs)) (hx : VR M.K wd (.cell l) x') : ∃ a vs n, x' = .ref a ∧ wd.ρ l false = some a ∧ (a, listOf vs.toArray n) ∈ wd.news ∧ VRs M.K wd xs vs ∧ s.heap.IsList a vs.toArray ∧ vs.length = xs.length := by
  obtain ⟨ax, hl, rfl⟩ := hx.cell_i
  · obtain ⟨a, vs, n, e1, e2, e3⟩ := c.rel.cells _ _ hc
    obtain rfl := Option.some.inj (hl.symm.trans e1)
    exact ⟨_, vs, n, rfl, e1, e2, e3, ⟨_, (c.N _ e2).1, rfl, n, rfl⟩, e3.length⟩
theorem isTup_of {A : Around} {base h₀ : Heap} {outer : List Env} {fenv env : Env} {L : Addr} {m mm : Str → Option Value} {s : Shared} {wd : WD} {x' : Value} {xs : List V}
    (c : CX M d A base h₀ outer fenv env L m mm cl ml s wd H) (hx : VR M.K wd (.tup xs) x') : ∃ a vs, x' = .ref a ∧ VRs M.K wd xs vs ∧ IsTup s.heap a vs.toArray ∧ vs.length = xs.length := by
  cases hx with
  | tup h1 h2 h3 => exact ⟨_, _, rfl, h3, ⟨_, (c.N _ h1).1, rfl, 0, rfl⟩, h3.length⟩
  | ktup h1 => exact ⟨_, [], rfl, .nil, ⟨_, (c.X.keeps c.F.keep) _ _ h1, rfl, _, rfl⟩, rfl⟩
theorem OP_truth_list {l : Loc} {xs : List V} {Q : Bool → MH → Prop} (hc : H.c l = some (.list xs)) (hz : xs.length ≤ 1000) (h : Q (!xs.isEmpty) H) : OP1 eqR M d cl ml H truthy (.cell l) Q := by
  intro A base h₀ outer fenv env L m mm s wd Qm x' c hx k
  obtain ⟨a, vs, n, rfl, e1, e2, e3, e4, e5⟩ := isList_of c hc hx
  have hb : (!vs.toArray.isEmpty) = !xs.isEmpty := by
    cases e3 <;> rfl
  refine wpAny_truthy_list e4 (by rw [List.size_toArray, e5]; omega) ?_
  rw [hb]
  exact k _ _ H wd s.heap _ h (Ext.refl _) rfl (c.tok _)
theorem OP_item_tup {value slice : Expr} {xs : List V} {i : Int} {j : Nat} {x : V} {Q : V → MH → Prop} (hlo : -2 ^ 63 ≤ i) (hhi : i < 2 ^ 63) (hj : seqIndex? i xs.length = some j) (hx : xs[j]? = some x)
    (hs : ∀ a u, subscripted slice false (.ref a) (.int i u) = operate [.ref a, .int i u] (getItem (.ref a) (.int i u))) (h : Q x H) : OP2 VR M d cl ml H (subscriptTail value slice) (.tup xs) (.int i) Q := by
  intro A base h₀ outer fenv env L m mm s wd Qm x' y' c r1 r2 k
  obtain ⟨a, vs, rfl, e1, e2, e3⟩ := isTup_of c r1
  obtain ⟨_, rfl⟩ := r2.int_i
  obtain ⟨v, g1, g2⟩ := e1.get _ hx
  exact item_tupleT e2 hlo hhi (by rw [e3]; exact hj) g1 (k _ _ H wd s.heap s.toks h (Ext.refl _) g2 (c.tok _)) (hs _ _)
theorem OP_item_list {value slice : Expr} {l : Loc} {xs : List V} {i : Int} {x : V} {Q : V → MH → Prop} (hc : H.c l = some (.list xs)) (hlo : 0 ≤ i) (hhi : i < 2 ^ 63) (hx : xs[i.toNat]? = some x)
    (hs : ∀ a u, subscripted slice false (.ref a) (.int i u) = operate [.ref a, .int i u] (getItem (.ref a) (.int i u))) (h : Q x H) : OP2 VR M d cl ml H (subscriptTail value slice) (.cell l) (.int i) Q := by
  intro A base h₀ outer fenv env L m mm s wd Qm x' y' c r1 r2 k
  obtain ⟨a, vs, n, rfl, e1, e2, e3, e4, e5⟩ := isList_of c hc r1
  obtain ⟨_, rfl⟩ := r2.int_i
  obtain ⟨v, g1, g2⟩ := e3.get _ hx
  exact tail_any e4.typeIs slot_list_getitem.lookup (wpAny_getItem_list e4 hlo hhi (by simpa using g1) (k _ _ H wd s.heap s.toks h (Ext.refl _) g2 (c.tok _))) (hs _ _)
theorem OP_item_last {value slice : Expr} {l : Loc} {xs : List V} {x : V} {Q : V → MH → Prop} (hc : H.c l = some (.list xs)) (hz : xs.length ≤ 1000) (hx : xs.getLast? = some x)
    (hs : ∀ a u, subscripted slice false (.ref a) (.int (-1) u) = operate [.ref a, .int (-1) u] (getItem (.ref a) (.int (-1) u))) (h : Q x H) : OP2 VR M d cl ml H (subscriptTail value slice) (.cell l) (.int (-1)) Q := by
  intro A base h₀ outer fenv env L m mm s wd Qm x' y' c r1 r2 k
  obtain ⟨a, vs, n, rfl, e1, e2, e3, e4, e5⟩ := isList_of c hc r1
  obtain ⟨_, rfl⟩ := r2.int_i
  rw [List.getLast?_eq_getElem?] at hx
  obtain ⟨v, g1, g2⟩ := e3.get _ hx
  have h1 : 1 ≤ xs.length := by
    cases xs with
    | nil => simp at hx
    | cons => simp
  refine tail_any e4.typeIs slot_list_getitem.lookup (wpAny_getItem_list_neg e4 (by decide) ?_ (by decide) ?_ (k _ _ H wd s.heap s.toks h (Ext.refl _) g2 (c.tok _))) (hs _ _)
  · rw [List.size_toArray, e5]; omega
  · rw [List.size_toArray, e5]
    have : ((-1 : Int) + (xs.length : Int)).toNat = xs.length - 1 := by omega
    rw [this]
    simpa using g1
theorem OP_item_str {value slice : Expr} {x : Str} {i : Int} {ch : Nat} {Q : V → MH → Prop} (hr : (decide (i < -(2 ^ 63 : Int)) || decide (i ≥ 2 ^ 63)) = false) (hc : (seqIndex? i x.length).bind (x.cps[·]?) = some ch)
    (hs : ∀ t u, subscripted slice false (.str x t) (.int i u) = operate [.str x t, .int i u] (getItem (.str x t) (.int i u))) (h : Q (.str ⟨#[ch]⟩) H) : OP2 VR M d cl ml H (subscriptTail value slice) (.str x) (.int i) Q := by
  intro A base h₀ outer fenv env L m mm s wd Qm x' y' c r1 r2 k
  obtain ⟨_, rfl⟩ := r1.str_i; obtain ⟨_, rfl⟩ := r2.int_i
  exact tail_any (T := "str") rfl PySem.F.slot_str_getitem.lookup (PyProof.Rows.getItem_str hr hc (k _ _ H wd s.heap _ h (Ext.refl _) (.str _ _) (c.tok _))) (hs _ _)
theorem isDict_of {A : Around} {base h₀ : Heap} {outer : List Env} {fenv env : Env} {L : Addr} {m mm : Str → Option Value} {s : Shared} {wd : WD} {l : Loc} {x' : Value} {es : List (Str × V)}
    (c : CX M d A base h₀ outer fenv env L m mm cl ml s wd H) (hc : H.c l = some (.dict es)) (hx : VR M.K wd (.cell l) x') : ∃ a o kvs, x' = .ref a ∧ wd.ρ l false = some a ∧ (a, o) ∈ wd.news ∧ (a == sysModules) = false ∧ o.IsDictOf (PySem.strKind M.prog M.w) kvs ∧ DR M.K wd es kvs ∧ s.heap.DictOf (PySem.strKind M.prog M.w) a kvs := by
  obtain ⟨ax, hl, rfl⟩ := hx.cell_i
  · obtain ⟨a, o, kvs, e1, e2, e3, e4, e5⟩ := c.rel.cells _ _ hc
    obtain rfl := Option.some.inj (hl.symm.trans e1)
    exact ⟨_, o, kvs, rfl, e1, e2, e3, e4, e5, Heap.dictOf_iff.mpr ⟨o, (c.N _ e2).1, e4⟩⟩
theorem OP_item_dict {value slice : Expr} {l : Loc} {es : List (Str × V)} {key : Str} {x : V} {Q : V → MH → Prop} (hc : H.c l = some (.dict es)) (hx : getE es key = some x)
    (hs : ∀ a t, subscripted slice false (.ref a) (.str key t) = operate [.ref a, .str key t] (getItem (.ref a) (.str key t))) (h : Q x H) : OP2 VR M d cl ml H (subscriptTail value slice) (.cell l) (.str key) Q := by
  intro A base h₀ outer fenv env L m mm s wd Qm x' y' c r1 r2 k
  obtain ⟨a, o, kvs, rfl, e1, e2, e3, e4, e5, e6⟩ := isDict_of c hc r1
  obtain ⟨_, rfl⟩ := r2.str_i
  have g := e5.get (k := key)
  rw [hx] at g
  obtain ⟨v, g1, g2⟩ := g
  exact tail_any e6.typeIs slot_dict_getitem.lookup (wpAny_getItem_of (strKind_is M.prog M.w key _) e6.mapOf g1 (k _ _ H wd s.heap _ h (Ext.refl _) g2 (c.tok _))) (hs _ _)
theorem strs_of {w : WD} {ys : List Str} {vs : List Value} (r : VRs M.K w (ys.map .str) vs) : StrsAre vs ys := by
  induction ys generalizing vs with
  | nil => cases r; exact .nil
  | cons y ys ih =>
    cases r with
    | cons a r => cases a; exact .cons _ _ (ih r)
theorem ints_of {w : WD} {ys : List Int} {vs : List Value} (r : VRs M.K w (ys.map .int) vs) : IntsAre vs ys := by
  induction ys generalizing vs with
  | nil => cases r; exact .nil
  | cons y ys ih =>
    cases r with
    | cons a r => cases a; exact .cons _ _ (ih r)
theorem OP_in_strs {ys : List Str} {x : Str} {Q : V → MH → Prop} (h : Q (.bool (ys.any (· == x))) H) : OP2 VR M d cl ml H (compareOp .In) (.str x) (.tup (ys.map .str)) Q := by
  intro A base h₀ outer fenv env L m mm s wd Qm x' y' c r1 r2 k
  obtain ⟨a, vs, rfl, e1, e2, e3⟩ := isTup_of c r2
  obtain ⟨_, rfl⟩ := r1.str_i
  exact in_tuple_strs e2 (strs_of (by simpa using e1)) (k _ _ H wd s.heap s.toks h (Ext.refl _) (.bool _) (c.tok _))
theorem OP_in_ints {l : Loc} {ys : List Int} {i : Int} {Q : V → MH → Prop} (hc : H.c l = some (.list (ys.map .int))) (h : Q (.bool (ys.any (· == i))) H) : OP2 VR M d cl ml H (compareOp .In) (.int i) (.cell l) Q := by
  intro A base h₀ outer fenv env L m mm s wd Qm x' y' c r1 r2 k
  obtain ⟨a, vs, n, rfl, e1, e2, e3, e4, e5⟩ := isList_of c hc r2
  obtain ⟨_, rfl⟩ := r1.int_i
  exact in_list_ints e4 (ints_of e3) (k _ _ H wd s.heap s.toks h (Ext.refl _) (.bool _) (c.tok _))
theorem OP_notin_dict {l : Loc} {es : List (Str × V)} {key : Str} {Q : V → MH → Prop} (hc : H.c l = some (.dict es)) (h : Q (.bool (!(getE es key).isSome)) H) : OP2 VR M d cl ml H (compareOp .NotIn) (.str key) (.cell l) Q := by
  intro A base h₀ outer fenv env L m mm s wd Qm x' y' c r1 r2 k
  obtain ⟨a, o, kvs, rfl, e1, e2, e3, e4, e5, e6⟩ := isDict_of c hc r2
  obtain ⟨_, rfl⟩ := r1.str_i
  have g := e5.get (k := key)
  have e : (valueAt kvs key).isSome = (getE es key).isSome := by
    cases q : getE es key with
    | none => rw [q] at g; rw [g]; rfl
    | some x => rw [q] at g; obtain ⟨v, g1, _⟩ := g; rw [g1]; rfl
  refine wpAny_notIn_of (strKind_is M.prog M.w key _) e3 e6.mapOf ?_
  rw [e]
  exact k _ _ H wd s.heap _ h (Ext.refl _) (.bool _) (c.tok _)
theorem dict_nil_any {prog : Program} {w : World} {o : Obj} (h : o.IsDictOf (PySem.strKind prog w) []) : o.IsDictOf (PySem.intKind prog w) [] := by
  obtain ⟨es, ep, h1, h2, h3, h4, h5⟩ := h
  cases hes : es.toList with
  | nil =>
    refine ⟨es, ep, h1, h2, fun e he => ?_, by rw [hes]; exact .nil, List.nodup_nil⟩
    have : e ∈ es.toList := Array.mem_toList_iff.mpr he
    rw [hes] at this
    cases this
  | cons e r => rw [hes] at h4; cases h4
theorem OP_in_empty {l : Loc} {i : Int} {Q : V → MH → Prop} (hc : H.c l = some (.dict [])) (h : Q (.bool false) H) : OP2 VR M d cl ml H (compareOp .In) (.int i) (.cell l) Q := by
  intro A base h₀ outer fenv env L m mm s wd Qm x' y' c r1 r2 k
  obtain ⟨a, o, kvs, rfl, e1, e2, e3, e4, e5, e6⟩ := isDict_of c hc r2
  obtain ⟨_, rfl⟩ := r1.int_i
  cases e5
  have D := Heap.dictOf_iff.mpr ⟨o, (c.N _ e2).1, dict_nil_any e4⟩
  exact wpAny_in_of (intKind_is M.prog M.w i _) e3 D.mapOf (k _ _ H wd s.heap _ h (Ext.refl _) (.bool _) (c.tok _))
end
section
variable {M : Amb} {d : Nat} {sc : Scope} {cl : List (Str × Loc)} {ml : List (Str × V)} {H : MH}
theorem B_len_list {l : Loc} {xs : List V} {Q : V → MH → Prop} (hc : H.c l = some (.list xs)) (hz : xs.length ≤ 1000) (h : Q (.int xs.length) H) : CALB M d cl ml H (.builtin "len") [.cell l] Q := by
  intro A base h₀ outer fenv env L m mm s wd Qm xs' c r k
  obtain ⟨r1, r2⟩ : ∃ x', xs' = [x'] ∧ VR M.K wd (.cell l) x' := by cases r with | cons a b => cases b; exact ⟨_, rfl, a⟩
  obtain ⟨rfl, r1⟩ := r2
  obtain ⟨a, vs, n, rfl, e1, e2, e3, e4, e5⟩ := isList_of c hc r1
  refine len_list e4 (by rw [List.size_toArray, e5]; omega) ?_
  rw [List.size_toArray, e5]
  exact k _ _ H wd s.heap _ h (Ext.refl _) (.int _ _) (c.tok _)
theorem one_of {w : WD} {x : V} {vs : List Value} (r : VRs M.K w [x] vs) : ∃ x', vs = [x'] ∧ VR M.K w x x' := by cases r with | cons a b => cases b; exact ⟨_, rfl, a⟩
theorem two_of {w : WD} {x y : V} {vs : List Value} (r : VRs M.K w [x, y] vs) : ∃ x' y', vs = [x', y'] ∧ VR M.K w x x' ∧ VR M.K w y y' := by
  cases r with | cons a b => obtain ⟨y', rfl, q⟩ := one_of b; exact ⟨_, _, rfl, a, q⟩
theorem three_of {w : WD} {x y z : V} {vs : List Value} (r : VRs M.K w [x, y, z] vs) : ∃ x' y' z', vs = [x', y', z'] ∧ VR M.K w x x' ∧ VR M.K w y y' ∧ VR M.K w z z' := by
  cases r with | cons a b => obtain ⟨y', z', rfl, q, q2⟩ := two_of b; exact ⟨_, _, _, rfl, a, q, q2⟩
theorem B_len_tup {xs : List V} {Q : V → MH → Prop} (hz : xs.length ≤ 1000) (h : Q (.int xs.length) H) : CALB M d cl ml H (.builtin "len") [.tup xs] Q := by
  intro A base h₀ outer fenv env L m mm s wd Qm xs' c r k
  obtain ⟨x', rfl, r1⟩ := one_of r
  obtain ⟨a, vs, rfl, e1, e2, e3⟩ := isTup_of c r1
  refine PyProof.Rows.len_tuple e2 (by rw [List.size_toArray, e3]; omega) ?_
  rw [List.size_toArray, e3]
  exact k _ _ H wd s.heap _ h (Ext.refl _) (.int _ _) (c.tok _)
noncomputable def V.strB : V → Option Bool
  | .str _ => some true
  | .tup _ => some false
  | .cell _ => some false
  | _ => Option.none
theorem B_isstr {x : V} {b : Bool} {Q : V → MH → Prop} (hb : x.strB = some b) (hl : ∀ l, x = .cell l → ∃ xs, H.c l = some (.list xs)) (h : Q (.bool b) H) : CALB M d cl ml H (.builtin "isinstance") [x, .ty "str"] Q := by
  intro A base h₀ outer fenv env L m mm s wd Qm xs' c r k
  obtain ⟨x', y', rfl, r1, r2⟩ := two_of r
  obtain rfl := r2.ty_i
  cases x with
  | str z => cases hb; obtain ⟨_, rfl⟩ := r1.str_i; exact IsiPair.str_str (k _ _ H wd s.heap _ h (Ext.refl _) (.bool _) (c.tok _))
  | tup xs =>
    cases hb
    obtain ⟨a, vs, rfl, e1, ⟨o, e2, e3, _⟩, _⟩ := isTup_of c r1
    exact IsiPair.tuple_str e2 e3 (k _ _ H wd s.heap _ h (Ext.refl _) (.bool _) (c.tok _))
  | cell l =>
    cases hb
    obtain ⟨xs, hc⟩ := hl l rfl
    obtain ⟨a, vs, n, rfl, e1, e2, e3, ⟨o, e4, e5, _⟩, _⟩ := isList_of c hc r1
    exact IsiPair.list_str e4 e5 (k _ _ H wd s.heap _ h (Ext.refl _) (.bool _) (c.tok _))
  | _ => cases hb
theorem new_list {A : Around} {base h₀ : Heap} {outer : List Env} {fenv env : Env} {L : Addr} {m mm : Str → Option Value} {s : Shared} {wd : WD} {l : Loc} {xs : List V} {vs : List Value} {a : Addr} {n : Nat} {h' : Heap} {tk : Tok}
    (c : CX M d A base h₀ outer fenv env L m mm cl ml s wd H) (hf : H.free l) (r : VRs M.K wd xs vs) (F : Fr h₀ L h' m) (N : News h₀ L h' ((a, listOf vs.toArray n) :: wd.news)) (hn : ∀ p ∈ wd.news, p.1 < a) :
    Ext M.pu wd ((wd.more a (listOf vs.toArray n)).name l false a) ∧ VR M.K ((wd.more a (listOf vs.toArray n)).name l false a) (.cell l) (.ref a) ∧
      CX M d A base h₀ outer fenv env L m mm cl ml { s with heap := h', toks := tk } ((wd.more a (listOf vs.toArray n)).name l false a) (H.add l (.list xs)) := by
  have nk := fresh_of hn
  have E : Ext M.pu wd ((wd.more a (listOf vs.toArray n)).name l false a) := Ext.name (c.rel.free l false hf) nk
  exact ⟨E, .cell (name_at ..), c.go F N E (c.rel.name hf nk ⟨a, vs, n, name_at .., .head _, r.ext _ E⟩)⟩
theorem B_list_copy {l : Loc} {xs : List V} {Q : V → MH → Prop} (hf : H.free l) (hz : xs.length ≤ 1000) (h : Q (.cell l) (H.add l (.list xs))) : CALB M d cl ml H (.type "list") [.tup xs] Q := by
  intro A base h₀ outer fenv env L m mm s wd Qm xs' c r k
  obtain ⟨x', rfl, r1⟩ := one_of r
  obtain ⟨a, vs, rfl, e1, e2, e3⟩ := isTup_of c r1
  refine list_copyKT c.F c.N e2 (fun D n h' F' N' hn => ?_) (by rw [List.size_toArray, e3]; exact Nat.le_trans hz (by decide))
  obtain ⟨E, R, C⟩ := new_list (tk := s.toks) c hf e1 F' N' hn
  exact k _ _ _ _ h' s.toks h E R C
theorem B_str_int {i : Int} {Q : V → MH → Prop} (hz : i.natAbs < 10 ^ 10) (h : Q (.str (Str.ofString (toString i))) H) : CALB M d cl ml H (.type "str") [.int i] Q := by
  intro A base h₀ outer fenv env L m mm s wd Qm xs' c r k
  obtain ⟨x', rfl, r1⟩ := one_of r
  obtain ⟨_, rfl⟩ := r1.int_i
  have nd : s.heap.NoDigits := by
    obtain ⟨mc, h1, h2⟩ := c.T.nodigits
    exact ⟨mc, h1.keeps c.F.keep, h2⟩
  have hlt : i.natAbs < 10 ^ 4300 := Nat.lt_of_lt_of_le hz (Nat.pow_le_pow_right (by decide) (by decide))
  refine str_of_int_or c.hh nd (fun _ => k _ _ H wd s.heap _ h (Ext.refl _) (.str _ _) (c.tok _)) fun hge => ?_
  exact absurd hlt (Nat.not_lt.mpr hge)
theorem set_list (hpu : M.pu = false) {A : Around} {base h₀ : Heap} {outer : List Env} {fenv env : Env} {L : Addr} {m mm : Str → Option Value} {s : Shared} {wd : WD} {l : Loc} {xs ys : List V} {vs us : List Value} {a : Addr} {n n' : Nat}
    (c : CX M d A base h₀ outer fenv env L m mm cl ml s wd H) (_hc : H.c l = some (.list xs)) (hl : wd.ρ l false = some a) (hm : (a, listOf vs.toArray n) ∈ wd.news) (r : VRs M.K wd ys us) :
    ∃ news', Upd a (listOf vs.toArray n) (listOf us.toArray n') wd.news news' ∧ Ext M.pu wd ⟨wd.ρ, news'⟩ ∧ Rel M.K M.prog M.w ⟨wd.ρ, news'⟩ (H.put l (.list ys)) :=
  Rel.set hpu c.rel hl hm fun news' h1 _ E => ⟨a, us, n', hl, h1, r.ext _ E⟩
theorem B_append (hpu : M.pu = false) {l : Loc} {xs : List V} {x : V} {Q : V → MH → Prop} (hc : H.c l = some (.list xs)) (hz : xs.length ≤ 1000) (h : Q .none (H.put l (.list (xs ++ [x])))) : CALB M d cl ml H (.builtin "list.append") [.cell l, x] Q := by
  intro A base h₀ outer fenv env L m mm s wd Qm xs' c r k
  obtain ⟨x', y', rfl, r1, r2⟩ := two_of r
  obtain ⟨a, vs, n, rfl, e1, e2, e3, e4, e5⟩ := isList_of c hc r1
  obtain ⟨news', U, E, R⟩ := set_list hpu (n' := n + 1) c hc e1 e2 (e3.append _ (.cons r2 .nil))
  refine append_K c.F c.N (its := vs.toArray) (x := y') (by rw [List.push_toArray]; exact U) (fun h' F' N' => k _ _ _ ⟨wd.ρ, news'⟩ h' s.toks h E .none (c.go F' N' E R)) (by rw [List.size_toArray, e5]; exact Nat.le_trans hz (by decide))
theorem kl_last_append (y : Value) : ∀ p : List Value, kl_last (p ++ [y]) = some (p, y)
  | [] => rfl
  | z :: r => by
    show (match kl_last (r ++ [y]) with | some (p, y') => some (z :: p, y') | none => some ([], z)) = _
    rw [kl_last_append y r]
theorem VRs.unsnoc {w : WD} {x : V} {xs : List V} {vs : List Value} (r : VRs M.K w (xs ++ [x]) vs) : ∃ us v, vs = us ++ [v] ∧ VRs M.K w xs us ∧ VR M.K w x v := by
  induction xs generalizing vs with
  | nil => obtain ⟨v, rfl, q⟩ := one_of r; exact ⟨[], v, rfl, .nil, q⟩
  | cons y ys ih =>
    cases r with
    | cons a b => obtain ⟨us, v, rfl, q1, q2⟩ := ih b; exact ⟨_ :: us, v, rfl, .cons a q1, q2⟩
theorem B_pop (hpu : M.pu = false) {l : Loc} {xs : List V} {x : V} {Q : V → MH → Prop} (hc : H.c l = some (.list (xs ++ [x]))) (hz : xs.length ≤ 1000) (h : Q x (H.put l (.list xs))) : CALB M d cl ml H (.builtin "list.pop") [.cell l] Q := by
  intro A base h₀ outer fenv env L m mm s wd Qm xs' c r k
  obtain ⟨x', rfl, r1⟩ := one_of r
  obtain ⟨a, vs, n, rfl, e1, e2, e3, e4, e5⟩ := isList_of c hc r1
  obtain ⟨us, v, rfl, q1, q2⟩ := e3.unsnoc
  obtain ⟨news', U, E, R⟩ := set_list hpu (n' := n + 1) c hc e1 e2 q1
  refine kl_pop c.F c.N (its := (us ++ [v]).toArray) (p := us) (y := v) (kl_last_append v us) U ?_ fun h' F' N' => k _ _ _ ⟨wd.ρ, news'⟩ h' s.toks h E (q2.ext _ E) (c.go F' N' E R)
  have := q1.length
  show (us ++ [v]).length ≤ sizeLine
  rw [List.length_append, this]
  exact Nat.le_trans (Nat.add_le_add_right hz 1) (by decide)
theorem B_insert_end (hpu : M.pu = false) {l : Loc} {xs : List V} {x : V} {i : Int} {Q : V → MH → Prop} (hc : H.c l = some (.list xs)) (hz : xs.length ≤ 1000) (hi : i = xs.length) (h : Q .none (H.put l (.list (xs ++ [x])))) : CALB M d cl ml H (.builtin "list.insert") [.cell l, .int i, x] Q := by
  intro A base h₀ outer fenv env L m mm s wd Qm xs' c r k
  obtain ⟨x', y', z', rfl, r1, r2, r3⟩ := three_of r
  obtain ⟨a, vs, n, rfl, e1, e2, e3, e4, e5⟩ := isList_of c hc r1
  obtain ⟨_, rfl⟩ := r2.int_i
  obtain ⟨news', U, E, R⟩ := set_list hpu (n' := n + 1) c hc e1 e2 (e3.append _ (.cons r3 .nil))
  refine kl_insert c.F c.N (its := vs.toArray) (l := vs ++ [z']) ?_ ?_ U (by show vs.length ≤ sizeLine; rw [e5]; exact Nat.le_trans hz (by decide)) fun h' F' N' => k _ _ _ ⟨wd.ρ, news'⟩ h' s.toks h E .none (c.go F' N' E R)
  · exact fitsIndex_of (by omega) (by omega)
  · show kl_ins vs i z' = _
    unfold kl_ins
    have h1 : ¬ i < 0 := by omega
    rw [if_neg h1]
    have h2 : min i.toNat vs.length = vs.length := by omega
    rw [h2, List.take_length, List.drop_length]
theorem VRs.set {w : WD} {x : V} {x' : Value} (r3 : VR M.K w x x') : ∀ {xs : List V} {vs : List Value} (j : Nat), VRs M.K w xs vs → VRs M.K w (xs.set j x) (vs.set j x') := by
  intro xs vs j h
  refine VRs.ind M.K (P := fun xs vs => ∀ j, VRs M.K w (xs.set j x) (vs.set j x')) (fun j => .nil) (fun a r ih j => ?_) h j
  cases j with
  | zero => exact .cons r3 r
  | succ j => exact .cons a (ih j)
theorem OP_setitem (hpu : M.pu = false) {l : Loc} {xs : List V} {i : Int} {x : V} (hc : H.c l = some (.list xs)) (h0 : 0 ≤ i) (h1 : i < xs.length) (hz : xs.length ≤ 1000) {A : Around} {base h₀ : Heap} {outer : List Env} {fenv env : Env} {L : Addr} {m mm : Str → Option Value} {s : Shared} {wd : WD} {Qm : Unit → Shared → Prop} {o' i' x' : Value}
    (c : CX M d A base h₀ outer fenv env L m mm cl ml s wd H) (r1 : VR M.K wd (.cell l) o') (r2 : VR M.K wd (.int i) i') (r3 : VR M.K wd x x')
    (k : ∀ wd' h' tk', Ext M.pu wd wd' → CX M d A base h₀ outer fenv env L m mm cl ml { s with heap := h', toks := tk' } wd' (H.put l (.list (xs.set i.toNat x))) → Qm () { s with heap := h', toks := tk' }) :
    wpAny (model M.prog M.w) A (setItem o' i' x') Qm (fun _ _ => False) s := by
  obtain ⟨a, vs, n, rfl, e1, e2, e3, e4, e5⟩ := isList_of c hc r1
  obtain ⟨_, rfl⟩ := r2.int_i
  have rs : VRs M.K wd (xs.set i.toNat x) (vs.set i.toNat x') := e3.set r3 _
  obtain ⟨news', U, E, R⟩ := set_list hpu (n' := n) c hc e1 e2 rs
  obtain ⟨pre, post, hw, rfl, p1, p2⟩ := U.split
  have z := c.N _ e2
  refine ki_setAt z.1 h0 (by omega) (by rw [List.size_toArray, e5]; omega) (k ⟨wd.ρ, _⟩ _ s.toks E (c.go (c.F.change (Heap.SameBut.update ..) z.2.1 z.2.2) ?_ E R))
  have N := c.N
  rw [hw] at N
  refine ki_turn _ N p1 p2 ?_ ?_
  · show vs.toArray.setIfInBounds i.toNat x' = (vs.set i.toNat x').toArray
    apply Array.toList_inj.mp
    simp
  · simp
end
section
variable {prog : Program} {w : World} {A : Around} {E : Value → Shared → Prop} {s : Shared}
theorem store_last {l : Addr} {vs : List Value} {n : Nat} {t : Tok} {v : Value} {Q : Unit → Shared → Prop} (ho : s.heap.get? l = some (listOf vs.toArray n)) (h1 : 1 ≤ vs.length)
    (hQ : Q () { s with heap := s.heap.update l (Obj.mapSeq (·.setIfInBounds (vs.length - 1) v)) }) : wpAny (model prog w) A (setItem (.ref l) (.int (-1) t) v) Q E s := by
  have hl : s.heap.IsList l vs.toArray := ⟨_, ho, rfl, n, rfl⟩
  unfold setItem
  try with_reducible refine wpAny_holding ?_
  first | refine wpAny_bind (wpAny_pure ?_) | skip
  refine wpAny_bind (wpAny_sequenceKey hl.typeIs (by decide) ?_)
  refine wpAny_bind (wpAny_callSpecial?_slot (name := Str.ofString "__setitem__") hl.typeIs PySem.slot_list_setitem
    (wpAny_call_entry PySem.slot_list_setitem hl.typeIs PySem.entry_list_setitem ?_ (PySem.args_list_setitem _ _ _)))
  show wpAny _ _ (Builtin.List.listSubscript? (.int (-1) t) >>= _) _ _ s
  refine wpAny_bind (wpAny_listSubscript_int (fitsIndex_neg (by decide) (by decide)) ?_)
  show wpAny _ _ ((Builtin.List.listItems (.ref l) >>= fun xs => pure ((seqIndex? (Int.negSucc 0) xs.size).bind fun i => xs[i]?.map (i, ·))) >>= _) _ _ s
  refine wpAny_bind (wpAny_bind ?_)
  show wpAny _ _ (seqItems? (.ref l) >>= _) _ _ s
  refine wpAny_bind (wpAny_seqItems ho rfl (wpAny_pure (wpAny_pure ?_)))
  have hidx : seqIndex? (Int.negSucc 0) vs.toArray.size = some (vs.length - 1) := by
    rw [seqIndex_neg (by decide) (by rw [List.size_toArray]; show -(vs.length : Int) ≤ -1; omega)]
    congr 1
    rw [List.size_toArray]
    show ((-1 : Int) + vs.length).toNat = _
    omega
  have hx : vs.toArray[vs.length - 1]? = some (vs[vs.length - 1]'(by omega)) := by simp
  rw [hidx]
  simp only [Option.bind_some, hx, Option.map_some]
  show wpAny _ _ (setSeqItemAt l (vs.length - 1) v >>= _) _ _ s
  refine wpAny_bind (wpAny_setSeqItemAt ho rfl ?_)
  first
    | exact wpAny_bind (wpAny_pure (wpAny_pure ⟨.none, rfl, wpAny_pure hQ⟩))
    | exact wpAny_pure ⟨.none, rfl, wpAny_pure hQ⟩
theorem applied_two {sl : Addr} {n : Nat} {u : Tok} {Q : Int × Int × Nat → Shared → Prop} (hs : s.heap.IsSliceOf sl .none (.int 2 u) .none) (h : Q (0, 1, min 2 n) s) :
    wpAny (model prog w) A (Builtin.Slice.sliceApplied (.ref sl) (pure (n : Int))) Q E s := by
  obtain ⟨os, hos, hcs, hds⟩ := id hs
  unfold Builtin.Slice.sliceApplied Builtin.Slice.sliceFields
  refine wpAny_bind (wpAny_bind (wpAny_field hos hds (x := .none) rfl (wpAny_bind (wpAny_field hos hds (x := .int 2 u) rfl (wpAny_bind (wpAny_field hos hds (x := .none) rfl (wpAny_pure ?_)))))))
  refine wpAny_bind (slicePart_none ?_)
  show wpAny _ _ (if ((1 : Int) == 0) = true then _ else _) _ _ s
  rw [if_neg (by decide)]
  refine wpAny_bind (slicePart_none (wpAny_bind (slicePart_int (wpAny_bind (wpAny_pure ?_)))))
  have e1 : Builtin.Slice.sliceAdjust none (some (2 : Int)) 1 (n : Int) = (0, ((min 2 n : Nat) : Int)) := by
    unfold Builtin.Slice.sliceAdjust
    have h1 : ¬ ((1 : Int) < 0) := by omega
    have h2 : ¬ ((2 : Int) < 0) := by omega
    simp only [h1, h2, if_false]
    congr 1
    omega
  have e2 : Builtin.Slice.slicePlaces (0 : Int) ((min 2 n : Nat) : Int) 1 = min 2 n := by
    unfold Builtin.Slice.slicePlaces
    have h1 : (1 : Int) > 0 := by omega
    simp only [h1, if_true, Int.ediv_one]
    split <;> omega
  show wpAny _ _ (match Builtin.Slice.sliceAdjust none (some (2 : Int)) 1 (n : Int) with | (lo, hi) => pure (lo, (1 : Int), Builtin.Slice.slicePlaces lo hi 1)) _ _ s
  rw [e1]
  show wpAny _ _ (pure ((0 : Int), (1 : Int), Builtin.Slice.slicePlaces (0 : Int) ((min 2 n : Nat) : Int) 1)) _ _ s
  rw [e2]
  exact wpAny_pure h
theorem getItem_two {t sl : Addr} {vs : List Value} {u : Tok} {Q : Value → Shared → Prop} (ht : IsTup s.heap t vs.toArray) (hs : s.heap.IsSliceOf sl .none (.int 2 u) .none)
    (h : if vs.length ≤ 2 then Q (.ref t) s else Q (.ref s.heap.objs.size) { s with heap := s.heap.push (tupObj (vs.take 2)) }) : wpAny (model prog w) A (getItem (.ref t) (.ref sl)) Q E s := by
  obtain ⟨os, hos, hcs, hds⟩ := id hs
  have hTs : s.TypeIs (.ref sl) "slice" := ⟨os, hos, hcs⟩
  unfold getItem
  try with_reducible refine wpAny_holding ?_
  first | refine wpAny_bind (wpAny_pure ?_) | skip
  refine wpAny_bind (wpAny_sequenceKey ht.typeIs (by decide) ?_)
  refine wpAny_bind (wpAny_callSpecial?_slot (name := Str.ofString "__getitem__") ht.typeIs PyProof.Rows.slot_tuple_getitem
    (wpAny_call_entry PyProof.Rows.slot_tuple_getitem ht.typeIs PyProof.Rows.entry_tuple_getitem ?_ (PyProof.Rows.args_tuple_getitem _ _)))
  show wpAny _ _ (Builtin.Tuple.tupleItemsOf (.ref t) >>= _) _ _ s
  refine wpAny_bind (tupleItemsOf_ ht ?_)
  refine wpAny_bind (wpAny_typeOf hTs ?_)
  rw [if_pos (by decide)]
  refine wpAny_bind (applied_two hs ?_)
  show wpAny _ _ (if ((0 : Int) == 0 && (1 : Int) == 1 && (min 2 vs.toArray.size) == vs.toArray.size) = true then _ else _) _ _ s
  by_cases q : vs.length ≤ 2
  · have e : (((0 : Int) == 0 && (1 : Int) == 1 && (min 2 vs.toArray.size) == vs.toArray.size) = true) := by
      have : min 2 vs.length = vs.length := by omega
      simp [this]
    rw [if_pos e]
    rw [if_pos q] at h
    refine wpAny_bind (m := Builtin.Tuple.tupleIsExact _) (wpAny_bind (wpAny_typeOf ht.typeIs (wpAny_pure ?_)))
    rw [if_pos (by decide)]
    first
      | exact wpAny_bind (wpAny_rule (wpAny_bind (wpAny_pure (wpAny_pure ⟨_, rfl, wpAny_pure h⟩))))
      | exact wpAny_bind (wpAny_rule (wpAny_pure ⟨_, rfl, wpAny_pure h⟩))
  · have e : ¬ (((0 : Int) == 0 && (1 : Int) == 1 && (min 2 vs.toArray.size) == vs.toArray.size) = true) := by
      have : min 2 vs.toArray.size = 2 := by rw [List.size_toArray]; omega
      have h2 : vs.toArray.size ≠ 2 := by rw [List.size_toArray]; omega
      rw [this]
      simp
      exact fun z => h2 (by rw [List.size_toArray]; exact z.symm)
    rw [if_neg e]
    rw [if_neg q] at h
    have hp : ((List.range (min 2 vs.toArray.size)).filterMap fun (k : Nat) => vs.toArray[((0 : Int) + (k : Int) * 1).toNat]?).toArray = (vs.take 2).toArray := by
      have : min 2 vs.toArray.size = 2 := by rw [List.size_toArray]; omega
      rw [this]
      match vs, q with
      | a :: b :: r, _ => rfl
      | [a], q => exact absurd (by simp) q
      | [], q => exact absurd (by simp) q
    rw [hp]
    have hz : sizeOk (.seq (vs.take 2).toArray) := by
      show (vs.take 2).toArray.size ≤ sizeLine
      rw [List.size_toArray, List.length_take]
      exact Nat.le_trans (Nat.min_le_left _ _) (by decide)
    first
      | exact wpAny_bind (m := Builtin.Tuple.tupleExact _) (wpAny_newObj_type (wpAny_pure ⟨_, rfl, wpAny_pure h⟩) hz)
      | exact wpAny_bind (m := Builtin.Tuple.tupleExact _) (wpAny_newObj_type (wpAny_bind (wpAny_pure (wpAny_pure ⟨_, rfl, wpAny_pure h⟩))) hz)
      | exact wpAny_bind (wpAny_bind (m := Builtin.Tuple.tupleExact _) (wpAny_newObj_type (wpAny_pure (wpAny_pure ⟨_, rfl, wpAny_pure h⟩)) hz))
      | exact wpAny_bind (wpAny_bind (m := Builtin.Tuple.tupleExact _) (wpAny_newObj_type (wpAny_pure ⟨_, rfl, wpAny_pure h⟩) hz))
end
section
variable {M : Amb} {d : Nat} {sc : Scope} {cl : List (Str × Loc)} {ml : List (Str × V)} {H : MH}
theorem OP_setlast (hpu : M.pu = false) {l : Loc} {xs : List V} {x y : V} (hc : H.c l = some (.list (xs ++ [y]))) {A : Around} {base h₀ : Heap} {outer : List Env} {fenv env : Env} {L : Addr} {m mm : Str → Option Value} {s : Shared} {wd : WD} {Qm : Unit → Shared → Prop} {o' i' x' : Value}
    (c : CX M d A base h₀ outer fenv env L m mm cl ml s wd H) (r1 : VR M.K wd (.cell l) o') (r2 : VR M.K wd (.int (-1)) i') (r3 : VR M.K wd x x')
    (k : ∀ wd' h' tk', Ext M.pu wd wd' → CX M d A base h₀ outer fenv env L m mm cl ml { s with heap := h', toks := tk' } wd' (H.put l (.list (xs ++ [x]))) → Qm () { s with heap := h', toks := tk' }) :
    wpAny (model M.prog M.w) A (setItem o' i' x') Qm (fun _ _ => False) s := by
  obtain ⟨a, vs, n, rfl, e1, e2, e3, e4, e5⟩ := isList_of c hc r1
  obtain ⟨_, rfl⟩ := r2.int_i
  obtain ⟨us, v, rfl, q1, q2⟩ := e3.unsnoc
  obtain ⟨news', U, E, R⟩ := set_list hpu (n' := n) c hc e1 e2 (q1.append _ (.cons r3 .nil))
  obtain ⟨pre, post, hw, rfl, p1, p2⟩ := U.split
  have z := c.N _ e2
  refine store_last z.1 (by simp) (k ⟨wd.ρ, _⟩ _ s.toks E (c.go (c.F.change (Heap.SameBut.update ..) z.2.1 z.2.2) ?_ E R))
  have N := c.N
  rw [hw] at N
  refine ki_turn _ N p1 p2 ?_ ?_
  · show (us ++ [v]).toArray.setIfInBounds ((us ++ [v]).length - 1) x' = (us ++ [x']).toArray
    apply Array.toList_inj.mp
    simp
  · simp
theorem OP_setdict (hpu : M.pu = false) {l : Loc} {es : List (Str × V)} {key : Str} {x : V} (hc : H.c l = some (.dict es)) (hz : es.length ≤ 1000) {A : Around} {base h₀ : Heap} {outer : List Env} {fenv env : Env} {L : Addr} {m mm : Str → Option Value} {s : Shared} {wd : WD} {Qm : Unit → Shared → Prop} {o' i' x' : Value}
    (c : CX M d A base h₀ outer fenv env L m mm cl ml s wd H) (r1 : VR M.K wd (.cell l) o') (r2 : VR M.K wd (.str key) i') (r3 : VR M.K wd x x')
    (k : ∀ wd' h' tk', Ext M.pu wd wd' → CX M d A base h₀ outer fenv env L m mm cl ml { s with heap := h', toks := tk' } wd' (H.put l (.dict (putE es key x))) → Qm () { s with heap := h', toks := tk' }) :
    wpAny (model M.prog M.w) A (setItem o' i' x') Qm (fun _ _ => False) s := by
  obtain ⟨a, o, kvs, rfl, e1, e2, e3, e4, e5, e6⟩ := isDict_of c hc r1
  obtain ⟨_, rfl⟩ := r2.str_i
  obtain ⟨g, U, hg⟩ := Rel.setF hpu c.rel e1 e2
  refine kda_set c.F c.N U e4 (strKind_is M.prog M.w key _) (by rw [e5.length]; exact Nat.le_trans hz (by decide)) fun h' o' F' N' hd' => ?_
  obtain ⟨E, R⟩ := hg o' (.dict (putE es key x)) fun news' h1 _ E => ⟨a, o', _, e1, h1, e3, hd', (e5.ext _ E.vex).put _ (r3.ext _ E)⟩
  exact k ⟨wd.ρ, g o'⟩ h' _ E (c.go F' N' E R)
theorem B_get2 {l : Loc} {es : List (Str × V)} {key : Str} {x : V} {Q : V → MH → Prop} (hc : H.c l = some (.dict es)) (h : Q ((getE es key).getD x) H) : CALB M d cl ml H (.builtin "dict.get") [.cell l, .str key, x] Q := by
  intro A base h₀ outer fenv env L m mm s wd Qm xs' c r k
  obtain ⟨x', y', z', rfl, r1, r2, r3⟩ := three_of r
  obtain ⟨a, o, kvs, rfl, e1, e2, e3, e4, e5, e6⟩ := isDict_of c hc r1
  obtain ⟨_, rfl⟩ := r2.str_i
  have g := e5.get (k := key)
  have hv : VR M.K wd ((getE es key).getD x) ((valueAt kvs key).getD z') := by
    cases q : getE es key with
    | none => rw [q] at g; rw [g]; exact r3
    | some y => rw [q] at g; obtain ⟨v, g1, g2⟩ := g; rw [g1]; exact g2
  exact call_meetsIn PySem.F.slot_dict_get e6.typeIs PySem.F.entry_dict_get (PySem.F.args_dict_get_3 _ _ _) (meets_dict_get_default (PySem.strKind M.prog M.w) a (strKind_is M.prog M.w key _) e3 z')
    ⟨_, e6.mapOf, k _ _ H wd s.heap _ h (Ext.refl _) hv (c.tok _)⟩
theorem vrs_strs {w : WD} : ∀ l : List (Str × Tok), VRs M.K w ((l.map (·.1)).map .str) (strValues l)
  | [] => .nil
  | (y, t) :: r => .cons (.str y t) (vrs_strs r)
theorem B_split {x : Str} {ys : List Str} {l : Loc} {Q : V → MH → Prop} (hz : x.length ≤ 1000) (hw : Txt.words x = ys) (hf : H.free l) (h : Q (.cell l) (H.add l (.list (ys.map .str)))) : CALB M d cl ml H (.builtin "str.split") [.str x] Q := by
  intro A base h₀ outer fenv env L m mm s wd Qm xs' c r k
  obtain ⟨x', rfl, r1⟩ := one_of r
  obtain ⟨_, rfl⟩ := r1.str_i
  refine splitN0 c.F c.N (fun p h' tk e F' N' => ?_) (Nat.le_trans (Nat.add_le_add_right hz 2) (by decide))
  have r := vrs_strs (M := M) (w := wd) p
  rw [e, hw] at r
  obtain ⟨E, R, C⟩ := new_list (tk := tk) (n := 0) c hf r F' N' fun p hp => Heap.lt_size (c.N p hp).1
  exact k _ _ _ _ h' tk h E R C
theorem OP_cat {l l₁ l₂ : Loc} {xs ys : List V} {Q : V → MH → Prop} (h1 : H.c l₁ = some (.list xs)) (h2 : H.c l₂ = some (.list ys)) (hf : H.free l) (hz : xs.length + ys.length ≤ 1000) (h : Q (.cell l) (H.add l (.list (xs ++ ys)))) :
    OP2 VR M d cl ml H (binaryOp .Add) (.cell l₁) (.cell l₂) Q := by
  intro A base h₀ outer fenv env L m mm s wd Qm x' y' c r1 r2 k
  obtain ⟨a, vs, n, rfl, e1, e2, e3, e4, e5⟩ := isList_of c h1 r1
  obtain ⟨b, us, n', rfl, f1, f2, f3, f4, f5⟩ := isList_of c h2 r2
  refine add_arrays c.F c.N e4 f4 (fun h' F' N' => ?_) (by rw [List.size_toArray, List.size_toArray, e5, f5]; exact Nat.le_trans hz (by decide))
  obtain ⟨E, R, C⟩ := new_list (tk := s.toks) (n := 0) c hf (e3.append _ f3) F' N' fun p hp => Heap.lt_size (c.N p hp).1
  exact k _ _ _ _ h' _ h E R C
theorem TE_list {es : List Expr} {pos : Pos} {l : Loc} {Q : V → MH → Prop} (ha : ∀ env, starEach es env = argTrees es env)
    (h : TEs M d sc cl ml H es fun vs H1 => vs.length ≤ 1000 ∧ H1.free l ∧ Q (.cell l) (H1.add l (.list vs))) : TE M d sc cl ml H (.List es pos) Q := by
  intro A base h₀ outer fenv env L m mm s wd Qm hs c k
  refine List_ ?_
  rw [ha, back_args]
  refine h hs c fun a a' H1 w1 h1 t1 q1 x1 r1 c1 => ?_
  refine newList_K c1.F c1.N (fun D h' F' N' hn => ?_) (by rw [r1.length]; exact Nat.le_trans q1.1 (by decide))
  obtain ⟨E, R, C⟩ := new_list (tk := t1) (n := 0) c1 q1.2.1 r1 F' N' hn
  exact k _ _ _ _ h' t1 q1.2.2 (x1.trans E) R C
theorem TE_two {value upper : Expr} {p pos : Pos} {Q : V → MH → Prop} (ht : ∀ o r, letTemporaryGo value o r = pure ())
    (h : TE M d sc cl ml H value fun o H1 => TE M d sc cl ml H1 upper fun i H2 => ∃ xs, o = .tup xs ∧ i = .int 2 ∧ Q (.tup (xs.take 2)) H2) :
    TE M d sc cl ml H (.Subscript value (.Slice none (some upper) none p) pos) Q := by
  intro A base h₀ outer fenv env L m mm s wd Qm hs c k
  refine wpAny_Subscript_Slice (T := "tuple") PyProof.Rows.slot_tuple_getitem.lookup (h hs c fun o o' H1 w1 h1 t1 q1 x1 r1 c1 => wpAny_Slice (evalPart_none_step (evalPart_some_step (q1 hs c1 fun i i' H2 w2 h2 t2 q2 x2 r2 c2 => ?_)))) ht
  obtain ⟨xs, rfl, rfl, hq⟩ := q2
  obtain ⟨a, vs, rfl, e1, e2, e3⟩ := isTup_of c2 (r1.ext _ x2)
  obtain ⟨t9, rfl⟩ : ∃ t, i' = .int 2 t := r2.int_i
  rw [evalPart_none]
  refine wpAny_pure ?_
  have F2 := c2.F.push { cls := .type "slice", data := .fields #[Value.none, Value.int 2 t9, Value.none] }
  have N2 := c2.N.grown (h' := h2.push { cls := .type "slice", data := .fields #[Value.none, Value.int 2 t9, Value.none] }) fun _ _ e => Heap.get?_push_of_some _ e
  have T2 := e2.keeps (h' := h2.push { cls := .type "slice", data := .fields #[Value.none, Value.int 2 t9, Value.none] }) fun _ _ e => Heap.get?_push_of_some _ e
  refine ⟨T2.typeIs, getItem_two T2 (Heap.IsSliceOf.new ..) ?_⟩
  split
  · rename_i q
    have e : xs.take 2 = xs := List.take_of_length_le (by rw [← e3]; exact q)
    rw [e] at hq
    exact k _ _ H2 w2 _ t2 hq (x1.trans x2) (r1.ext _ x2) (c2.go F2 N2 (Ext.refl _) c2.rel)
  · have N3 := News.push F2 N2 (tupObj (vs.take 2))
    have nk : (h2.push { cls := .type "slice", data := .fields #[Value.none, Value.int 2 t9, Value.none] }).objs.size ∉ w2.keys := fresh_of fun p hp => Heap.lt_size (N2 p hp).1
    refine k _ _ H2 (w2.more _ (tupObj (vs.take 2))) _ t2 hq ((x1.trans x2).trans (.more _ _ _)) (.tup (.head _) ?_ ((e1.take _ 2).ext _ (Ext.more (pu := M.pu) _ _ _))) (c2.go (F2.push _) N3 (.more _ _ _) (c2.rel.more _ nk))
    rintro ⟨l, b, hb⟩
    exact nk (c2.rel.dom l b _ hb)
end
inductive FV where
  | next | brk | cont
  | ret (v : V)
inductive FR (K : Frag) (w : WD) : FV → Flow → Prop
  | next : FR K w .next .next
  | brk : FR K w .brk .brk
  | cont : FR K w .cont .cont
  | ret {v : V} {v' : Value} : VR K w v v' → FR K w (.ret v) (.ret v')
noncomputable def TX (M : Amb) (d : Nat) (sc : Scope) (cl : List (Str × Loc)) (ml : List (Str × V)) (H : MH) (t : Env → Sem Flow) (Q : FV → List (Str × V) → MH → Prop) : Prop :=
  ∀ ⦃A : Around⦄ ⦃base h₀ : Heap⦄ ⦃outer : List Env⦄ ⦃env : Env⦄ ⦃L : Addr⦄ ⦃m : Str → Option Value⦄ ⦃s : Shared⦄ ⦃wd : WD⦄ ⦃Qm : Flow → Shared → Prop⦄,
    env.scope = sc → env.locals = L → CX M d A base h₀ outer env env L m m cl ml s wd H →
    (∀ f f' ml' H' wd' h' tk' m', Q f ml' H' → Ext M.pu wd wd' → FR M.K wd' f f' → CX M d A base h₀ outer env env L m' m' cl ml' { s with heap := h', toks := tk' } wd' H' → Qm f' { s with heap := h', toks := tk' }) →
    wpAny (model M.prog M.w) A (t env) Qm (fun _ _ => False) s
noncomputable abbrev TS (M : Amb) (d : Nat) (sc : Scope) (cl : List (Str × Loc)) (ml : List (Str × V)) (H : MH) (b : List Stmt) (Q : FV → List (Str × V) → MH → Prop) : Prop := TX M d sc cl ml H (execs b) Q
noncomputable abbrev T1 (M : Amb) (d : Nat) (sc : Scope) (cl : List (Str × Loc)) (ml : List (Str × V)) (H : MH) (b : Stmt) (Q : FV → List (Str × V) → MH → Prop) : Prop := TX M d sc cl ml H (exec b) Q
section
variable {M : Amb} {d : Nat} {sc : Scope} {cl : List (Str × Loc)} {ml : List (Str × V)} {H : MH}
theorem TX.mono {t : Env → Sem Flow} {Q Q' : FV → List (Str × V) → MH → Prop} (h : TX M d sc cl ml H t Q) (hq : ∀ f ml' H', Q f ml' H' → Q' f ml' H') : TX M d sc cl ml H t Q' := by
  intro A base h₀ outer env L m s wd Qm hs hl c k
  exact h hs hl c fun f f' ml' H' wd' h' tk' m' q => k f f' ml' H' wd' h' tk' m' (hq f ml' H' q)
theorem TS_nil {Q : FV → List (Str × V) → MH → Prop} (h : Q .next ml H) : TS M d sc cl ml H [] Q := by
  intro A base h₀ outer env L m s wd Qm hs hl c k
  exact wpAny_execs_nil (k _ _ ml H wd s.heap s.toks m h (Ext.refl _) .next (c.tok _))
noncomputable def thenS (M : Amb) (d : Nat) (sc : Scope) (cl : List (Str × Loc)) (rest : List Stmt) (Q : FV → List (Str × V) → MH → Prop) : FV → List (Str × V) → MH → Prop
  | .next, ml, H => TS M d sc cl ml H rest Q
  | f, ml, H => Q f ml H
theorem TS_cons {st : Stmt} {rest : List Stmt} {Q : FV → List (Str × V) → MH → Prop} (h : T1 M d sc cl ml H st (thenS M d sc cl rest Q)) : TS M d sc cl ml H (st :: rest) Q := by
  intro A base h₀ outer env L m s wd Qm hs hl c k
  refine wpAny_execs_cons (h hs hl c fun f f' ml' H' wd' h' tk' m' q x r c' => ?_)
  cases r with
  | next => exact q hs hl c' fun f2 f2' ml2 H2 wd2 h2 tk2 m2 q2 x2 r2 c2 => k f2 f2' ml2 H2 wd2 h2 tk2 m2 q2 (x.trans x2) r2 c2
  | brk => exact k _ _ ml' H' wd' h' tk' m' q x .brk c'
  | cont => exact k _ _ ml' H' wd' h' tk' m' q x .cont c'
  | ret r => exact k _ _ ml' H' wd' h' tk' m' q x (.ret r) c'
theorem T1_expr {e : Expr} {pos : Pos} {Q : FV → List (Str × V) → MH → Prop} (hw : ∀ env, swapsWith e none pos.line env = pure false) (hi : sc.kind = .function)
    (h : TE M d sc cl ml H e fun _ H' => Q .next ml H') : T1 M d sc cl ml H (.Expr e pos) Q := by
  intro A base h₀ outer env L m s wd Qm hs hl c k
  refine wpAny_Expr_any (h hs c fun v v' H1 w1 h1 t1 q1 x1 r1 c1 => k _ _ ml H1 w1 h1 t1 m q1 x1 .next c1) ?_ (hw _)
  unfold interactive
  rw [hs, hi]
  rfl
theorem T1_ret {e : Expr} {pos : Pos} {Q : FV → List (Str × V) → MH → Prop} (h : TE M d sc cl ml H e fun v H' => Q (.ret v) ml H') : T1 M d sc cl ml H (.Return (some e) pos) Q := by
  intro A base h₀ outer env L m s wd Qm hs hl c k
  exact wpAny_Return_some (h hs c fun v v' H1 w1 h1 t1 q1 x1 r1 c1 => k _ _ ml H1 w1 h1 t1 m q1 x1 (.ret r1) c1)
theorem T1_ret_none {pos : Pos} {Q : FV → List (Str × V) → MH → Prop} (he : ∀ env, exec (.Return none pos) env = (do standAt pos; pure (.ret .none))) (h : Q (.ret .none) ml H) : T1 M d sc cl ml H (.Return none pos) Q := by
  intro A base h₀ outer env L m s wd Qm hs hl c k
  show wpAny _ _ (exec (.Return none pos) env) _ _ _
  rw [he]
  exact wpAny_bind (wpAny_standAt (wpAny_pure (k _ _ ml H wd s.heap s.toks m h (Ext.refl _) (.ret .none) (c.tok _))))
theorem T1_if {test : Expr} {body orelse : List Stmt} {pos : Pos} {Q : FV → List (Str × V) → MH → Prop} (h : TB M d sc cl ml H test fun b H1 => if b = true then TS M d sc cl ml H1 body Q else TS M d sc cl ml H1 orelse Q) :
    T1 M d sc cl ml H (.If test body orelse pos) Q := by
  intro A base h₀ outer env L m s wd Qm hs hl c k
  refine wpAny_If (h hs c fun b a H1 w1 h1 t1 q1 x1 r1 c1 => ?_)
  cases r1
  cases b with
  | true => exact q1 hs hl c1 fun f f' ml' H' wd' h' tk' m' q x r c' => k f f' ml' H' wd' h' tk' m' q (x1.trans x) r c'
  | false => exact q1 hs hl c1 fun f f' ml' H' wd' h' tk' m' q x r c' => k f f' ml' H' wd' h' tk' m' q (x1.trans x) r c'
end
section
variable {M : Amb} {d : Nat} {A : Around} {base h₀ : Heap} {outer : List Env} {env : Env} {L : Addr} {m : Str → Option Value} {cl : List (Str × Loc)} {ml : List (Str × V)} {s : Shared} {wd : WD} {H : MH}
theorem CX.store (c : CX M d A base h₀ outer env env L m m cl ml s wd H) (hl : env.locals = L) {x : Str} {v : V} {v' : Value} (hv : VR M.K wd v v') {h' : Heap} {tk : Tok} (F : Fr h₀ L h' (fun y => if y = x then some v' else m y)) (N : News h₀ L h' wd.news) :
    CX M d A base h₀ outer env env L (fun y => if y = x then some v' else m y) (fun y => if y = x then some v' else m y) cl ((x, v) :: ml) { s with heap := h', toks := tk } wd H :=
  { c with
    F := F
    N := N
    loc := .inl ⟨hl, rfl⟩
    lr := fun y u hy => by
      rw [List.lookup_cons] at hy
      by_cases q : y = x
      · subst q
        rw [show (y == y) = true from beq_self_eq_true y] at hy
        cases hy
        exact ⟨v', by rw [if_pos rfl], hv⟩
      · have q' : (y == x) = false := by simpa using q
        rw [q'] at hy
        obtain ⟨u', h1, h2⟩ := c.lr y u hy
        exact ⟨u', by rw [if_neg q]; exact h1, h2⟩ }
theorem wp_store (c : CX M d A base h₀ outer env env L m m cl ml s wd H) (hl : env.locals = L) {x : Str} {v : V} {v' : Value} (hv : VR M.K wd v v') (hk : env.scope.names.lookup x = some .local) {Q : Unit → Shared → Prop}
    (k : ∀ h' tk' m', CX M d A base h₀ outer env env L m' m' cl ((x, v) :: ml) { s with heap := h', toks := tk' } wd H → Q () { s with heap := h', toks := tk' }) :
    wpAny (model M.prog M.w) A (storeName env x v') Q (fun _ _ => False) s := by
  refine wpAny_storeName_local (m := m) (by unfold Env.kindOf; exact hk) (by rw [hl]; exact c.F.ns) (fun h' hn hs => ?_) ?_
  · rw [hl] at hn hs
    exact k h' _ _ (c.store hl hv (c.F.set hn hs) (c.N.set hs))
  · rw [c.ek]; rfl
end
section
variable {M : Amb} {d : Nat} {sc : Scope} {cl : List (Str × Loc)} {ml : List (Str × V)} {H : MH}
theorem T1_assign {x : Str} {xp pos : Pos} {value : Expr} {Q : FV → List (Str × V) → MH → Prop} (hw : ∀ env, swapsWith value (some (.Name x xp)) pos.line env = pure false) (hk : sc.names.lookup x = some .local)
    (h : TE M d sc cl ml H value fun v H' => Q .next ((x, v) :: ml) H') : T1 M d sc cl ml H (.Assign [.Name x xp] value pos) Q := by
  intro A base h₀ outer env L m s wd Qm hs hl c k
  refine wpAny_Assign_Name (h hs c fun v v' H1 w1 h1 t1 q1 x1 r1 c1 => ?_) (hw _)
  exact wp_store c1 hl r1 (by rw [hs]; exact hk) fun h' tk' m' c2 => k _ _ _ H1 w1 h' tk' m' q1 x1 .next c2
theorem T1_setattr {o value : Expr} {attr : Str} {ap pos : Pos} {Q : FV → List (Str × V) → MH → Prop} (hw : ∀ env, swapsWith value (some (.Attribute o attr ap)) pos.line env = pure false)
    (h : TE M d sc cl ml H value fun v H1 => TE M d sc cl ml H1 o fun ov H2 => OP2 (fun _ _ _ _ => True) M d cl ml H2 (fun o v => setAttr o attr v) ov v fun (_ : Unit) H3 => Q .next ml H3) : T1 M d sc cl ml H (.Assign [.Attribute o attr ap] value pos) Q := by
  intro A base h₀ outer env L m s wd Qm hs hl c k
  refine plainObj_wpAny_Assign_Attribute (h hs c fun v v' H1 w1 h1 t1 q1 x1 r1 c1 => q1 hs c1 fun o o' H2 w2 h2 t2 q2 x2 r2 c2 => ?_) (hw _)
  exact q2 c2 r2 (r1.ext _ x2) fun _ _ H3 w3 h3 t3 q3 x3 _ c3 => k _ _ ml H3 w3 h3 t3 m q3 ((x1.trans x2).trans x3) .next c3
inductive Stored (H : MH) : V → V → V → MH → Prop
  | item {l : Loc} {xs : List V} {i : Int} {x : V} : H.c l = some (.list xs) → 0 ≤ i → i < xs.length → xs.length ≤ 1000 → Stored H (.cell l) (.int i) x (H.put l (.list (xs.set i.toNat x)))
  | last {l : Loc} {xs : List V} {x y : V} : H.c l = some (.list (xs ++ [y])) → Stored H (.cell l) (.int (-1)) x (H.put l (.list (xs ++ [x])))
  | dict {l : Loc} {es : List (Str × V)} {key : Str} {x : V} : H.c l = some (.dict es) → es.length ≤ 1000 → Stored H (.cell l) (.str key) x (H.put l (.dict (putE es key x)))
theorem T1_setitem (hpu : M.pu = false) {o i value : Expr} {ap pos : Pos} {Q : FV → List (Str × V) → MH → Prop} (hw : ∀ env, swapsWith value (some (.Subscript o i ap)) pos.line env = pure false)
    (h : TE M d sc cl ml H value fun v H1 => TE M d sc cl ml H1 o fun ov H2 => TE M d sc cl ml H2 i fun iv H3 => ∃ H4, Stored H3 ov iv v H4 ∧ Q .next ml H4) : T1 M d sc cl ml H (.Assign [.Subscript o i ap] value pos) Q := by
  intro A base h₀ outer env L m s wd Qm hs hl c k
  refine wpAny_Assign_Subscript (h hs c fun v v' H1 w1 h1 t1 q1 x1 r1 c1 => q1 hs c1 fun o o' H2 w2 h2 t2 q2 x2 r2 c2 => q2 hs c2 fun i i' H3 w3 h3 t3 q3 x3 r3 c3 => ?_) (hw _)
  obtain ⟨H4, st, q⟩ := q3
  have x13 := (x1.trans x2).trans x3
  cases st with
  | item a1 a2 a3 a4 => exact OP_setitem hpu a1 a2 a3 a4 c3 (r2.ext _ x3) r3 (r1.ext _ (x2.trans x3)) fun w4 h4 t4 x4 c4 => k _ _ ml _ w4 h4 t4 m q (x13.trans x4) .next c4
  | last a1 => exact OP_setlast hpu a1 c3 (r2.ext _ x3) r3 (r1.ext _ (x2.trans x3)) fun w4 h4 t4 x4 c4 => k _ _ ml _ w4 h4 t4 m q (x13.trans x4) .next c4
  | dict a1 a2 => exact OP_setdict hpu a1 a2 c3 (r2.ext _ x3) r3 (r1.ext _ (x2.trans x3)) fun w4 h4 t4 x4 c4 => k _ _ ml _ w4 h4 t4 m q (x13.trans x4) .next c4
end
inductive BR (K : Frag) (w : WD) : List (Str × V) → List (Str × Value) → Prop
  | nil : BR K w [] []
  | cons {k : Str} {x : V} {v : Value} {es : List (Str × V)} {ds : List (Str × Value)} : VR K w x v → BR K w es ds → BR K w ((k, x) :: es) ((k, v) :: ds)
theorem BR.append {K : Frag} {w : WD} : ∀ {a b : List (Str × V)} {a' b' : List (Str × Value)}, BR K w a a' → BR K w b b' → BR K w (a ++ b) (a' ++ b') := by
  intro a b a' b' h g
  induction h with
  | nil => exact g
  | cons x _ ih => exact .cons x ih
theorem BR.reverse {K : Frag} {w : WD} : ∀ {a : List (Str × V)} {a' : List (Str × Value)}, BR K w a a' → BR K w a.reverse a'.reverse := by
  intro a a' h
  induction h with
  | nil => exact .nil
  | cons x _ ih => rw [List.reverse_cons, List.reverse_cons]; exact ih.append (.cons x .nil)
theorem BR.lookup {K : Frag} {w : WD} {y : Str} {u : V} : ∀ {a : List (Str × V)} {a' : List (Str × Value)}, BR K w a a' → a.lookup y = some u → ∃ u', a'.lookup y = some u' ∧ VR K w u u' := by
  intro a a' g
  induction g with
  | nil => intro h; cases h
  | @cons k _ _ _ _ x _ ih =>
    intro h
    rw [List.lookup_cons] at h ⊢
    cases q : (y == k) with
    | true => rw [q] at h; cases h; exact ⟨_, rfl, x⟩
    | false => rw [q] at h; exact ih h
theorem BR.names {K : Frag} {w : WD} : ∀ {a : List (Str × V)} {a' : List (Str × Value)}, BR K w a a' → a'.map (·.1) = a.map (·.1) := by
  intro a a' g
  induction g with
  | nil => rfl
  | cons _ _ ih => rw [List.map_cons, List.map_cons, ih]
noncomputable def backS (Q : V → MH → Prop) : FV → List (Str × V) → MH → Prop
  | .ret v, _, H => Q v H
  | .next, _, H => Q .none H
  | _, _, _ => False
section
variable {M : Amb} {d : Nat} {cl : List (Str × Loc)} {ml : List (Str × V)} {H : MH}
theorem CALL_def {name qual : Str} {params : Arguments} {body : List Stmt} {scope : Scope} {dV kV doc pm cdv ct oc : Value} {an od : Option Addr} {osl : Array (Option Value)} {f : Addr} {xs : List V} {binds : List (Str × V)} {Q : V → MH → Prop}
    (ho : M.K.lookup f = some ⟨oc, od, .func (fnOf name qual params body scope dV kV doc pm an cdv ct), osl⟩) (hcd : codeIn M.K cdv qual = true)
    (hb : ∀ (s : Shared) (wd : WD) (vals : List Value), VRs M.K wd xs vals → M.K.In s.heap → ∃ bs, BindsTo s (fnOf name qual params body scope dV kV doc pm an cdv ct) ⟨vals, []⟩ bs ∧ BR M.K wd binds bs)
    (hloc : (binds.all fun y => decide (scope.names.lookup y.1 = some .local)) = true) (hco : scope.isCoroutine = false) (hgen : scope.isGenerator = false) (hk : scope.kind = .function) (hcell : (scope.names.all fun x => decide (x.2 ≠ .cell)) = true)
    (h : TS M d scope [] binds.reverse H body (backS Q)) : CALL M (d + 1) cl ml H f xs Q := by
  intro A base h₀ outer fenv env L m mm s wd R xs' c r k
  obtain ⟨bs, hb1, hb2⟩ := hb s wd xs' r (c.X.keeps c.F.keep)
  obtain ⟨A₀, B⟩ := c.bel
  have hloc' : ∀ y ∈ bs, scope.names.lookup y.1 = some .local := fun y hy => by
    have hm : y.1 ∈ binds.map (·.1) := by rw [← hb2.names]; exact List.mem_map_of_mem hy
    obtain ⟨z, hz, e⟩ := List.mem_map.mp hm
    rw [← e]
    exact of_decide_eq_true (List.all_eq_true.mp hloc z hz)
  refine PySem.W.code_def B c.F c.X c.N c.T c.hA c.ff c.fk ho hcd (by have := c.room; show _ < 1000; omega) hb1 hloc' (fun g L' h₁ FG F' N' B' X' T' => ?_) hco hgen hk (fun x hx => of_decide_eq_true (List.all_eq_true.mp hcell x hx))
  have C' : CX M d (A.deeper (envOf qual scope L' f cdv)) base g (fenv :: outer) (envOf qual scope L' f cdv) (envOf qual scope L' f cdv) L' (fun y => bs.reverse.lookup y) (fun y => bs.reverse.lookup y) [] binds.reverse { s with heap := h₁, toks := s.toks + bs.length } wd H :=
    { hA := Around.frames_deeper c.hA
      bel := ⟨_, B'⟩
      ff := rfl
      fk := hk
      F := F'
      N := N'
      X := X'
      Z := fun p hp => FG.keep _ _ (c.Z p hp)
      T := T'
      hh := c.hh
      room := by have := c.room; show A.depth + 1 + 4 * d ≤ 600; omega
      units := by have := c.units; show A.units + 3 + 20 * d ≤ 9000; omega
      ek := hk
      eg := rfl
      eb := rfl
      loc := .inl ⟨rfl, rfl⟩
      lr := fun x v hx => hb2.reverse.lookup hx
      cr := fun x l hx => by cases hx
      rel := c.rel }
  refine wpAny_mono (h rfl rfl C' (Qm := fun fl s' => LeaveK h₀ L m g R (match fl with | .ret v => v | _ => .none) s') fun fl fl' ml' H' wd' h' tk' m' q x rr c' => ?_) (fun _ _ y => y) fun _ _ y => y.elim
  have fin : ∀ v v', Q v H' → VR M.K wd' v v' → LeaveK h₀ L m g R v' { s with heap := h', toks := tk' } := fun v v' qv rv =>
    ⟨L', m', wd'.news, c'.F, c'.N, fun Fb Nb => k v v' H' wd' h' tk' qv x rv (c.go Fb Nb x c'.rel)⟩
  cases rr with
  | ret rv => exact fin _ _ q rv
  | next => exact fin _ _ q .none
  | brk => exact q.elim
  | cont => exact q.elim
theorem CALL_cls {C fI : Addr} {xs : List V} {l : Loc} {Q : V → MH → Prop} (hm : makesIn M.K C = true) (hi : findIn M.K (.ref C) "__init__" = some (some (.ref fI))) (hf : isFn M.K (.ref fI) = true) (hl : H.free l)
    (h : CALL M d cl ml (H.add l (.inst C [])) fI (.cell l :: xs) fun v H' => v = .none ∧ Q (.cell l) H') : CALL M (d + 1) cl ml H C xs Q := by
  intro A base h₀ outer fenv env L m mm s wd R xs' c r k
  refine make_K c.F c.N (c.X.keeps c.F.keep) hm hi (beq_iff_eq.mp hf) fun x dx h' F' N' lt1 lt2 => ?_
  have nd : dx ∉ wd.keys := fresh_of lt1
  have nx : x ∉ wd.keys := fresh_of fun p hp => Nat.lt_trans (lt1 p hp) lt2
  have E : Ext M.pu wd (wd.inst l x dx C) := Ext.inst (fun b => c.rel.free l b hl) nx nd
  have RR := c.rel.inst (C := C) hl nx nd (Nat.ne_of_gt lt2)
  have c1 := c.go (tk' := s.toks) F' N' E RR
  have hx : (wd.inst l x dx C).ρ l false = some x := by show (if _ then _ else _) = _; rw [if_pos rfl]; rfl
  have c2 : CX M d (A.under (.builtin "type.__call__" ⟨.ref C :: xs', []⟩)) base h₀ outer fenv env L m mm cl ml { s with heap := h', toks := s.toks } (wd.inst l x dx C) (H.add l (.inst C [])) :=
    { c1 with
      hA := c.hA
      hh := c.hh
      room := by have := c.room; show A.depth + 1 + 4 * d ≤ 600; omega
      units := by
        have := c.units
        show A.units + (1 + 3 * 0) + 20 * d ≤ 9000
        omega }
  refine h c2 (.cons (.cell hx) (r.ext _ E)) fun v v' H' wd' h2 tk2 q x2 rv c3 => ?_
  obtain ⟨rfl, q⟩ := q
  cases rv
  refine ⟨rfl, k (.cell l) (.ref x) H' wd' h2 tk2 q (E.trans x2) (.cell (x2.sub _ _ _ hx)) ?_⟩
  exact { c3 with hA := c.hA, hh := c.hh, room := c.room, units := c.units }
end
noncomputable def WD.less (w : WD) (I : Addr) : WD := ⟨w.ρ, w.news.filter fun p => p.1 ≠ I⟩
theorem mem_less {w : WD} {I : Addr} {p : Addr × Obj} : p ∈ (w.less I).news ↔ p ∈ w.news ∧ p.1 ≠ I := by
  show p ∈ w.news.filter _ ↔ _
  rw [List.mem_filter]
  simp
theorem Vex.less {w : WD} {I : Addr} {it : Obj} (hn : w.keys.Nodup) (hm : (I, it) ∈ w.news) (ht : it.cls ≠ .type "tuple") : Vex w (w.less I) :=
  ⟨fun _ _ _ h => h, fun a vs h n => ⟨mem_less.mpr ⟨h, fun e => ht (by
    have e : a = I := e
    subst e
    rw [nodup_eq hn hm h])⟩, n⟩⟩
theorem Rel.less {K : Frag} {prog : Program} {wo : World} {w : WD} {H : MH} (r : Rel K prog wo w H) {I : Addr} {it : Obj} (hm : (I, it) ∈ w.news) (ht : it.cls ≠ .type "tuple") (hn : ¬ w.im I) : Rel K prog wo (w.less I) H where
  cells l c h := (r.cells l c h).keep (Vex.less r.nod hm ht) fun b a o h1 h2 => mem_less.mpr ⟨h2, fun e => hn ⟨l, b, by rw [h1]; exact congrArg some e⟩⟩
  inj := r.inj
  nod := (List.filter_sublist.map _).nodup r.nod
  dom l b a h := by
    obtain ⟨p, hp, e⟩ := List.mem_map.mp (r.dom l b a h)
    exact key_mem (mem_less.mpr ⟨hp, fun q => hn ⟨l, b, by have h2 : w.ρ l b = some a := h; rw [h2, ← e, q]⟩⟩) e
  free := r.free
theorem Ext.less {pu : Bool} {w w2 : WD} {I : Addr} {it : Obj} (e : Ext pu (w.more I it) w2) (hI : I ∉ w.keys) : Ext pu w (w2.less I) where
  sub := e.sub
  new l b a h := by
    rcases e.new l b a h with h | h
    · exact .inl h
    · exact .inr fun z => h (.tail _ z)
  pers p hp hn := mem_less.mpr ⟨e.pers p (.tail _ hp) hn, fun q => hI (q ▸ mem_keys hp)⟩
  kin a ha := by
    obtain ⟨p, hp, q⟩ := List.mem_map.mp (e.kin a (.tail _ ha))
    exact key_mem (mem_less.mpr ⟨hp, fun z => hI (by rw [← z, q]; exact ha)⟩) q
  pure z p hp := mem_less.mpr ⟨e.pure z p (.tail _ hp), fun q => hI (q ▸ mem_keys hp)⟩
noncomputable def loopS (Q : FV → List (Str × V) → MH → Prop) (G : List (Str × V) → MH → Prop) : FV → List (Str × V) → MH → Prop
  | .next, ml, H => G ml H
  | .cont, ml, H => G ml H
  | .brk, ml, H => Q .next ml H
  | .ret v, ml, H => Q (.ret v) ml H
section
variable {M : Amb} {d : Nat} {A : Around} {base h₀ : Heap} {outer : List Env} {env : Env} {L : Addr} {m : Str → Option Value} {cl : List (Str × Loc)} {ml : List (Str × V)} {s : Shared} {wd : WD} {H : MH}
theorem CX.go2 (c : CX M d A base h₀ outer env env L m m cl ml s wd H) (hl : env.locals = L) {wd' : WD} {H' : MH} {m' : Str → Option Value} {ml' : List (Str × V)} {h' : Heap} {tk' : Tok} (F : Fr h₀ L h' m') (N : News h₀ L h' wd'.news) (e : Ext M.pu wd wd') (R : Rel M.K M.prog M.w wd' H')
    (lr : ∀ x v, ml'.lookup x = some v → ∃ v', m' x = some v' ∧ VR M.K wd' v v') : CX M d A base h₀ outer env env L m' m' cl ml' { s with heap := h', toks := tk' } wd' H' :=
  { c with
    F := F
    N := N
    loc := .inl ⟨hl, rfl⟩
    lr := lr
    cr := fun x l hx => let ⟨a, h1, h2⟩ := c.cr x l hx; ⟨a, h1, e.sub _ _ _ h2⟩
    rel := R }
inductive FI (M : Amb) (wd : WD) (G : List (Str × V) → MH → Prop) (m₁ : Str → Option Value) (news₁ : List (Addr × Obj)) : Prop
  | mk (ml₁ : List (Str × V)) (H₁ : MH) (ρ₁ : Loc → Bool → Option Addr) (g : G ml₁ H₁) (R₁ : Rel M.K M.prog M.w ⟨ρ₁, news₁⟩ H₁) (E₁ : Ext M.pu wd ⟨ρ₁, news₁⟩) (lr₁ : ∀ y v, ml₁.lookup y = some v → ∃ v', m₁ y = some v' ∧ VR M.K ⟨ρ₁, news₁⟩ v v') : FI M wd G m₁ news₁
theorem for_core {x : Str} {body : List Stmt} {sc : Scope} {Q : FV → List (Str × V) → MH → Prop} {Qm : Flow → Shared → Prop} (hs : env.scope = sc) (hl : env.locals = L) (c : CX M d A base h₀ outer env env L m m cl ml s wd H)
    {I : Addr} {fp : List Addr} {n : Nat} {P : Nat → Value → Prop} {St : Nat → Heap → Prop} (W : Walks M.prog M.w A I fp [I] n P St) (hI : I ∉ wd.keys) (hIL : I ≠ L) (hI0 : h₀.get? I = none)
    (hfp : ∀ b ∈ fp, b = I ∨ ∃ o, (b, o) ∈ wd.news ∧ ¬ wd.im b) (hit : ∀ i h, St i h → ∃ it : Obj, h.get? I = some it ∧ it.cls ≠ .type "tuple") (hst : St 0 s.heap) (xv : Nat → V)
    (hP : ∀ i v wd', P i v → Ext M.pu wd wd' → VR M.K wd' (xv i) v) (G : Nat → List (Str × V) → MH → Prop) (h0 : G 0 ml H)
    (step : ∀ i ml₁ H₁, i < n → G i ml₁ H₁ → TS M d sc cl ((x, xv i) :: ml₁) H₁ body (loopS Q (G (i + 1)))) (hend : ∀ ml' H', G n ml' H' → Q .next ml' H')
    (k : ∀ f f' ml' H' wd' h' tk' m', Q f ml' H' → Ext M.pu wd wd' → FR M.K wd' f f' → CX M d A base h₀ outer env env L m' m' cl ml' { s with heap := h', toks := tk' } wd' H' → Qm f' { s with heap := h', toks := tk' }) :
    LoopAtV M.prog M.w A h₀ env x body Qm (fun _ _ => False) (.ref I) s := by
  have hfpL : env.locals ∉ fp := fun hm => by
    rcases hfp _ hm with e | ⟨o, h1, _⟩
    · exact hIL (e ▸ hl)
    · exact (c.N _ h1).2.1 hl
  refine ⟨I, fp, [I], n, P, St, m, wd.news, fun i => FI M wd (G i), rfl, W, hfpL, ?_, ?_, hst, by rw [hl]; exact c.F, by rw [hl]; exact c.N, ?_, ?_, ?_⟩
  · intro b hb
    rw [List.mem_singleton.mp hb]
    exact hI0
  · intro p hp hb
    exact hI (List.mem_singleton.mp hb ▸ mem_keys hp)
  · exact .mk ml H wd.ρ h0 c.rel (Ext.refl _) c.lr
  · rintro i v m₁ news₁ s₁ own ⟨hh', tk', rfl⟩ hin hPv ⟨ml₁, H₁, ρ₁, hG, R₁, E₁, lr₁⟩ hoff hown hget hall hst' F₁ N₁
    rw [hl] at F₁ N₁ ⊢
    obtain ⟨it, hit1, hit2⟩ := hit _ _ hst'
    have hI1 : I ∉ (⟨ρ₁, news₁⟩ : WD).keys := fun hm => by
      obtain ⟨p, hp, e⟩ := List.mem_map.mp hm
      exact hoff p hp (by rw [e]; exact List.mem_singleton.mpr rfl)
    have Em : Ext M.pu (⟨ρ₁, news₁⟩ : WD) ((⟨ρ₁, news₁⟩ : WD).more I it) := Ext.more _ _ _
    have N₂ : News h₀ L hh' ((⟨ρ₁, news₁⟩ : WD).more I it).news := fun p hp => by
      rcases List.mem_cons.mp hp with rfl | hp
      · exact ⟨hit1, hIL, hI0⟩
      · exact N₁ _ (List.mem_append_right _ hp)
    have c₁ := c.go2 (tk' := tk') (ml' := (x, xv i) :: ml₁) (H' := H₁) (wd' := (⟨ρ₁, news₁⟩ : WD).more I it) hl F₁ N₂ (E₁.trans Em) (R₁.more it hI1) (fun y u hy => by
      rw [List.lookup_cons] at hy
      by_cases q : y = x
      · subst q
        rw [show (y == y) = true from beq_self_eq_true y] at hy
        cases hy
        exact ⟨v, by rw [if_pos rfl], hP i v _ hPv (E₁.trans Em)⟩
      · have q' : (y == x) = false := by simpa using q
        rw [q'] at hy
        obtain ⟨u', h1, h2⟩ := lr₁ y u hy
        exact ⟨u', by rw [if_neg q]; exact h1, h2.ext _ Em⟩)
    refine step i ml₁ H₁ hin hG hs hl c₁ fun f f' ml' H' wd' h' tk2 m' q x2 r c' => ?_
    have nI : ¬ ((⟨ρ₁, news₁⟩ : WD).more I it).im I := fun ⟨l, b, hb⟩ => hI1 (R₁.dom l b I hb)
    have hI2 : (I, it) ∈ wd'.news := x2.pers _ (.head _) nI
    have nI2 : ¬ wd'.im I := x2.im (.head _) nI
    have fin : G (i + 1) ml' H' → LoopStepU h₀ L [I] own (FI M wd (G (i + 1))) { s with heap := hh', toks := tk' } .next { s with heap := h', toks := tk2 } := fun g => by
      refine ⟨rfl, h', tk2, m', (wd'.less I).news, rfl, c'.F, fun p hp => ?_, fun p hp hb => ?_, .mk ml' H' wd'.ρ g (c'.rel.less hI2 hit2 nI2) (E₁.trans (Ext.less x2 hI1)) fun y u hy => ?_⟩
      · rcases List.mem_append.mp hp with hp | hp
        · have e2 := hget p hp
          rcases hfp _ (hown p hp) with e | ⟨o, h1, h2⟩
          · have : p = (I, it) := by
              have e3 : hh'.get? p.1 = some p.2 := e2
              rw [e, hit1] at e3
              exact Prod.ext e (Option.some.inj e3).symm
            rw [this]; exact c'.N _ hI2
          · have h3 := E₁.pers _ h1 h2
            have e3 : hh'.get? p.1 = some p.2 := e2
            have e4 := (N₂ _ (.tail _ h3)).1
            have : p = (p.1, o) := by
              refine Prod.ext rfl ?_
              have : hh'.get? p.1 = some o := e4
              rw [e3] at this
              exact Option.some.inj this
            rw [this]
            exact c'.N _ (x2.pers _ (.tail _ h3) (Em.im (mem_keys h3) (E₁.im (mem_keys h1) h2)))
        · exact c'.N _ (mem_less.mp hp).1
      · exact (mem_less.mp hp).2 (List.mem_singleton.mp hb)
      · obtain ⟨u', h1, h2⟩ := c'.lr y u hy
        exact ⟨u', h1, h2.vex _ (Vex.less c'.rel.nod hI2 hit2)⟩
    cases r with
    | next => exact .next (fin q)
    | cont => exact .cont (fin q)
    | brk => exact .brk (k _ _ ml' H' wd' h' tk2 m' q ((E₁.trans Em).trans x2) .next c')
    | ret r => exact .ret (k _ _ ml' H' wd' h' tk2 m' q ((E₁.trans Em).trans x2) (.ret r) c')
  · rintro h' tk m' news' F' N' hoff ⟨ml₁, H₁, ρ₁, hG, R₁, E₁, lr₁⟩
    rw [hl] at F' N'
    exact k _ _ ml₁ H₁ ⟨ρ₁, news'⟩ h' tk m' (hend _ _ hG) E₁ .next (c.go2 hl F' N' E₁ R₁ lr₁)
end
theorem range_sz (n : Nat) : Builtin.Range.rangeSize 0 (n : Int) 1 = (n : Int) := by
  unfold Builtin.Range.rangeSize
  simp
  omega
theorem range_sm {n : Nat} (hz : n ≤ 1000) : Builtin.Range.small 0 (n : Int) 1 = true := by
  unfold Builtin.Range.small Builtin.Range.rangeFitsLong
  rw [range_sz]
  simp
  omega
theorem passes_false {prog : Program} {w : World} {A : Around} {env : Env} : PassesOwn (model prog w) A env (fun _ _ => False) := fun _ _ h => h.elim
section
variable {M : Amb} {d : Nat} {sc : Scope} {cl : List (Str × Loc)} {ml : List (Str × V)} {H : MH}
theorem T1_range {x rn : Str} {xp rp cp pos : Pos} {arg : Expr} {body : List Stmt} {Q : FV → List (Str × V) → MH → Prop}
    (he : ∀ env, eval (.Call (.Name rn rp) [arg] [] cp) env = (do callWith cp (← eval (.Name rn rp) env) [] (backTo cp (starEach [arg] env)) (backToKw cp (keywordEach [] env))))
    (ha : ∀ env, starEach [arg] env = [(false, eval arg env)]) (hk : sc.names.lookup x = some .local) (hse : ∀ env v, foldedSetIterable (.Call (.Name rn rp) [arg] [] cp) env v = pure v) (G : Nat → List (Str × V) → MH → Prop)
    (h : TE M d sc cl ml H (.Name rn rp) fun v H1 => v = .ty "range" ∧ TE M d sc cl ml H1 arg fun iv H2 => ∃ n : Nat, iv = .int n ∧ n ≤ 1000 ∧ G 0 ml H2 ∧
      (∀ i ml₁ H₁, i < n → G i ml₁ H₁ → TS M d sc cl ((x, .int i) :: ml₁) H₁ body (loopS Q (G (i + 1)))) ∧ ∀ ml' H', G n ml' H' → Q .next ml' H') :
    T1 M d sc cl ml H (.For (.Name x xp) (.Call (.Name rn rp) [arg] [] cp) body [] pos) Q := by
  intro A base h₀ outer env L m s wd Qm hs hl c k
  have hkx : env.kindOf x = some .local := by unfold Env.kindOf; rw [hs]; exact hk
  refine For_invV h₀ hkx (by rw [c.ek]; rfl) ?_ (hse env) passes_false
  refine Call_ (h hs c fun f f' H1 w1 h1 t1 q1 x1 r1 c1 => ?_) (he _)
  obtain ⟨rfl, q1⟩ := q1
  obtain rfl := r1.ty_i
  refine PyProof.Rows.callWith_type1 ?_ (ha _) rfl
  rw [ha]
  show wpAny _ _ (spliced (backTo cp (argTrees [arg] env))) _ _ _
  rw [back_args]
  refine TEs_cons (Q := fun vs H2 => ∃ iv, vs = [iv] ∧ ∃ n : Nat, iv = V.int n ∧ n ≤ 1000 ∧ G 0 ml H2 ∧ (∀ i ml₁ H₁, i < n → G i ml₁ H₁ → TS M d sc cl ((x, .int i) :: ml₁) H₁ body (loopS Q (G (i + 1)))) ∧ ∀ ml' H', G n ml' H' → Q .next ml' H') (q1.mono fun iv H2 q => TEs_nil ⟨iv, rfl, q⟩) hs c1 fun vs vs' H2 w2 h2 t2 q2 x2 r2 c2 => ?_
  obtain ⟨iv, rfl, n, rfl, hz, g0, step, hend⟩ := q2
  obtain ⟨i', rfl, r3⟩ := one_of r2
  obtain ⟨t9, rfl⟩ : ∃ t, i' = .int (n : Int) t := r3.int_i
  refine range1_rows c2.F c2.N fun h' tk t₁ u₁ v₁ hr F' N' hkeep => ?_
  refine wpAny_pyIter_range hr (range_sm hz) ?_
  have hIlt : ∀ p ∈ w2.news, p.1 < h'.objs.size := fun p hp => Heap.lt_size (N' p hp).1
  have hL : L < h'.objs.size := F'.ns.lt
  have c3 : CX M d A base h₀ outer env env L m m cl ml { s with heap := h'.push { cls := .type "range_iterator", data := .fields #[rawInt 0, rawInt (Builtin.Range.rangeSize 0 (n : Int) 1), rawInt 1] }, toks := tk } w2 H2 := c2.go (F'.push _) (N'.grown fun _ _ e => Heap.get?_push_of_some _ e) (Ext.refl _) c2.rel
  refine for_core hs hl c3 (Walks.range c.hh _ 0 1 n) (fresh_of hIlt) (Nat.ne_of_gt hL) ?_ (fun b hb => .inl (List.mem_singleton.mp hb)) (fun i h st => ⟨_, st, by simp⟩) ?_ (fun i => .int i) (fun i v wd' hP _ => ?_) G g0 step hend fun f f' ml' H' wd' h' tk' m' q x r c' => k f f' ml' H' wd' h' tk' m' q ((x1.trans x2).trans x) r c'
  · cases q : h₀.get? h'.objs.size with
    | none => rfl
    | some o => exact absurd (Heap.lt_size (F'.keep _ _ q)) (Nat.lt_irrefl _)
  · show IsRangeIter _ _ _ _ _
    rw [range_sz]
    simpa using Heap.get?_push_size _ rfl
  · obtain ⟨t, rfl⟩ := hP
    have : (0 : Int) + (i : Int) * 1 = (i : Int) := by omega
    rw [this]
    exact .int _ _
end
section
variable {M : Amb} {d : Nat} {sc : Scope} {cl : List (Str × Loc)} {ml : List (Str × V)} {H : MH}
theorem T1_unpack2 {a b : Str} {pa pb tp pos : Pos} {n : Nat} {value : Expr} {Q : FV → List (Str × V) → MH → Prop}
    (hw : ∀ env, swapsWithSole [Expr.Tuple [.Name a pa, .Name b pb] n tp] value pos.line env = pure false) (hsw : ∀ env, swappedStores [Expr.Tuple [.Name a pa, .Name b pb] n tp] value env = pure none)
    (ha : sc.names.lookup a = some .local) (hb : sc.names.lookup b = some .local)
    (h : TE M d sc cl ml H value fun v H' => ∃ x y, v = .tup [x, y] ∧ Q .next ((b, y) :: (a, x) :: ml) H') : T1 M d sc cl ml H (.Assign [Expr.Tuple [.Name a pa, .Name b pb] n tp] value pos) Q := by
  intro A base h₀ outer env L m s wd Qm hs hl c k
  refine Assign_Tuple (h hs c fun v v' H1 w1 h1 t1 q1 x1 r1 c1 => ?_) (hw _) (hsw _)
  obtain ⟨x, y, rfl, q⟩ := q1
  obtain ⟨ad, vs, rfl, e1, e2, e3⟩ := isTup_of c1 r1
  obtain ⟨x', y', rfl, rx, ry⟩ := two_of e1
  refine assign_Tuple_tuple c1.hh e2 rfl rfl fun h' he => ?_
  have c2 := c1.go (tk' := t1) (c1.F.extBut he (Nat.le_refl _)) (c1.N.extBut he (Nat.le_refl _)) (Ext.refl _) c1.rel
  refine assignInOrder_cons (wpAny_assign_Name (wp_store c2 hl rx (by rw [hs]; exact ha) fun h2 t2 m2 c3 => ?_))
  refine assignInOrder_cons (wpAny_assign_Name (wp_store c3 hl ry (by rw [hs]; exact hb) fun h3 t3 m3 c4 => ?_))
  exact assignInOrder_nil (k _ _ _ H1 w1 h3 t3 m3 q x1 .next c4)
theorem T1_unpack3 {a b e : Str} {pa pb pe tp pos : Pos} {n : Nat} {value : Expr} {Q : FV → List (Str × V) → MH → Prop}
    (hw : ∀ env, swapsWithSole [Expr.Tuple [.Name a pa, .Name b pb, .Name e pe] n tp] value pos.line env = pure false) (hsw : ∀ env, swappedStores [Expr.Tuple [.Name a pa, .Name b pb, .Name e pe] n tp] value env = pure none)
    (ha : sc.names.lookup a = some .local) (hb : sc.names.lookup b = some .local) (he : sc.names.lookup e = some .local)
    (h : TE M d sc cl ml H value fun v H' => ∃ x y z, v = .tup [x, y, z] ∧ Q .next ((e, z) :: (b, y) :: (a, x) :: ml) H') : T1 M d sc cl ml H (.Assign [Expr.Tuple [.Name a pa, .Name b pb, .Name e pe] n tp] value pos) Q := by
  intro A base h₀ outer env L m s wd Qm hs hl c k
  refine Assign_Tuple (h hs c fun v v' H1 w1 h1 t1 q1 x1 r1 c1 => ?_) (hw _) (hsw _)
  obtain ⟨x, y, z, rfl, q⟩ := q1
  obtain ⟨ad, vs, rfl, e1, e2, e3⟩ := isTup_of c1 r1
  obtain ⟨x', y', z', rfl, rx, ry, rz⟩ := three_of e1
  refine assign_Tuple_tuple c1.hh e2 rfl rfl fun h' he' => ?_
  have c2 := c1.go (tk' := t1) (c1.F.extBut he' (Nat.le_refl _)) (c1.N.extBut he' (Nat.le_refl _)) (Ext.refl _) c1.rel
  refine assignInOrder_cons (wpAny_assign_Name (wp_store c2 hl rx (by rw [hs]; exact ha) fun h2 t2 m2 c3 => ?_))
  refine assignInOrder_cons (wpAny_assign_Name (wp_store c3 hl ry (by rw [hs]; exact hb) fun h3 t3 m3 c4 => ?_))
  refine assignInOrder_cons (wpAny_assign_Name (wp_store c4 hl rz (by rw [hs]; exact he) fun h4 t4 m4 c5 => ?_))
  exact assignInOrder_nil (k _ _ _ H1 w1 h4 t4 m4 q x1 .next c5)
inductive WI (M : Amb) (d : Nat) (A : Around) (base h₀ : Heap) (outer : List Env) (env : Env) (L : Addr) (cl : List (Str × Loc)) (s : Shared) (wd : WD) (G : List (Str × V) → MH → Prop) (s' : Shared) : Prop
  | mk (ml' : List (Str × V)) (H' : MH) (wd' : WD) (h' : Heap) (tk' : Tok) (m' : Str → Option Value) (g : G ml' H') (E : Ext M.pu wd wd') (c : CX M d A base h₀ outer env env L m' m' cl ml' { s with heap := h', toks := tk' } wd' H') (e : s' = { s with heap := h', toks := tk' }) : WI M d A base h₀ outer env L cl s wd G s'
theorem T1_while {test : Expr} {body : List Stmt} {pos : Pos} {Q : FV → List (Str × V) → MH → Prop} (G : Nat → List (Str × V) → MH → Prop) (n : Nat) (h0 : G n ml H)
    (h : ∀ n ml H, G n ml H → TB M d sc cl ml H test fun b H1 => if b = true then TS M d sc cl ml H1 body (loopS Q fun ml' H' => ∃ m, m < n ∧ G m ml' H') else Q .next ml H1) :
    T1 M d sc cl ml H (.While test body [] pos) Q := by
  intro A base h₀ outer env L m s wd Qm hs hl c k
  refine wpAny_While (codeAny_whileLoop (fun n => WI M d A base h₀ outer env L cl s wd (G n)) ?_ n (.mk ml H wd s.heap s.toks m h0 (Ext.refl _) (c.tok _) rfl))
  rintro n s' ⟨ml', H', wd', h', tk', m', hG, E, c', rfl⟩
  refine wpAny_mono (h n ml' H' hG hs c' (Qm := _) fun b a H1 w1 h1 t1 q1 x1 r1 c1 => ?_) (fun _ _ y => y) fun _ _ y => y.elim
  cases r1
  cases b with
  | false =>
    show wpAny _ _ (execs [] env) _ _ _
    exact wpAny_execs_nil (k _ _ ml' H1 w1 h1 t1 m' q1 (E.trans x1) .next c1)
  | true =>
    refine wpAny_mono (q1 hs hl c1 (Qm := _) fun f f' ml2 H2 w2 h2 t2 m2 q2 x2 r2 c2 => ?_) (fun _ _ y => y) fun _ _ y => y.elim
    cases r2 with
    | next => obtain ⟨j, hj, g⟩ := q2; exact ⟨j, hj, .mk ml2 H2 w2 h2 t2 m2 g ((E.trans x1).trans x2) c2 rfl⟩
    | cont => obtain ⟨j, hj, g⟩ := q2; exact ⟨j, hj, .mk ml2 H2 w2 h2 t2 m2 g ((E.trans x1).trans x2) c2 rfl⟩
    | brk => exact k _ _ ml2 H2 w2 h2 t2 m2 q2 ((E.trans x1).trans x2) .next c2
    | ret r => exact k _ _ ml2 H2 w2 h2 t2 m2 q2 ((E.trans x1).trans x2) (.ret r) c2
theorem T1_assign_cell (hpu : M.pu = false) {x : Str} {l : Loc} {xp pos : Pos} {value : Expr} {Q : FV → List (Str × V) → MH → Prop} (hw : ∀ env, swapsWith value (some (.Name x xp)) pos.line env = pure false) (hk : sc.names.lookup x = some .cell)
    (hl : cl.lookup x = some l) (h : TE M d sc cl ml H value fun v H' => (∃ o, H'.c l = some (.var o)) ∧ Q .next ml (H'.put l (.var (some v)))) : T1 M d sc cl ml H (.Assign [.Name x xp] value pos) Q := by
  intro A base h₀ outer env L m s wd Qm hs hL c k
  refine wpAny_Assign_Name (h hs c fun v v' H1 w1 h1 t1 q1 x1 r1 c1 => ?_) (hw _)
  obtain ⟨⟨ov, hc⟩, q⟩ := q1
  obtain ⟨a, g1, g2⟩ := c1.cr x l hl
  obtain ⟨a', o, ov', e1, e2, e3, e4⟩ := c1.rel.cells l _ hc
  obtain rfl : a = a' := Option.some.inj (g2.symm.trans e1)
  have hget := (c1.N _ e2)
  refine wpAny_storeName_cell c1.ek (by unfold Env.kindOf; rw [hs]; exact hk) g1 ⟨o, hget.1, e3⟩ fun h' hc' hsb => ?_
  obtain ⟨o', ho', hd'⟩ := hc'
  obtain ⟨news', U, E, R⟩ := Rel.set hpu c1.rel (o' := o') (c := .var (some v)) g2 e2 fun news' hm' hp E => ⟨a, o', some v', E.sub _ _ _ g2, hm', hd', v', rfl, r1.ext _ E⟩
  refine k _ _ ml _ ⟨w1.ρ, news'⟩ h' t1 m q (x1.trans E) .next (c1.go (c1.F.change hsb hget.2.1 hget.2.2) ?_ E R)
  obtain ⟨pre, post, hw', rfl, p1, p2⟩ := U.split
  have N := c1.N
  rw [hw'] at N
  intro p hp
  rcases List.mem_append.mp hp with q | q
  · have := N _ (List.mem_append_left _ q)
    exact ⟨hsb.2 _ (p1 _ q) ▸ this.1, this.2⟩
  · rcases List.mem_cons.mp q with rfl | q
    · exact ⟨ho', hget.2⟩
    · have := N _ (List.mem_append_right _ (.tail _ q))
      exact ⟨hsb.2 _ (p2 _ q) ▸ this.1, this.2⟩
end
theorem VRs.get' {K : Frag} {w : WD} : ∀ {xs : List V} {vs : List Value} {i : Nat} {v : Value}, VRs K w xs vs → vs[i]? = some v → ∃ x, xs[i]? = some x ∧ VR K w x v
  | _, _, 0, _, .cons h _, e => by cases e; exact ⟨_, rfl, h⟩
  | _, _, i + 1, _, .cons _ r, e => by
    simp only [List.getElem?_cons_succ] at e ⊢
    exact r.get' e
  | _, _, _, _, .nil, e => by simp at e
section
variable {M : Amb} {d : Nat} {sc : Scope} {cl : List (Str × Loc)} {ml : List (Str × V)} {H : MH}
theorem T1_forsplit {x : Str} {xp apos cp pos : Pos} {o : Expr} {name : Str} {body : List Stmt} {pl : Env → Sem Bool} {Q : FV → List (Str × V) → MH → Prop}
    (he : ∀ env, eval (.Call (.Attribute o name apos) [] [] cp) env = (do
      let ov ← eval o env
      standAt apos.atName
      let (f, first) ← holding [ov] (getMethod ov name (pl env))
      callWith cp f first (backTo cp (starEach [] env)) []))
    (slot : Slot "str" name "str.split") (pa : PlainAttrs "str") (hty : typeOf (.builtin "str.split") = pure (.type "method_descriptor"))
    (hk : sc.names.lookup x = some .local) (hse : ∀ env v, foldedSetIterable (.Call (.Attribute o name apos) [] [] cp) env v = pure v) (ys : List Str) (G : Nat → List (Str × V) → MH → Prop)
    (h : TE M d sc cl ml H o fun v H1 => ∃ w, v = .str w ∧ w.length ≤ 1000 ∧ Txt.words w = ys ∧ G 0 ml H1 ∧
      (∀ i ml₁ H₁, i < ys.length → G i ml₁ H₁ → TS M d sc cl ((x, .str (ys.getD i "")) :: ml₁) H₁ body (loopS Q (G (i + 1)))) ∧ ∀ ml' H', G ys.length ml' H' → Q .next ml' H') :
    T1 M d sc cl ml H (.For (.Name x xp) (.Call (.Attribute o name apos) [] [] cp) body [] pos) Q := by
  intro A base h₀ outer env L m s wd Qm hs hl c k
  have hkx : env.kindOf x = some .local := by unfold Env.kindOf; rw [hs]; exact hk
  refine For_invV h₀ hkx (by rw [c.ek]; rfl) ?_ (hse env) passes_false
  refine MethodCall_ (h hs c fun f f' H1 w1 h1 t1 q1 x1 r1 c1 => ?_) (he _)
  obtain ⟨wd0, rfl, hz, hw, g0, step, hend⟩ := q1
  have ty : V.isTy H1 (.str wd0) "str" := rfl
  obtain ⟨i1, i2⟩ := isTy_of c1 r1 ty
  refine getMethod_builtin i1 pa slot hty i2 ?_
  dsimp only
  rw [show starEach [] env = argTrees [] env by rfl, back_args]
  refine Calls.callWith_builtin (args_any _ _) (evalArgs_trees ?_)
  refine wpAny_pure ?_
  obtain ⟨_, rfl⟩ := r1.str_i
  refine splitN0 c1.F c1.N (fun p h' tk e F' N' => ?_) (Nat.le_trans (Nat.add_le_add_right hz 2) (by decide))
  have r := vrs_strs (M := M) (w := w1) p
  rw [e, hw] at r
  have hl2 : h'.IsList h1.objs.size (strValues p).toArray := ⟨_, (N' _ (.head _)).1, rfl, 0, rfl⟩
  have nk := c1.fresh
  have c2 := c1.go (tk' := tk) F' N' (Ext.more _ _ _) (c1.rel.more _ nk)
  refine wpAny_pyIter_list (s := { s with heap := h', toks := tk }) hl2 ?_
  have hIlt : ∀ p' ∈ (w1.more h1.objs.size (listOf (strValues p).toArray 0)).news, p'.1 < h'.objs.size := fun p hp => Heap.lt_size (c2.N p hp).1
  have hL : L < h'.objs.size := F'.ns.lt
  have hax : h1.objs.size < h'.objs.size := Heap.lt_size (N' _ (.head _)).1
  have c3 := c2.go (tk' := tk) (c2.F.push { cls := .type "list_iterator", data := .fields #[.ref h1.objs.size, .int 0 0] }) (c2.N.grown fun _ _ e => Heap.get?_push_of_some _ e) (Ext.refl _) c2.rel
  have hlen : (strValues p).toArray.size = ys.length := by
    rw [List.size_toArray, r.length, List.length_map]
  have nim : ¬ (w1.more h1.objs.size (listOf (strValues p).toArray 0)).im h1.objs.size := fun ⟨l, b, hb⟩ => nk (c1.rel.dom l b _ hb)
  have W := Walks.list (prog := M.prog) (w := M.w) c.hh h'.objs.size h1.objs.size (Nat.ne_of_lt hax) (strValues p).toArray
  rw [hlen] at W
  refine for_core hs hl c3 W (fresh_of hIlt) (Nat.ne_of_gt hL) ?_ (fun b hb => ?_) (fun i h st => ?_) ⟨⟨_, Heap.get?_push_size _ rfl, rfl, rfl⟩, hl2.push _⟩ (fun i => .str (ys.getD i "")) (fun i v wd' hP E' => ?_) G g0 step hend fun f f' ml' H' wd' h' tk' m' q x r c' => k f f' ml' H' wd' h' tk' m' q ((x1.trans (Ext.more _ _ _)).trans x) r c'
  · cases q : h₀.get? h'.objs.size with
    | none => rfl
    | some o => exact absurd (Heap.lt_size (F'.keep _ _ q)) (Nat.lt_irrefl _)
  · rcases List.mem_cons.mp hb with rfl | hb
    · exact .inl rfl
    · rw [List.mem_singleton.mp hb]
      exact .inr ⟨_, .head _, nim⟩
  · obtain ⟨⟨o, h1, h2, _⟩, _⟩ := st
    exact ⟨o, h1, by rw [h2]; decide⟩
  · have hP' : (strValues p)[i]? = some v := by simpa using hP
    obtain ⟨y, y1, y2⟩ := r.get' hP'
    rw [List.getElem?_map] at y1
    cases hy : ys[i]? with
    | none => rw [hy] at y1; cases y1
    | some z =>
      rw [hy] at y1; cases y1
      have : ys.getD i "" = z := by rw [List.getD_eq_getElem?_getD, hy]; rfl
      rw [this]
      exact (y2.vex _ (Ext.more (pu := true) _ _ _).vex).ext _ E'
end
inductive PRs (K : Frag) (w : WD) : List (Str × V) → List (Value × Value) → Prop
  | nil : PRs K w [] []
  | cons {k : Str} {t : Tok} {x : V} {v : Value} {es : List (Str × V)} {ds : List (Value × Value)} : VR K w x v → PRs K w es ds → PRs K w ((k, x) :: es) ((.str k t, v) :: ds)
theorem PRs.keys {K : Frag} {w : WD} : ∀ {es : List (Str × V)} {ds : List (Value × Value)}, PRs K w es ds → allStrKeys ds = true := by
  intro es ds h
  induction h with
  | nil => rfl
  | cons _ _ ih => exact ih
theorem PRs.names {K : Frag} {w : WD} : ∀ {es : List (Str × V)} {ds : List (Value × Value)}, PRs K w es ds → (strPairs ds).map (·.1) = es.map (·.1) := by
  intro es ds h
  induction h with
  | nil => rfl
  | cons _ _ ih => show _ :: _ = _; rw [ih]; rfl
theorem PRs.dr {K : Frag} {w : WD} : ∀ {es : List (Str × V)} {ds : List (Value × Value)}, PRs K w es ds → DR K w es (strPairs ds) := by
  intro es ds h
  induction h with
  | nil => exact .nil
  | cons h _ ih => exact .cons h ih
noncomputable abbrev TEd (M : Amb) (d : Nat) (sc : Scope) (cl : List (Str × Loc)) (ml : List (Str × V)) (H : MH) (keys : List (Option Expr)) (values : List Expr) (pos : Pos) (Q : List (Str × V) → MH → Prop) : Prop :=
  TG PRs M d sc cl ml H (fun env => evalPairs (pairTrees keys values env pos)) Q
section
variable {M : Amb} {d : Nat} {sc : Scope} {cl : List (Str × Loc)} {ml : List (Str × V)} {H : MH}
theorem TEd_nil {pos : Pos} {Q : List (Str × V) → MH → Prop} (h : Q [] H) : TEd M d sc cl ml H [] [] pos Q := by
  intro A base h₀ outer fenv env L m mm s wd Qm hs c k
  exact evalPairs_nil (k _ _ H wd s.heap s.toks h (Ext.refl _) .nil (c.tok _))
theorem TEd_cons {x : Str} {n : Nat} {kp pos : Pos} {keys : List (Option Expr)} {e : Expr} {values : List Expr} {Q : List (Str × V) → MH → Prop} (h : TE M d sc cl ml H e fun v H1 => TEd M d sc cl ml H1 keys values pos fun es H2 => Q ((x, v) :: es) H2) :
    TEd M d sc cl ml H (some (.Constant (.str x) n kp) :: keys) (e :: values) pos Q := by
  intro A base h₀ outer fenv env L m mm s wd Qm hs c k
  refine evalPairs_cons (wpAny_Constant_str ?_)
  refine wpAny_bind (h hs (c.tok (s.toks + 1)) fun v v' H1 w1 h1 t1 q1 x1 r1 c1 => wpAny_bind (wpAny_standAt (wpAny_pure (q1 hs c1 fun es ds H2 w2 h2 t2 q2 x2 r2 c2 => ?_))))
  exact k _ _ H2 w2 h2 t2 q2 (x1.trans x2) (.cons (r1.ext _ x2) r2) c2
theorem TE_dict {keys : List (Option Expr)} {values : List Expr} {pos : Pos} {l : Loc} {Q : V → MH → Prop} (hsl : strLits keys = true) (hall : keys.all (·.isSome) = true) (hlen : keys.length = values.length) (h0 : keys ≠ []) (hle : keys.length ≤ 15)
    (h : TEd M d sc cl ml H keys values pos fun es H1 => (es.map (·.1)).Nodup ∧ H1.free l ∧ Q (.cell l) (H1.add l (.dict es))) : TE M d sc cl ml H (.Dict keys values pos) Q := by
  intro A base h₀ outer fenv env L m mm s wd Qm hs c k
  refine kdn_str hsl c.F c.N c.T.nolimit hall hlen h0 hle fun dd h' o F' N' hlt hsys ho => ?_
  have nk : dd ∉ wd.keys := fresh_of hlt
  have c1 := c.go (tk' := s.toks) F' N' (Ext.more (pu := M.pu) wd dd o) (c.rel.more o nk)
  refine h hs c1 fun es ds H2 w2 h2 t2 q2 x2 r2 c2 => ?_
  obtain ⟨hnd, hf, q⟩ := q2
  have nim0 : ¬ (wd.more dd o).im dd := fun ⟨l, b, hb⟩ => nk (c.rel.dom l b _ hb)
  have hm := x2.pers (dd, o) (.head _) nim0
  have nim := x2.im (mem_keys (p := (dd, o)) (.head _)) nim0
  have hcls : o.cls ≠ .type "tuple" := by
    obtain ⟨es, ep, h1, h2, h3, h4, h5⟩ := ho
    rw [h1.1]; decide
  obtain ⟨g, U, hg⟩ := c2.rel.adopt hf hm nim hcls
  refine kdn_made_str c2.F c2.N U ho r2.keys (by rw [r2.names]; exact hnd) fun h3 o' F3 N3 ho' => ?_
  obtain ⟨hk, hp, hc⟩ := hg o'
  obtain ⟨E, R⟩ := hc (.dict es) fun w' hw hm' E => ⟨dd, o', _, hw, hm', hsys, ho', r2.dr.ext _ E⟩
  have E2 : Ext M.pu wd _ := Ext.adopt x2 nk (fun b => c2.rel.free l b hf) hk hp
  exact k _ _ _ _ h3 _ q E2 (.cell (name_at ..)) (c.go F3 N3 E2 R)
theorem TE_dict_nil {pos : Pos} {l : Loc} {Q : V → MH → Prop} (hf : H.free l) (h : Q (.cell l) (H.add l (.dict []))) : TE M d sc cl ml H (.Dict [] [] pos) Q := by
  intro A base h₀ outer fenv env L m mm s wd Qm hs c k
  refine newDict_K c.F c.N c.T.nolimit fun dd h' o F' N' hlt hsys ho _ _ _ => ?_
  have nk : dd ∉ wd.keys := fresh_of hlt
  have E : Ext M.pu wd ((wd.more dd o).name l false dd) := Ext.name (c.rel.free l false hf) nk
  exact k _ _ _ _ h' s.toks h E (.cell (name_at ..)) (c.go F' N' E (c.rel.name hf nk ⟨dd, o, [], name_at .., .head _, hsys, ho, .nil⟩))
end
section
variable {M : Amb} {d : Nat} {cl : List (Str × Loc)} {ml : List (Str × V)} {H : MH}
theorem CALL_cells {name qual : Str} {params : Arguments} {body : List Stmt} {scope : Scope} {dV kV doc pm cdv ct oc : Value} {an od : Option Addr} {osl : Array (Option Value)} {f : Addr} {xs : List V} {x : Str} {l : Loc} {binds : List (Str × V)} {lb : List (Str × V)} {cv : Option V} {Q : V → MH → Prop}
    (ho : M.K.lookup f = some ⟨oc, od, .func (fnOf name qual params body scope dV kV doc pm an cdv ct), osl⟩) (hcd : codeIn M.K cdv qual = true)
    (hb : ∀ (s : Shared) (wd : WD) (vals : List Value), VRs M.K wd xs vals → M.K.In s.heap → ∃ bs, BindsTo s (fnOf name qual params body scope dV kV doc pm an cdv ct) ⟨vals, []⟩ bs ∧ BR M.K wd binds bs)
    (hkind : (binds.all fun y => scope.names.lookup y.1 == some .local || scope.names.lookup y.1 == some .cell) = true)
    (hcf : ∀ n, cellsFrom n scope.names [] = [(x, n)]) (hco : scope.isCoroutine = false) (hgen : scope.isGenerator = false) (hk : scope.kind = .function)
    (hL : ∀ (wd : WD) (bs : List (Str × Value)) (L' : Addr), BR M.K wd binds bs → (∀ y u, lb.lookup y = some u → ∃ u', bindL (envOfC qual scope L' f cdv).kindOf bs (fun _ => none) y = some u' ∧ VR M.K wd u u') ∧
      (match cv with | some u => ∃ u', bindC (envOfC qual scope L' f cdv).kindOf bs (fun _ => none) x = some u' ∧ VR M.K wd u u' | none => True))
    (hl : H.free l) (h : TS M d scope [(x, l)] lb (H.add l (.var cv)) body (backS Q)) : CALL M (d + 1) cl ml H f xs Q := by
  intro A base h₀ outer fenv env L m mm s wd R xs' c r k
  obtain ⟨bs, hb1, hb2⟩ := hb s wd xs' r (c.X.keeps c.F.keep)
  obtain ⟨A₀, B⟩ := c.bel
  have hkind' : (bs.all fun y => scope.names.lookup y.1 == some .local || scope.names.lookup y.1 == some .cell) = true := by
    refine List.all_eq_true.mpr fun y hy => ?_
    have hm : y.1 ∈ binds.map (·.1) := by rw [← hb2.names]; exact List.mem_map_of_mem hy
    obtain ⟨z, hz, e⟩ := List.mem_map.mp hm
    rw [← e]
    exact List.all_eq_true.mp hkind z hz
  refine PySem.W.code_defC B c.F c.X c.N c.T c.hA c.ff c.fk ho hcd (by have := c.room; show _ < 1000; omega) hb1 hkind' (by rw [hcf]; simp) (fun g L' h₁ tk cells FG F' N' Y B' X' T' lt => ?_) hco hgen hk
  rw [hcf] at Y
  obtain ⟨o', rfl, hd⟩ := CellsAre.one Y
  obtain ⟨hl1, hl2⟩ := hL wd bs L' hb2
  have nk : L' + 1 ∉ wd.keys := fun hm => by
    obtain ⟨p, hp, e⟩ := List.mem_map.mp hm
    have := lt p hp
    rw [e] at this
    exact absurd this (Nat.not_lt_of_le (Nat.le_succ _))
  have E : Ext M.pu wd ((wd.more (L' + 1) o').name l false (L' + 1)) := Ext.name (c.rel.free l false hl) nk
  have R' : Rel M.K M.prog M.w ((wd.more (L' + 1) o').name l false (L' + 1)) (H.add l (.var cv)) := c.rel.name hl nk ⟨L' + 1, o', _, name_at .., .head _, hd, by
    cases cv with
    | none => trivial
    | some u => obtain ⟨u', e1, e2⟩ := hl2; exact ⟨u', e1, e2.ext _ E⟩⟩
  have C' : CX M d (A.deeper (envOfC qual scope L' f cdv)) base g (fenv :: outer) (envOfC qual scope L' f cdv) (envOfC qual scope L' f cdv) L' (bindL (envOfC qual scope L' f cdv).kindOf bs fun _ => none) (bindL (envOfC qual scope L' f cdv).kindOf bs fun _ => none) [(x, l)] lb { s with heap := h₁, toks := tk } ((wd.more (L' + 1) o').name l false (L' + 1)) (H.add l (.var cv)) :=
    { hA := Around.frames_deeper c.hA
      bel := ⟨_, B'⟩
      ff := rfl
      fk := hk
      F := F'
      N := N'
      X := X'
      Z := fun p hp => FG.keep _ _ (c.Z p hp)
      T := T'
      hh := c.hh
      room := by have := c.room; show A.depth + 1 + 4 * d ≤ 600; omega
      units := by have := c.units; show A.units + 3 + 20 * d ≤ 9000; omega
      ek := hk
      eg := rfl
      eb := rfl
      loc := .inl ⟨rfl, rfl⟩
      lr := fun y u hy => let ⟨u', e1, e2⟩ := hl1 y u hy; ⟨u', e1, e2.ext _ E⟩
      cr := fun y l' hy => by
        rw [List.lookup_cons] at hy
        cases q : (y == x) with
        | false => rw [q] at hy; cases hy
        | true =>
          rw [q] at hy; cases hy
          refine ⟨L' + 1, ?_, name_at ..⟩
          show (cellsFrom (L' + 1) scope.names []).lookup y = _
          rw [hcf, List.lookup_cons, q]
      rel := R' }
  refine wpAny_mono (h rfl rfl C' (Qm := fun fl s' => LeaveK h₀ L m g R (match fl with | .ret v => v | _ => .none) s') fun fl fl' ml' H' wd' h' tk' m' q x rr c' => ?_) (fun _ _ y => y) fun _ _ y => y.elim
  have fin : ∀ v v', Q v H' → VR M.K wd' v v' → LeaveK h₀ L m g R v' { s with heap := h', toks := tk' } := fun v v' qv rv =>
    ⟨L', m', wd'.news, c'.F, c'.N, fun Fb Nb => k v v' H' wd' h' tk' qv (E.trans x) rv (c.go Fb Nb (E.trans x) c'.rel)⟩
  cases rr with
  | ret rv => exact fin _ _ q rv
  | next => exact fin _ _ q .none
  | brk => exact q.elim
  | cont => exact q.elim
end
noncomputable def NoTup (it : Obj) : Prop := ∀ vs, it ≠ tupObj vs
theorem noTup_cls {it : Obj} (h : it.cls ≠ .type "tuple") : NoTup it := fun vs e => h (by rw [e])
theorem noTup_dict {it : Obj} {es ep} (h : it.data = .dict es ep) : NoTup it := fun vs e => by rw [e] at h; cases h
theorem Vex.less' {w : WD} {I : Addr} {it : Obj} (hn : w.keys.Nodup) (hm : (I, it) ∈ w.news) (ht : NoTup it) : Vex w (w.less I) :=
  ⟨fun _ _ _ h => h, fun a vs h n => ⟨mem_less.mpr ⟨h, fun e => by
    have e : a = I := e
    subst e
    exact ht vs (nodup_eq hn hm h)⟩, n⟩⟩
theorem Rel.less' {K : Frag} {prog : Program} {wo : World} {w : WD} {H : MH} (r : Rel K prog wo w H) {I : Addr} {it : Obj} (hm : (I, it) ∈ w.news) (ht : NoTup it) (hn : ¬ w.im I) : Rel K prog wo (w.less I) H where
  cells l c h := (r.cells l c h).keep (Vex.less' r.nod hm ht) fun b a o h1 h2 => mem_less.mpr ⟨h2, fun e => hn ⟨l, b, by rw [h1]; exact congrArg some e⟩⟩
  inj := r.inj
  nod := (List.filter_sublist.map _).nodup r.nod
  dom l b a h := by
    obtain ⟨p, hp, e⟩ := List.mem_map.mp (r.dom l b a h)
    exact key_mem (mem_less.mpr ⟨hp, fun q => hn ⟨l, b, by have h2 : w.ρ l b = some a := h; rw [h2, ← e, q]⟩⟩) e
  free := r.free
theorem Ext.weak {pu : Bool} {w w' : WD} (e : Ext true w w') : Ext pu w w' := ⟨e.sub, e.new, e.pers, e.kin, fun _ => e.pure rfl⟩
noncomputable def Amb.pur (M : Amb) : Amb := { M with pu := true }
noncomputable def relS (scope sc : Scope) : Scope := { scope with names := scope.names.map fun (n, k) => if (k == .free && sc.kind == .function && sc.names.lookup n == some .cell) then (n, .cell) else (n, k) }
theorem relabel_eq {scope sc : Scope} {env : Env} (h : env.scope = sc) : relabel scope env = relS scope sc := by subst h; rfl
noncomputable def WD.more3 (w : WD) (I : Addr) (i : Obj) (D : Addr) (o : Obj) (C : Addr) (c : Obj) : WD := ((w.more I i).more D o).more C c
noncomputable def WD.less3 (w : WD) (I D C : Addr) : WD := ((w.less C).less D).less I
theorem mem_less3 {w : WD} {I D C : Addr} {p : Addr × Obj} (hp : p ∈ (w.less3 I D C).news) : p ∈ w.news ∧ p.1 ≠ I ∧ p.1 ≠ D ∧ p.1 ≠ C :=
  let a := mem_less.mp hp
  let b := mem_less.mp a.1
  let c := mem_less.mp b.1
  ⟨c.1, a.2, b.2, c.2⟩
theorem out3 {w : WD} {I D C : Addr} : I ∉ (w.less3 I D C).keys ∧ D ∉ (w.less3 I D C).keys ∧ C ∉ (w.less3 I D C).keys := by
  have q : ∀ a, a ∈ (w.less3 I D C).keys → a ≠ I ∧ a ≠ D ∧ a ≠ C := fun a ha => by
    obtain ⟨p, hp, rfl⟩ := List.mem_map.mp ha
    exact (mem_less3 hp).2
  exact ⟨fun h => (q _ h).1 rfl, fun h => (q _ h).2.1 rfl, fun h => (q _ h).2.2 rfl⟩
theorem Ext.more3 (w : WD) (I : Addr) (i : Obj) (D : Addr) (o : Obj) (C : Addr) (c : Obj) : Ext true w (w.more3 I i D o C c) := ((Ext.more _ _ _).trans (Ext.more _ _ _)).trans (Ext.more _ _ _)
theorem Rel.more3 {K : Frag} {prog : Program} {wo : World} {w : WD} {H : MH} (r : Rel K prog wo w H) {I D C : Addr} (i o c : Obj) (kI : I ∉ w.keys) (kD : D ∉ w.keys) (kC : C ∉ w.keys) (ID : I ≠ D) (IC : I ≠ C) (DC : D ≠ C) : Rel K prog wo (w.more3 I i D o C c) H := by
  refine ((r.more i kI).more o fun hm => ?_).more c fun hm => ?_
  · rcases List.mem_cons.mp hm with e | hm
    · exact ID e.symm
    · exact kD hm
  · rcases List.mem_cons.mp hm with e | hm
    · exact DC e.symm
    · rcases List.mem_cons.mp hm with e | hm
      · exact IC e.symm
      · exact kC hm
theorem News.more3 {h₀ h : Heap} {L : Addr} {w : WD} (N : News h₀ L h w.news) {I D C : Addr} {i o c : Obj} (hi : h.get? I = some i ∧ I ≠ L ∧ h₀.get? I = none) (ho : h.get? D = some o ∧ D ≠ L ∧ h₀.get? D = none) (hc : h.get? C = some c ∧ C ≠ L ∧ h₀.get? C = none) : News h₀ L h (w.more3 I i D o C c).news := fun p hp => by
  rcases List.mem_cons.mp hp with rfl | hp
  · exact hc
  · rcases List.mem_cons.mp hp with rfl | hp
    · exact ho
    · rcases List.mem_cons.mp hp with rfl | hp
      · exact hi
      · exact N p hp
theorem less3_of {K : Frag} {prog : Program} {wo : World} {w w4 : WD} {H H4 : MH} {I D C : Addr} {i o c : Obj} (r : Rel K prog wo w H) (x : Ext true (w.more3 I i D o C c) w4) (r4 : Rel K prog wo w4 H4) (kI : I ∉ w.keys) (kD : D ∉ w.keys) (kC : C ∉ w.keys) (ID : I ≠ D) (IC : I ≠ C) (DC : D ≠ C)
    (tI : NoTup i) (tD : NoTup o) (tC : NoTup c) : Rel K prog wo (w4.less3 I D C) H4 ∧ Vex w4 (w4.less3 I D C) ∧ Ext true w (w4.less3 I D C) ∧ (I, i) ∈ w4.news ∧ (D, o) ∈ w4.news ∧ (C, c) ∈ w4.news := by
  have imn : ∀ a, a ∉ w.keys → ¬ (w.more3 I i D o C c).im a := fun a ha ⟨l, b, hb⟩ => ha (r.dom l b a hb)
  have mC := x.pers _ (.head _) (imn C kC)
  have mD := x.pers _ (.tail _ (.head _)) (imn D kD)
  have mI := x.pers _ (.tail _ (.tail _ (.head _))) (imn I kI)
  have RC := r4.less' mC tC (x.im (mem_keys (p := (C, c)) (.head _)) (imn C kC))
  have mD5 : (D, o) ∈ (w4.less C).news := mem_less.mpr ⟨mD, DC⟩
  have RD := RC.less' mD5 tD (x.im (mem_keys (p := (D, o)) (.tail _ (.head _))) (imn D kD))
  have mI6 : (I, i) ∈ ((w4.less C).less D).news := mem_less.mpr ⟨mem_less.mpr ⟨mI, IC⟩, ID⟩
  have RI := RD.less' mI6 tI (x.im (mem_keys (p := (I, i)) (.tail _ (.tail _ (.head _)))) (imn I kI))
  have v1 := Vex.less' r4.nod mC tC
  have v2 := Vex.less' RC.nod mD5 tD
  have v3 := Vex.less' RD.nod mI6 tI
  refine ⟨RI, ⟨fun l b a h => v3.sub l b a (v2.sub l b a (v1.sub l b a h)), fun a vs h n => let q1 := v1.tup a vs h n; let q2 := v2.tup a vs q1.1 q1.2; v3.tup a vs q2.1 q2.2⟩, Ext.less (Ext.less (Ext.less x fun hm => ?_) fun hm => ?_) kI, mI, mD, mC⟩
  · rcases List.mem_cons.mp hm with e | hm
    · exact DC e.symm
    · rcases List.mem_cons.mp hm with e | hm
      · exact IC e.symm
      · exact kC hm
  · rcases List.mem_cons.mp hm with e | hm
    · exact ID e.symm
    · exact kD hm
inductive LI (M : Amb) (d : Nat) (A : Around) (base h₀ : Heap) (outer : List Env) (fenv env : Env) (L : Addr) (m mm : Str → Option Value) (cl : List (Str × Loc)) (ml : List (Str × V)) (s : Shared) (wd : WD) (G : Nat → List V → MH → Prop) (n : Nat) (I D C ax : Addr) (k : Nat) (s' : Shared) : Prop
  | mk (i : Nat) (h' : Heap) (tk : Tok) (wd' : WD) (H' : MH) (ys : List V) (us : List Value) (mC' : Str → Option Value) (e1 : s' = { s with heap := h', toks := tk }) (e2 : k = n + 1 - i) (hi : i ≤ n) (hG : G i ys H') (E : Ext true wd wd') (hus : VRs M.K wd' ys us)
    (c' : CX M d A base h₀ outer fenv env L m mm cl ml { s with heap := h', toks := tk } wd' H') (kI : I ∉ wd'.keys) (kD : D ∉ wd'.keys) (kC : C ∉ wd'.keys) (hD : h'.PlainList D us.toArray) (hC : h'.Ns C mC') (hI : h'.IsListIter I ax i) (hul : us.length = i) : LI M d A base h₀ outer fenv env L m mm cl ml s wd G n I D C ax k s'
section
variable {M : Amb} {d : Nat} {A : Around} {base h₀ : Heap} {outer : List Env} {fenv env : Env} {L : Addr} {m mm : Str → Option Value} {cl : List (Str × Loc)} {ml : List (Str × V)} {s : Shared} {wd : WD} {H : MH} {R : Result → Shared → Prop}
theorem comp_loop {sc : Scope} {elt iter : Expr} {x : Str} {px : Pos} {scope : Scope} {ccl : List (Str × Addr)} {cl' : List (Str × Loc)} {pos : Pos} {I D C : Addr} {l : Loc} {xs : List V} {mC : Str → Option Value}
    (hs : env.scope = sc) (c : CX M d A base h₀ outer fenv env L m mm cl ml s wd H) (hlist : H.c l = some (.list xs)) (hz : xs.length ≤ 1000)
    (hkind : scope.kind = .function) (hx : (relS scope sc).names.lookup x = some .local)
    (hcc : ∀ y l', cl'.lookup y = some l' → ∃ a, ccl.lookup y = some a ∧ wd.ρ l' false = some a)
    {ax : Addr} (hax : wd.ρ l false = some ax) (hI : s.heap.IsListIter I ax 0) (hD : s.heap.PlainList D #[]) (hC : s.heap.Ns C mC)
    (kI : I ∉ wd.keys) (kD : D ∉ wd.keys) (kC : C ∉ wd.keys) (lI : I ≠ L) (lD : D ≠ L) (lC : C ≠ L) (oI : h₀.get? I = none) (oD : h₀.get? D = none) (oC : h₀.get? C = none) (ID : I ≠ D) (IC : I ≠ C) (DC : D ≠ C)
    (G : Nat → List V → MH → Prop) (g0 : G 0 [] H)
    (step : ∀ i ys H₁ xi, xs[i]? = some xi → G i ys H₁ → TE M.pur d (relS scope sc) cl' [(x, xi)] H₁ elt fun y H₂ => G (i + 1) (ys ++ [y]) H₂)
    (hR : ∀ h' tk wd' H' ys us mC', G xs.length ys H' → Ext M.pu wd wd' → VRs M.K wd' ys us → CX M d A base h₀ outer fenv env L m mm cl ml { s with heap := h', toks := tk } wd' H' → D ∉ wd'.keys → C ∉ wd'.keys → h'.PlainList D us.toArray → h'.Ns C mC' →
      R (.ok .next) { s with heap := h', toks := tk }) :
    codeAny (model M.prog M.w) A (.compLoop (.ListComp elt [⟨.Name x px, iter, [], 0⟩] scope pos) 0 (.ref I) (.ref D) (compEnvC scope ccl C env)) R s := by
  obtain ⟨a0, vs, n0, e1, e2, e3⟩ := c.rel.cells l _ hlist
  obtain rfl : ax = a0 := Option.some.inj (hax.symm.trans e1)
  have hn : vs.length = xs.length := e3.length
  have haxI : ax ≠ I := fun e => kI (e ▸ mem_keys e2)
  have W := Walks.list (prog := M.prog) (w := M.w) c.hh I ax haxI vs.toArray
  have hkx : (compEnvC scope ccl C env).kindOf x = some .local := by
    show (relabel scope env).names.lookup x = _
    rw [relabel_eq hs]; exact hx
  refine codeAny_compLoop_tests (LI M d A base h₀ outer fenv env L m mm cl ml s wd G vs.length I D C ax) ?_ (vs.length + 1)
    (.mk 0 s.heap s.toks wd H [] [] mC rfl rfl (Nat.zero_le _) g0 (Ext.refl _) .nil (c.tok _) kI kD kC hD hC hI rfl)
  rintro k s' ⟨i, h', tk, wd', H', ys, us, mC', rfl, rfl, hi, hG, E, hus, c', kI', kD', kC', hD', hC', hI', hul⟩
  have hmem : (ax, listOf vs.toArray n0) ∈ wd'.news := E.pure rfl _ e2
  have hlst : h'.IsList ax vs.toArray := ⟨_, (c'.N _ hmem).1, rfl, n0, rfl⟩
  -- other entries stand while I changes
  have keepI : ∀ h1 : Heap, (∀ b o, b ∉ [I] → h'.get? b = some o → h1.get? b = some o) → Fr h₀ L h1 m ∧ News h₀ L h1 wd'.news := fun h1 hk =>
    ⟨⟨c'.F.ns.at' fun o e => hk _ _ (by simpa using lI.symm) e, fun b o e => hk b o (fun hm => by rw [List.mem_singleton.mp hm, oI] at e; cases e) (c'.F.keep b o e), c'.F.above⟩,
      fun p hp => ⟨hk _ _ (fun hm => kI' (List.mem_singleton.mp hm ▸ mem_keys hp)) (c'.N p hp).1, (c'.N p hp).2⟩⟩
  by_cases hlt : i < vs.length
  · refine W.item i _ _ _ (by simpa using hlt) ⟨hI', hlst⟩ fun v h1 tk1 hPv hst1 hk1 => ?_
    obtain ⟨F1, N1⟩ := keepI h1 hk1
    have hC1 : h1.Ns C mC' := hC'.at' fun o e => hk1 _ _ (by simpa using IC.symm) e
    have hD1 : h1.PlainList D us.toArray := hD'.at fun o e => hk1 _ _ (by simpa using ID.symm) e
    refine wpAny_assign_Name (wpAny_storeName_local hkx hC1 (fun h2 hC2 hs2 => ?_) (by
      have : (compEnvC scope ccl C env).scope.kind = .function := hkind
      rw [this]; rfl))
    have hC2 : h2.Ns C _ := hC2
    have hs2 : Heap.SameBut C h1 h2 := hs2
    have F2 : Fr h₀ L h2 m := F1.change hs2 lC oC
    have N2 : News h₀ L h2 wd'.news := fun p hp => ⟨(hs2.2 _ fun e => kC' (e ▸ mem_keys hp)).trans (N1 p hp).1, (N1 p hp).2⟩
    have hD2 : h2.PlainList D us.toArray := hD1.at fun o e => (hs2.2 _ DC).trans e
    have hI2 : h2.IsListIter I ax (i + 1) := by
      obtain ⟨o, q1, q2⟩ := hst1.1
      exact ⟨o, (hs2.2 _ IC).trans q1, q2⟩
    rw [List.forIn_nil]
    refine wpAny_pure ?_
    rw [if_pos rfl]
    obtain ⟨itO, i1, i2, _⟩ := id hI2
    obtain ⟨nD, d1⟩ := id hD2
    obtain ⟨cO, ces, cep, c1, c2, c3, c4n⟩ := id hC2
    have tI : NoTup itO := noTup_cls (by rw [i2]; decide)
    have tD : NoTup (listOf us.toArray nD) := noTup_cls (by show Value.type "list" ≠ _; decide)
    have tC : NoTup cO := noTup_dict c2
    have N3 := News.more3 N2 ⟨i1, lI, oI⟩ ⟨d1, lD, oD⟩ ⟨c1, lC, oC⟩
    have R3 := Rel.more3 c'.rel itO (listOf us.toArray nD) cO kI' kD' kC' ID IC DC
    have E3 := Ext.more3 wd' I itO D (listOf us.toArray nD) C cO
    have imC : ¬ (wd'.more3 I itO D (listOf us.toArray nD) C cO).im C := fun ⟨l, b, hb⟩ => kC' (c'.rel.dom l b C hb)
    have hPv : vs[i]? = some v := by simpa using hPv
    obtain ⟨xi, hxi, hrv⟩ := e3.get' hPv
    have cx : ∀ tk2, CX M.pur d A base h₀ outer fenv (compEnvC scope ccl C env) L m (fun y => if y = x then some v else mC' y) cl' [(x, xi)] { s with heap := h2, toks := tk2 } (wd'.more3 I itO D (listOf us.toArray nD) C cO) H' := fun tk2 =>
      { hA := c'.hA
        bel := c'.bel
        ff := c'.ff
        fk := c'.fk
        F := F2
        N := N3
        X := c'.X
        Z := c'.Z
        T := c'.T
        hh := c'.hh
        room := c'.room
        units := c'.units
        ek := hkind
        eg := c'.eg
        eb := c'.eb
        loc := .inr ⟨cO, ces, cep, .head _, imC, c2, c3, c4n⟩
        lr := fun y u hy => by
          rw [List.lookup_cons] at hy
          cases q : (y == x) with
          | false => rw [q] at hy; cases hy
          | true =>
            rw [q] at hy; cases hy
            exact ⟨v, by rw [if_pos (by simpa using q)], hrv.vex _ (E.trans E3).vex⟩
        cr := fun y l' hy => let ⟨a, a1, a2⟩ := hcc y l' hy; ⟨a, a1, (E.trans E3).sub _ _ _ a2⟩
        rel := R3 }
    refine wpAny_mono (step i ys H' xi hxi hG (relabel_eq hs) (cx _) (Qm := _) fun y y' H4 wd4 h4 tk4 g4 x4 r4 c4 => ?_) (fun _ _ q => q) (fun _ _ q => q.elim)
    obtain ⟨RI, V4, E4, mI4, mD4, mC4⟩ := less3_of c'.rel x4 c4.rel kI' kD' kC' ID IC DC tI tD tC
    have hD4 : h4.PlainList D us.toArray := ⟨nD, (c4.N _ mD4).1⟩
    refine wpAny_list_append_plain (hsz := by rw [List.size_toArray, hul]; exact Nat.le_trans (Nat.le_trans hi (hn ▸ hz)) (by decide)) hD4 fun h5 hl5 hs5 => ?_
    have F5 : Fr h₀ L h5 m := c4.F.change hs5 lD oD
    have N5 : News h₀ L h5 (wd4.less3 I D C).news := fun p hp => ⟨(hs5.2 _ (mem_less3 hp).2.2.1).trans (c4.N p (mem_less3 hp).1).1, (c4.N p (mem_less3 hp).1).2⟩
    refine ⟨vs.length + 1 - (i + 1), by omega, .mk (i + 1) h5 tk4 (wd4.less3 I D C) H4 (ys ++ [y]) (us ++ [y']) (fun y => if y = x then some v else mC' y) rfl rfl hlt g4 (E.trans E4) ((hus.vex _ E4.vex).append _ (.cons (r4.vex _ V4) .nil)) (c'.go F5 N5 E4.weak RI) out3.1 out3.2.1 out3.2.2 ?_ ?_ ?_ (by rw [List.length_append, hul]; rfl)⟩
    · rw [← List.push_toArray]; exact hl5
    · exact ⟨cO, ces, cep, (hs5.2 _ DC.symm).trans (c4.N _ mC4).1, c2, c3, c4n⟩
    · obtain ⟨o, q1, q2⟩ := hI2
      have : o = itO := Option.some.inj (q1.symm.trans i1)
      subst this
      exact ⟨o, (hs5.2 _ ID).trans (c4.N _ mI4).1, q2⟩
  · have hin : i = vs.length := by omega
    subst hin
    refine W.done _ _ _ (by simpa using (⟨hI', hlst⟩ : h'.IsListIter I ax vs.length ∧ h'.IsList ax vs.toArray)) fun h1 tk1 hk1 => ?_
    obtain ⟨F1, N1⟩ := keepI h1 hk1
    refine hR h1 tk1 wd' H' ys us mC' (hn ▸ hG) E.weak hus (c'.go F1 N1 (Ext.refl _) c'.rel) kD' kC' (hD'.at fun o e => hk1 _ _ (by simpa using ID.symm) e) (hC'.at' fun o e => hk1 _ _ (by simpa using IC.symm) e)
end
section
variable {M : Amb} {d : Nat} {A : Around} {base h₀ : Heap} {outer : List Env} {fenv env : Env} {L : Addr} {m mm : Str → Option Value} {cl : List (Str × Loc)} {ml : List (Str × V)} {s : Shared} {wd : WD} {H : MH} {E : Value → Shared → Prop}
theorem comp_block {sc : Scope} {elt iter : Expr} {x : Str} {px : Pos} {scope : Scope} {ccl : List (Str × Addr)} {cl' : List (Str × Loc)} {pos : Pos} {l : Loc} {xs : List V} {RR : Value → Addr → Result → Shared → Prop}
    (hs : env.scope = sc) (c : CX M d A base h₀ outer fenv env L m mm cl ml s wd H) (hlist : H.c l = some (.list xs)) (hz : xs.length ≤ 1000)
    (hkind : scope.kind = .function) (hcell : ∀ y ∈ scope.names, y.2 ≠ .cell) (hx : (relS scope sc).names.lookup x = some .local)
    (hcc : ∀ y l', cl'.lookup y = some l' → ∃ a, ccl.lookup y = some a ∧ wd.ρ l' false = some a)
    {ax : Addr} (hax : wd.ρ l false = some ax)
    (G : Nat → List V → MH → Prop) (g0 : G 0 [] H)
    (step : ∀ i ys H₁ xi, xs[i]? = some xi → G i ys H₁ → TE M.pur d (relS scope sc) cl' [(x, xi)] H₁ elt fun y H₂ => G (i + 1) (ys ++ [y]) H₂)
    (hR : ∀ D C h' tk wd' H' ys us mC', G xs.length ys H' → Ext M.pu wd wd' → VRs M.K wd' ys us → CX M d A base h₀ outer fenv env L m mm cl ml { s with heap := h', toks := tk } wd' H' → D ∉ wd'.keys → C ∉ wd'.keys → h'.PlainList D us.toArray → h'.Ns C mC' →
      D ≠ L → h₀.get? D = none → C ≠ L → h₀.get? C = none → D ≠ C → RR (.ref D) C (.ok .next) { s with heap := h', toks := tk }) :
    wpAny (model M.prog M.w) A (pyIter (.ref ax)) (fun it s₂ => wpAny (model M.prog M.w) A (newList []) (fun acc s₃ => wpAny (model M.prog M.w) A (newFunctionEnv scope env.globals ccl [] env.qual none .none (some env)) (fun cenv s₄ =>
      codeAny (model M.prog M.w) A (.compStart (.ListComp elt [⟨.Name x px, iter, [], 0⟩] scope pos) 0 it acc { cenv with scope := relabel scope env }) (RR acc cenv.locals) s₄) E s₃) E s₂) E s := by
  obtain ⟨a0, vs, n0, e1, e2, e3⟩ := c.rel.cells l _ hlist
  obtain rfl : ax = a0 := Option.some.inj (hax.symm.trans e1)
  have hl0 : s.heap.IsList ax vs.toArray := ⟨_, (c.N _ e2).1, rfl, n0, rfl⟩
  refine wpAny_pyIter_list hl0 ?_
  refine wpAny_newObj_type (wpAny_newFunctionEnv hcell (by intro y hy; simp at hy) (fun h₁ hns₁ hsb₁ => ?_) hkind)
  dsimp only at hns₁ hsb₁ ⊢
  have sz : s.heap.objs.size < s.heap.objs.size + 1 := Nat.lt_succ_self _
  -- the three addresses
  have e1' : (s.heap.push { cls := .type "list_iterator", data := .fields #[.ref ax, .int 0 0] }).objs.size = s.heap.objs.size + 1 := Heap.size_push ..
  generalize hH1 : s.heap.push { cls := .type "list_iterator", data := .fields #[.ref ax, .int 0 0] } = H1 at hns₁ hsb₁ e1' ⊢
  have e2' : (H1.push { cls := .type "list", dict := none, data := .seq ([] : List Value).toArray }).objs.size = H1.objs.size + 1 := Heap.size_push ..
  generalize hH2 : H1.push { cls := .type "list", dict := none, data := .seq ([] : List Value).toArray } = H2 at hns₁ hsb₁ e2' ⊢
  have hC : H2.objs.size = s.heap.objs.size + 2 := by rw [e2', e1']
  have up : ∀ b o, s.heap.get? b = some o → h₁.get? b = some o := fun b o e => by
    have hb := Heap.lt_size e
    refine hsb₁.extBut b o (Nat.ne_of_lt (by rw [hC]; exact Nat.lt_of_lt_of_le hb (Nat.le_add_right _ _))) (Heap.get?_push_of_some _ ?_)
    rw [← hH2]
    refine Heap.get?_push_of_some _ ?_
    rw [← hH1]
    exact Heap.get?_push_of_some _ e
  have F3 : Fr h₀ L h₁ m := ⟨c.F.ns.at' fun o e => up _ _ e, fun b o e => up b o (c.F.keep b o e), c.F.above⟩
  have N3 : News h₀ L h₁ wd.news := c.N.grown up
  have c3 := fun tk => c.go (tk' := tk) F3 N3 (Ext.refl _) c.rel
  have lt : ∀ p ∈ wd.news, p.1 < s.heap.objs.size := fun p hp => Heap.lt_size (c.N p hp).1
  have nk : ∀ a, s.heap.objs.size ≤ a → a ∉ wd.keys := fun a ha => fresh_of fun p hp => Nat.lt_of_lt_of_le (lt p hp) ha
  have nL : ∀ a, s.heap.objs.size ≤ a → a ≠ L := fun a ha => Nat.ne_of_gt (Nat.lt_of_lt_of_le c.F.ns.lt ha)
  have n0 : ∀ a, s.heap.objs.size ≤ a → h₀.get? a = none := fun a ha => by
    cases q : h₀.get? a with
    | none => rfl
    | some o => exact absurd (Heap.lt_size (c.F.keep _ _ q)) (Nat.not_lt.mpr ha)
  have gI : h₁.get? s.heap.objs.size = some { cls := .type "list_iterator", data := .fields #[.ref ax, .int 0 0] } := by
    refine hsb₁.extBut _ _ (Nat.ne_of_lt (by rw [hC]; omega)) (Heap.get?_push_of_some _ ?_)
    rw [← hH2]
    refine Heap.get?_push_of_some _ ?_
    rw [← hH1]
    exact Heap.get?_push_size _ rfl
  have gD : h₁.get? H1.objs.size = some { cls := .type "list", dict := none, data := .seq ([] : List Value).toArray } := by
    refine hsb₁.extBut _ _ (Nat.ne_of_lt (by rw [e2']; omega)) (Heap.get?_push_of_some _ ?_)
    rw [← hH2]
    exact Heap.get?_push_size _ rfl
  have a1 : s.heap.objs.size ≤ H1.objs.size := by omega
  have a2 : s.heap.objs.size ≤ H2.objs.size := by omega
  have loop : ∀ tk, codeAny (model M.prog M.w) A (.compLoop (.ListComp elt [⟨.Name x px, iter, [], 0⟩] scope pos) 0 (.ref s.heap.objs.size) (.ref H1.objs.size) (compEnvC scope ccl H2.objs.size env)) (RR (.ref H1.objs.size) H2.objs.size) { s with heap := h₁, toks := tk } := fun tk => by
    refine comp_loop (d := d) (C := H2.objs.size) hs (c3 tk) hlist hz hkind hx hcc hax ⟨_, gI, rfl, rfl⟩ ⟨0, gD⟩ hns₁ (nk _ (Nat.le_refl _)) (nk _ a1) (nk _ a2) (nL _ (Nat.le_refl _)) (nL _ a1) (nL _ a2) (n0 _ (Nat.le_refl _)) (n0 _ a1) (n0 _ a2) (Nat.ne_of_lt (by omega)) (Nat.ne_of_lt (by omega)) (Nat.ne_of_lt (by omega)) G g0 step
      fun h' tk wd' H' ys us mC' g E v c' kD kC p n => hR _ _ h' tk wd' H' ys us mC' g E v c' kD kC p n (nL _ a1) (n0 _ a1) (nL _ a2) (n0 _ a2) (Nat.ne_of_lt (by omega))
  exact codeAny_compStart_list (loop _) (wpAny_pyIter_listiter (i := 0) (l := ax) ⟨_, gI, rfl, rfl⟩ (loop _))
end
section
variable {M : Amb} {d : Nat} {sc : Scope} {cl : List (Str × Loc)} {ml : List (Str × V)} {H : MH}
theorem TE_comp {elt iter : Expr} {x : Str} {px : Pos} {scope : Scope} {cl' : List (Str × Loc)} {pos : Pos} {l' : Loc} {Q : V → MH → Prop}
    (hkind : scope.kind = .function) (hcell : ∀ y ∈ scope.names, y.2 ≠ .cell) (hnames : ∀ y ∈ scope.names, y.2 = .local → scope.names.lookup y.1 = some .local) (hx : (relS scope sc).names.lookup x = some .local)
    (hse : ∀ env v, foldedSetIterable iter env v = pure v)
    (hclos : ∀ env : Env, (∀ y l, cl.lookup y = some l → ∃ a, env.cells.lookup y = some a) → ∃ ccl, closureFor scope env = pure ccl ∧ ∀ y l, cl'.lookup y = some l → cl.lookup y = some l ∧ ccl.lookup y = env.cells.lookup y)
    (G : MH → Nat → List V → MH → Prop)
    (h : TE M d sc cl ml H iter fun v H1 => ∃ l xs, v = .cell l ∧ H1.c l = some (.list xs) ∧ xs.length ≤ 1000 ∧ G H1 0 [] H1 ∧
      (∀ i ys H₁ xi, xs[i]? = some xi → G H1 i ys H₁ → TE M.pur d (relS scope sc) cl' [(x, xi)] H₁ elt fun y H₂ => G H1 (i + 1) (ys ++ [y]) H₂) ∧
      ∀ ys H', G H1 xs.length ys H' → H'.free l' ∧ Q (.cell l') (H'.add l' (.list ys))) :
    TE M d sc cl ml H (.ListComp elt [⟨.Name x px, iter, [], 0⟩] scope pos) Q := by
  intro A base h₀ outer fenv env L m mm s wd Qm hs c k
  show wpAny _ _ (eval (.ListComp elt [⟨.Name x px, iter, [], 0⟩] scope pos) env) _ _ _
  rw [eval_ListComp]
  obtain ⟨ccl, hc1, hc2⟩ := hclos env fun y l hy => let ⟨a, a1, _⟩ := c.cr y l hy; ⟨a, a1⟩
  refine wpAny_comprehension_free (use := none) rfl (hse env) hc1 hkind hnames (h hs c fun v v' H1 w1 h1 t1 q1 x1 r1 c1 => ?_)
  obtain ⟨l, xs, rfl, hlist, hz, g0, step, hend⟩ := q1
  obtain ⟨ax, hax, rfl⟩ := r1.cell_i
  · refine comp_block (RR := fun acc C => compPost (model M.prog M.w) A (fun _ _ => False) none Qm acc C) hs c1 hlist hz hkind hcell hx (fun y l1 hy => ?_) hax (G H1) g0 step
      fun D C h' tk wd' H' ys us mC' g E v c' kD kC p n lD oD lC oC DC => ⟨mC', n, fun h2 hs2 => ?_⟩
    · obtain ⟨i1, i2⟩ := hc2 y l1 hy
      obtain ⟨a, a1, a2⟩ := c1.cr y l1 i1
      exact ⟨a, i2.trans a1, a2⟩
    · obtain ⟨hf, q⟩ := hend ys H' g
      obtain ⟨nD, gD⟩ := p
      have E2 : Ext M.pu wd' ((wd'.more D (listOf us.toArray nD)).name l' false D) := Ext.name (c'.rel.free l' false hf) kD
      have F2 : Fr h₀ L h2 m := c'.F.change hs2 lC oC
      have N2 : News h₀ L h2 ((D, listOf us.toArray nD) :: wd'.news) := fun p hp => by
        rcases List.mem_cons.mp hp with rfl | hp
        · exact ⟨(hs2.2 _ DC).trans gD, lD, oD⟩
        · exact ⟨(hs2.2 _ fun e => kC (e ▸ mem_keys hp)).trans (c'.N p hp).1, (c'.N p hp).2⟩
      exact k _ _ _ _ h2 tk q ((x1.trans E).trans E2) (.cell (name_at ..)) (c'.go F2 N2 E2 (c'.rel.name hf kD ⟨D, us, nD, name_at .., .head _, v.ext _ E2⟩))
end
mutual
inductive DV (H : MH) : V → PyData → Prop
  | none : DV H .none .none
  | bool (b : Bool) : DV H (.bool b) (.bool b)
  | int (i : Int) : DV H (.int i) (.int i)
  | str (s : Str) : DV H (.str s) (.str s)
  | tup {xs : List V} {ds : List PyData} : DVs H xs ds → DV H (.tup xs) (.tuple ds)
  | list {l : Loc} {xs : List V} {ds : List PyData} : H.c l = some (.list xs) → DVs H xs ds → DV H (.cell l) (.list ds)
inductive DVs (H : MH) : List V → List PyData → Prop
  | nil : DVs H [] []
  | cons {x : V} {d : PyData} {xs : List V} {ds : List PyData} : DV H x d → DVs H xs ds → DVs H (x :: xs) (d :: ds)
end
theorem DVs.ind {H : MH} {P : V → PyData → Prop} {Ps : List V → List PyData → Prop} (none : P .none .none) (bool : ∀ b, P (.bool b) (.bool b)) (int : ∀ i, P (.int i) (.int i)) (str : ∀ s, P (.str s) (.str s))
    (tup : ∀ {xs ds}, DVs H xs ds → Ps xs ds → P (.tup xs) (.tuple ds)) (list : ∀ {l xs ds}, H.c l = some (.list xs) → DVs H xs ds → Ps xs ds → P (.cell l) (.list ds))
    (nil : Ps [] []) (cons : ∀ {x d xs ds}, DV H x d → P x d → Ps xs ds → Ps (x :: xs) (d :: ds)) : (∀ {x d}, DV H x d → P x d) ∧ (∀ {xs ds}, DVs H xs ds → Ps xs ds) :=
  ⟨fun h => DV.rec (motive_1 := fun x d _ => P x d) (motive_2 := fun xs ds _ => Ps xs ds) none bool int str (fun q i => tup q i) (fun h q i => list h q i) nil (fun a _ i j => cons a i j) h,
   fun h => DVs.rec (motive_1 := fun x d _ => P x d) (motive_2 := fun xs ds _ => Ps xs ds) none bool int str (fun q i => tup q i) (fun h q i => list h q i) nil (fun a _ i j => cons a i j) h⟩
section
variable {M : Amb} {d : Nat} {A : Around} {base h₀ : Heap} {outer : List Env} {fenv env : Env} {L : Addr} {m mm : Str → Option Value} {cl : List (Str × Loc)} {ml : List (Str × V)} {s : Shared} {wd : WD} {H : MH}
theorem reads_both (c : CX M d A base h₀ outer fenv env L m mm cl ml s wd H) : (∀ {x : V} {dt : PyData}, DV H x dt → ∀ x', VR M.K wd x x' → ∃ as, Reads s.heap x' dt as) ∧ (∀ {xs : List V} {ds : List PyData}, DVs H xs ds → ∀ vs, VRs M.K wd xs vs → ∃ as, ReadsAll s.heap vs ds as) := by
  refine DVs.ind (fun x' r => ?_) (fun b x' r => ?_) (fun i x' r => ?_) (fun i x' r => ?_) (fun q i x' r => ?_) (fun hc _ i x' r => ?_) (fun vs r => ?_) (fun _ i j vs r => ?_)
  · obtain rfl := r.none_i; exact ⟨[], .none⟩
  · obtain rfl := r.bool_i; exact ⟨[], .bool b⟩
  · obtain ⟨t, rfl⟩ := r.int_i; exact ⟨[], .int i t⟩
  · obtain ⟨t, rfl⟩ := r.str_i; exact ⟨[], .str i t⟩
  · cases r with
    | tup h1 h2 h3 =>
      obtain ⟨as, r⟩ := i _ h3
      exact ⟨as, .tuple (c.N _ h1).1 rfl rfl r⟩
    | ktup h =>
      obtain ⟨as, r⟩ := i [] .nil
      exact ⟨as, .tuple ((c.X.keeps c.F.keep) _ _ h) rfl rfl r⟩
  · obtain ⟨a, hl, rfl⟩ := r.cell_i
    obtain ⟨a, vs, n, e1, e2, e3⟩ := c.rel.cells _ _ hc
    obtain rfl := Option.some.inj (hl.symm.trans e1)
    obtain ⟨as, r⟩ := i _ e3
    exact ⟨_ :: as, .list (c.N _ e2).1 rfl rfl r⟩
  · cases r; exact ⟨[], .nil⟩
  · cases r with
    | cons a b =>
      obtain ⟨as, i⟩ := i _ a
      obtain ⟨bs, j⟩ := j _ b
      exact ⟨as ++ bs, .cons i j⟩
theorem reads_of (c : CX M d A base h₀ outer fenv env L m mm cl ml s wd H) {x : V} {dt : PyData} {x' : Value} (h : DV H x dt) (r : VR M.K wd x x') : ∃ as, Reads s.heap x' dt as := (reads_both c).1 h _ r
end
section
variable {M : Amb} {d : Nat} {sc : Scope} {cl : List (Str × Loc)} {ml : List (Str × V)} {H : MH}
theorem OP_eq_data {x y : V} {da db : PyData} {Q : V → MH → Prop} (ha : DV H x da) (hb : DV H y db) (sa : SeqAt.shaped da = true) (sb : SeqAt.shaped db = true) (h : Q (.bool (PyData.eqv da db)) H) : OP2 VR M d cl ml H (compareOp .Eq) x y Q := by
  intro A base h₀ outer fenv env L m mm s wd Qm x' y' c hx hy k
  obtain ⟨as, ra⟩ := reads_of c ha hx
  obtain ⟨bs, rb⟩ := reads_of c hb hy
  exact eq_dataH ra rb sa sb (by have := c.units; show _ < 9900; omega) (k _ _ H wd s.heap s.toks h (Ext.refl _) (.bool _) (c.tok _))
theorem OP_ne_data {x y : V} {da db : PyData} {Q : V → MH → Prop} (ha : DV H x da) (hb : DV H y db) (sa : SeqAt.shaped da = true) (sb : SeqAt.shaped db = true) (h : Q (.bool (!PyData.eqv da db)) H) : OP2 VR M d cl ml H (compareOp .NotEq) x y Q := by
  intro A base h₀ outer fenv env L m mm s wd Qm x' y' c hx hy k
  obtain ⟨as, ra⟩ := reads_of c ha hx
  obtain ⟨bs, rb⟩ := reads_of c hb hy
  exact ne_dataH ra rb sa sb (by have := c.units; show _ < 9900; omega) (k _ _ H wd s.heap s.toks h (Ext.refl _) (.bool _) (c.tok _))
theorem dict_nil_all {prog prog' : Program} {w w' : World} {o : Obj} (h : o.IsDictOf (PySem.strKind prog w) []) : o.IsDictOf (PySem.strKind prog' w') [] := by
  obtain ⟨es, ep, h1, h2, h3, h4, h5⟩ := h
  cases hes : es.toList with
  | nil =>
    refine ⟨es, ep, h1, h2, fun e he => ?_, by rw [hes]; exact .nil, List.nodup_nil⟩
    have : e ∈ es.toList := Array.mem_toList_iff.mpr he
    rw [hes] at this
    cases this
  | cons e r => rw [hes] at h4; cases h4
theorem eqAt_nil {A : Around} {s : Shared} {l b : Addr} (hl : s.heap.IsList l #[]) (hb : s.heap.IsList b #[]) (hu : A.units < cLine) : SeqAt.EqAt A s (.ref l) (.ref b) true := by
  by_cases e : l = b
  · subst e; exact SeqAt.EqAt.same _
  · refine SeqAt.EqAt.of_refs e ?_
    exact SeqAt.RcAt.lists (e := fun _ => true) hl hb rfl hu (fun j h1 => absurd h1 (Nat.not_lt_zero _))
theorem eqAt_dict {prog : Program} {w : World} {A : Around} {s : Shared} {l b : Addr} {o o' : Obj} (hl : s.heap.get? l = some o) (hb : s.heap.get? b = some o') (dl : o.IsDictOf (PySem.strKind prog w) []) (db : o'.IsDictOf (PySem.strKind prog w) [])
    (nl : (l == sysModules) = false) (nb : (b == sysModules) = false) (hu : A.units < cLine) : SeqAt.EqAt A s (.ref l) (.ref b) true := by
  by_cases e : l = b
  · subst e; exact SeqAt.EqAt.same _
  · refine SeqAt.EqAt.of_refs e fun prog' w' E Q h => ?_
    exact keq_eq (knd := PySem.strKind prog' w') (r := true) nl nb (Heap.dictOf_iff.mpr ⟨o, hl, dict_nil_all dl⟩) (Heap.dictOf_iff.mpr ⟨o', hb, dict_nil_all db⟩) hu (fun _ => .nil) h
theorem nil_list {A : Around} {base h₀ : Heap} {outer : List Env} {fenv env : Env} {L : Addr} {m mm : Str → Option Value} {s : Shared} {wd : WD} {l : Loc} {v : Value} (c : CX M d A base h₀ outer fenv env L m mm cl ml s wd H) (h : H.c l = some (.list [])) (r : VR M.K wd (.cell l) v) : ∃ a, v = .ref a ∧ s.heap.IsList a #[] := by
  obtain ⟨a1, vs1, n1, rfl, _, _, z1, w1, l1⟩ := isList_of c h r
  cases z1
  exact ⟨a1, rfl, w1⟩
theorem nil_dict {A : Around} {base h₀ : Heap} {outer : List Env} {fenv env : Env} {L : Addr} {m mm : Str → Option Value} {s : Shared} {wd : WD} {l : Loc} {v : Value} (c : CX M d A base h₀ outer fenv env L m mm cl ml s wd H) (h : H.c l = some (.dict [])) (r : VR M.K wd (.cell l) v) : ∃ a o, v = .ref a ∧ s.heap.get? a = some o ∧ o.IsDictOf (PySem.strKind M.prog M.w) [] ∧ (a == sysModules) = false := by
  obtain ⟨a2, o, kvs, rfl, i1, i2, i3, i4, i5, i6⟩ := isDict_of c h r
  cases i5
  exact ⟨a2, o, rfl, (c.N _ i2).1, i4, i3⟩
theorem four_of {w : WD} {x y z u : V} {vs : List Value} (h : VRs M.K w [x, y, z, u] vs) : ∃ v1 v2 v3 v4, vs = [v1, v2, v3, v4] ∧ VR M.K w x v1 ∧ VR M.K w y v2 ∧ VR M.K w z v3 ∧ VR M.K w u v4 := by
  cases h with | cons a b => obtain ⟨x, y, z, rfl, q⟩ := three_of b; exact ⟨_, _, _, _, rfl, a, q⟩
theorem OP_eq_rest {l1 l2 l3 k1 k2 k3 : Loc} {Q : V → MH → Prop} (h1 : H.c l1 = some (.list [])) (h2 : H.c l2 = some (.dict [])) (h3 : H.c l3 = some (.list [])) (g1 : H.c k1 = some (.list [])) (g2 : H.c k2 = some (.dict [])) (g3 : H.c k3 = some (.list []))
    (h : Q (.bool true) H) : OP2 VR M d cl ml H (compareOp .Eq) (.tup [.cell l1, .cell l2, .cell l3, .bool true]) (.tup [.cell k1, .cell k2, .cell k3, .bool true]) Q := by
  intro A base h₀ outer fenv env L m mm s wd Qm x' y' c hx hy k
  obtain ⟨a, vs, rfl, e1, e2, e3⟩ := isTup_of c hx
  obtain ⟨b, us, rfl, f1, f2, f3⟩ := isTup_of c hy
  obtain ⟨v1, v2, v3, v4, rfl, e8, e5, e6, e7⟩ := four_of e1
  obtain ⟨u1, u2, u3, u4, rfl, f8, f5, f6, f7⟩ := four_of f1
  obtain rfl := e7.bool_i
  obtain rfl := f7.bool_i
  obtain ⟨a1, rfl, w1⟩ := nil_list c h1 e8
  obtain ⟨a3, rfl, w3⟩ := nil_list c h3 e6
  obtain ⟨b1, rfl, x1⟩ := nil_list c g1 f8
  obtain ⟨b3, rfl, x3⟩ := nil_list c g3 f6
  obtain ⟨a2, o, rfl, i1, i2, i3⟩ := nil_dict c h2 e5
  obtain ⟨b2, o', rfl, i1', i2', i3'⟩ := nil_dict c g2 f5
  have hu : A.in1.units < cLine := by have := c.units; show A.units + 1 < 9900; omega
  refine SeqAt.eq_tupleAt (e := fun _ => true) e2 f2 (by have := c.units; show A.units < 9900; omega) (fun j hj _ => ?_) (k _ _ H wd s.heap s.toks h (Ext.refl _) (.bool _) (c.tok _))
  cases j with
  | zero => exact eqAt_nil w1 x1 hu
  | succ j => cases j with
    | zero => exact eqAt_dict i1 i1' i2 i2' i3 i3' hu
    | succ j => cases j with
      | zero => exact eqAt_nil w3 x3 hu
      | succ j => cases j with
        | zero => exact SeqAt.EqAt.same _
        | succ j => exact absurd hj (Nat.not_lt_of_le (Nat.le_add_left 4 j))
end
noncomputable def nthS : List Stmt → Nat → Stmt
  | s :: _, 0 => s
  | _ :: r, n + 1 => nthS r n
  | [], _ => .Pass default
noncomputable def nm : Stmt → Str
  | .FunctionDef n .. => n
  | _ => ""
noncomputable def pr : Stmt → Arguments
  | .FunctionDef _ a .. => a
  | _ => ⟨[], [], none, [], [], none, []⟩
noncomputable def bd : Stmt → List Stmt
  | .FunctionDef _ _ b .. => b
  | .ClassDef _ _ _ b .. => b
  | _ => []
noncomputable def sco : Stmt → Scope
  | .FunctionDef _ _ _ _ _ _ s .. => s
  | _ => default
noncomputable def tS (i : Nat) : Stmt := nthS PySem.Challenge.pw_nz0099_01.main.body i
noncomputable def mS (i j : Nat) : Stmt := nthS (bd (tS i)) j
noncomputable def FnAt (K : Frag) (f : Addr) (qual : Str) (s : Stmt) (dV : Value) : Prop :=
  ∃ kV doc pm cdv ct oc an od osl, K.lookup f = some ⟨oc, od, .func (fnOf (nm s) qual (pr s) (bd s) (sco s) dV kV doc pm an cdv ct), osl⟩ ∧ codeIn K cdv qual = true
theorem fnAt_mk {K : Frag} {f : Addr} {qual : Str} {s : Stmt} {dV kV doc pm cdv ct oc : Value} {an od : Option Addr} {osl : Array (Option Value)} (ho : K.lookup f = some ⟨oc, od, .func (fnOf (nm s) qual (pr s) (bd s) (sco s) dV kV doc pm an cdv ct), osl⟩) (hcd : codeIn K cdv qual = true) : FnAt K f qual s dV :=
  ⟨_, _, _, _, _, _, _, _, _, ho, hcd⟩
theorem attrOK_mk {K : Frag} {C : Addr} {name : Str} {at' : Option Value} (a : plainGet K C name = true) (b : hasDictIn K C = true) (c : findIn K (.ref C) name = some at') (d : noGet K at' = true) : AttrOK K C name := ⟨a, b, _, c, d⟩
noncomputable def AllT {α : Type} (P : α → Prop) : List α → Prop
  | [] => True
  | x :: r => P x ∧ AllT P r
theorem AllT.mem {α : Type} {P : α → Prop} : ∀ {l : List α}, AllT P l → ∀ x ∈ l, P x
  | _ :: _, h, _, .head _ => h.1
  | _ :: _, h, _, .tail _ q => h.2.mem _ q
noncomputable def globTab0 : List (String × Addr) := [("Tree", 411), ("OpenStack", 294), ("Formatting", 133), ("Builder", 489), ("is_space", 151), ("above", 422), ("is_html_turn", 500), ("finish", 507), ("place_for", 522), ("insert_sign", 529), ("insert_comment", 537), ("make", 545)]
noncomputable def globTab1 : List (String × Addr) := [("insert_element", 554), ("insert_token", 561), ("insert_void", 568), ("associate", 575), ("is_space_token", 582), ("is_start_of", 589), ("is_end_of", 596), ("refuse", 603), ("back_to_body", 610), ("after_body", 617), ("is_at_root", 624), ("close_frameset", 631)]
noncomputable def globTab2 : List (String × Addr) := [("in_frameset", 638), ("after_frameset", 645), ("is_of_body", 652), ("after_after_body", 659), ("after_after_frameset", 666), ("end_rules", 673), ("_law_places", 680), ("_law_bases", 687), ("_law_rows", 694), ("_law_token", 701), ("_law_body", 708), ("_law_head", 715)]
noncomputable def globTab3 : List (String × Addr) := [("_law_sort", 722), ("_law_put", 729), ("_law_grow", 736), ("_law_stop", 743), ("_law_body_due", 750), ("_law_refuse", 757), ("_law_leave", 764), ("_law_due", 771), ("_law_plain", 776), ("_law_scene", 781)]
noncomputable def globTab : List (String × Addr) := globTab0 ++ (globTab1 ++ (globTab2 ++ (globTab3)))
noncomputable def bltTab : List String := ["len", "isinstance", "str", "list", "range"]
noncomputable def attrTab0 : List (Addr × String) := [(489, "rules"), (489, "tree"), (489, "stack"), (489, "formatting"), (489, "mode"), (489, "modes"), (489, "form"), (489, "owners"), (489, "is_frameset_ok"), (489, "is_foster"), (489, "context"), (489, "errors")]
noncomputable def attrTab1 : List (Addr × String) := [(489, "is_skipping"), (489, "is_acknowledged"), (489, "is_done"), (411, "kinds"), (411, "spaces"), (411, "names"), (411, "attrs"), (411, "texts"), (411, "parents"), (411, "children"), (411, "contents"), (294, "tree")]
noncomputable def attrTab2 : List (Addr × String) := [(294, "items"), (133, "items")]
noncomputable def attrTab : List (Addr × String) := attrTab0 ++ (attrTab1 ++ (attrTab2))
noncomputable def setTab0 : List (Addr × String) := [(489, "rules"), (489, "tree"), (489, "stack"), (489, "formatting"), (489, "mode"), (489, "original"), (489, "modes"), (489, "head"), (489, "form"), (489, "owners"), (489, "is_frameset_ok"), (489, "is_scripting")]
noncomputable def setTab1 : List (Addr × String) := [(489, "is_foster"), (489, "context"), (489, "quirks"), (489, "errors"), (489, "pending"), (489, "wish"), (489, "is_skipping"), (489, "is_acknowledged"), (489, "is_done"), (411, "kinds"), (411, "spaces"), (411, "names")]
noncomputable def setTab2 : List (Addr × String) := [(411, "attrs"), (411, "texts"), (411, "parents"), (411, "children"), (411, "contents"), (294, "tree"), (294, "items"), (133, "tree"), (133, "items")]
noncomputable def setTab : List (Addr × String) := setTab0 ++ (setTab1 ++ (setTab2))
noncomputable def methTab0 : List (Addr × String × Addr) := [(294, "push", 214), (294, "pop", 221), (294, "current", 228), (294, "many", 235), (294, "name", 270), (411, "add", 321), (411, "element", 330), (411, "text", 337), (411, "comment", 344), (411, "insert", 359), (411, "remove", 373), (411, "last", 394)]
noncomputable def methTab1 : List (Addr × String × Addr) := [(489, "error", 444), (489, "to", 451), (489, "use", 458), (489, "process", 465), (489, "feed", 472), (489, "adjusted", 479), (489, "is_foreign", 486)]
noncomputable def methTab : List (Addr × String × Addr) := methTab0 ++ (methTab1)
noncomputable def clsTab : List (Addr × Addr) := [(133, 67), (294, 207), (411, 312), (489, 437)]
noncomputable def dfTab : List (Addr × List Value) := [(313, []), (322, []), (546, []), (314, [Value.str "" 564, Value.str "" 565, Value.ref 313, Value.str "" 566]), (323, [Value.str "html" 579, Value.ref 322]), (352, [Value.int (-1) 618]),
  (430, [Value.bool false]), (515, [Value.int (-1) 857]), (530, [Value.int (-1) 883]), (538, [Value.str "html" 894]), (547, [Value.ref 546, Value.str "html" 905])]
noncomputable def fnTab0 : List (Addr × String × Stmt × Value) := [(67, "Formatting.__init__", mS 5 0, Value.none), (151, "is_space", tS 8, Value.none), (207, "OpenStack.__init__", mS 17 0, Value.none), (214, "OpenStack.push", mS 17 1, Value.none), (221, "OpenStack.pop", mS 17 2, Value.none), (228, "OpenStack.current", mS 17 3, Value.none), (235, "OpenStack.many", mS 17 4, Value.none), (270, "OpenStack.name", mS 17 9, Value.none), (312, "Tree.__init__", mS 19 0, Value.none), (321, "Tree.add", mS 19 1, Value.ref 314), (330, "Tree.element", mS 19 2, Value.ref 323), (337, "Tree.text", mS 19 3, Value.none)]
noncomputable def fnTab1 : List (Addr × String × Stmt × Value) := [(344, "Tree.comment", mS 19 4, Value.none), (359, "Tree.insert", mS 19 6, Value.ref 352), (373, "Tree.remove", mS 19 8, Value.none), (394, "Tree.last", mS 19 11, Value.none), (422, "above", tS 20, Value.none), (437, "Builder.__init__", mS 22 0, Value.ref 430), (444, "Builder.error", mS 22 1, Value.none), (451, "Builder.to", mS 22 2, Value.none), (458, "Builder.use", mS 22 3, Value.none), (465, "Builder.process", mS 22 4, Value.none), (472, "Builder.feed", mS 22 5, Value.none), (479, "Builder.adjusted", mS 22 6, Value.none)]
noncomputable def fnTab2 : List (Addr × String × Stmt × Value) := [(486, "Builder.is_foreign", mS 22 7, Value.none), (500, "is_html_turn", tS 23, Value.none), (507, "finish", tS 24, Value.none), (522, "place_for", tS 27, Value.ref 515), (529, "insert_sign", tS 28, Value.none), (537, "insert_comment", tS 29, Value.ref 530), (545, "make", tS 30, Value.ref 538), (554, "insert_element", tS 31, Value.ref 547), (561, "insert_token", tS 32, Value.none), (568, "insert_void", tS 33, Value.none), (575, "associate", tS 34, Value.none), (582, "is_space_token", tS 36, Value.none)]
noncomputable def fnTab3 : List (Addr × String × Stmt × Value) := [(589, "is_start_of", tS 38, Value.none), (596, "is_end_of", tS 39, Value.none), (603, "refuse", tS 40, Value.none), (610, "back_to_body", tS 41, Value.none), (617, "after_body", tS 42, Value.none), (624, "is_at_root", tS 43, Value.none), (631, "close_frameset", tS 44, Value.none), (638, "in_frameset", tS 45, Value.none), (645, "after_frameset", tS 46, Value.none), (652, "is_of_body", tS 47, Value.none), (659, "after_after_body", tS 48, Value.none), (666, "after_after_frameset", tS 49, Value.none)]
noncomputable def fnTab4 : List (Addr × String × Stmt × Value) := [(673, "end_rules", tS 50, Value.none), (680, "_law_places", tS 52, Value.none), (687, "_law_bases", tS 53, Value.none), (694, "_law_rows", tS 54, Value.none), (701, "_law_token", tS 55, Value.none), (708, "_law_body", tS 56, Value.none), (715, "_law_head", tS 57, Value.none), (722, "_law_sort", tS 58, Value.none), (729, "_law_put", tS 59, Value.none), (736, "_law_grow", tS 60, Value.none), (743, "_law_stop", tS 61, Value.none), (750, "_law_body_due", tS 62, Value.none)]
noncomputable def fnTab5 : List (Addr × String × Stmt × Value) := [(757, "_law_refuse", tS 63, Value.none), (764, "_law_leave", tS 64, Value.none), (771, "_law_due", tS 65, Value.none), (776, "_law_plain", tS 66, Value.none), (781, "_law_scene", tS 67, Value.none)]
noncomputable def fnTab : List (Addr × String × Stmt × Value) := fnTab0 ++ (fnTab1 ++ (fnTab2 ++ (fnTab3 ++ (fnTab4 ++ (fnTab5)))))
structure Facts (K : Frag) : Prop where
  glob : AllT (fun p => nsIn K mainGlobals (Str.ofString p.1) = some (some (.ref p.2)) ∧ keepIn K (.ref p.2) = true) globTab
  blt : AllT (fun p => nsIn K mainGlobals (Str.ofString p) = some none) bltTab
  attr : AllT (fun p => AttrOK K p.1 (Str.ofString p.2)) attrTab
  set : AllT (fun p => SetOK K p.1 (Str.ofString p.2)) setTab
  meth : AllT (fun p => MethOK K p.1 (Str.ofString p.2.1) p.2.2) methTab
  cls : AllT (fun p => makesIn K p.1 = true ∧ findIn K (.ref p.1) "__init__" = some (some (.ref p.2)) ∧ isFn K (.ref p.2) = true) clsTab
  dfl : AllT (fun p => K.lookup p.1 = some ⟨.type "tuple", none, .seq p.2.toArray, #[]⟩) dfTab
  fn : AllT (fun p => FnAt K p.1 (Str.ofString p.2.1) p.2.2.1 p.2.2.2) fnTab
noncomputable def Bound (K : Frag) (qual : Str) (st : Stmt) (dV : Value) (xs : List V) (binds : List (Str × V)) : Prop :=
  ∀ (kV doc pm cdv ct : Value) (an : Option Addr) (s : Shared) (wd : WD) (vals : List Value), VRs K wd xs vals → K.In s.heap → ∃ bs, BindsTo s (fnOf (nm st) qual (pr st) (bd st) (sco st) dV kV doc pm an cdv ct) ⟨vals, []⟩ bs ∧ BR K wd binds bs
section
variable {M : Amb} {d : Nat} {cl : List (Str × Loc)} {ml : List (Str × V)} {H : MH}
theorem CALL_fn {f : Addr} {qual : Str} {st : Stmt} {dV : Value} {xs : List V} {binds : List (Str × V)} {Q : V → MH → Prop} (hf : FnAt M.K f qual st dV) (hb : Bound M.K qual st dV xs binds)
    (hok : ((binds.all fun y => decide ((sco st).names.lookup y.1 = some .local)) && !(sco st).isCoroutine && !(sco st).isGenerator && decide ((sco st).kind = .function) && ((sco st).names.all fun x => decide (x.2 ≠ .cell))) = true)
    (h : TS M d (sco st) [] binds.reverse H (bd st) (backS Q)) : CALL M (d + 1) cl ml H f xs Q := by
  obtain ⟨kV, doc, pm, cdv, ct, oc, an, od, osl, ho, hcd⟩ := hf
  simp only [Bool.and_eq_true, Bool.not_eq_true'] at hok
  obtain ⟨⟨⟨⟨h1, h2⟩, h3⟩, h4⟩, h5⟩ := hok
  exact CALL_def ho hcd (hb _ _ _ _ _ _) h1 h2 h3 (of_decide_eq_true h4) h5 h
end
noncomputable def AllV (K : Frag) (w : WD) : List V → (List Value → Prop) → Prop
  | [], P => P []
  | x :: xs, P => ∀ v, VR K w x v → AllV K w xs fun vs => P (v :: vs)
theorem AllV.go {K : Frag} {w : WD} {xs : List V} {vs : List Value} (h : VRs K w xs vs) : ∀ P, AllV K w xs P → P vs := VRs.ind K (P := fun xs vs => ∀ P, AllV K w xs P → P vs) (fun _ h => h) (fun a _ ih _ h => ih _ (h _ a)) h
noncomputable def BoundAt (K : Frag) (qual : Str) (st : Stmt) (dV : Value) (binds : List (Str × V)) (kV doc pm cdv ct : Value) (an : Option Addr) (s : Shared) (wd : WD) (vals : List Value) : Prop := ∃ bs, BindsTo s (fnOf (nm st) qual (pr st) (bd st) (sco st) dV kV doc pm an cdv ct) ⟨vals, []⟩ bs ∧ BR K wd binds bs
theorem BoundAt.mk {K : Frag} {qual : Str} {st : Stmt} {dV : Value} {binds : List (Str × V)} {kV doc pm cdv ct : Value} {an : Option Addr} {s : Shared} {wd : WD} {vals : List Value} (bs : List (Str × Value)) (h : BindsTo s (fnOf (nm st) qual (pr st) (bd st) (sco st) dV kV doc pm an cdv ct) ⟨vals, []⟩ bs) (r : BR K wd binds bs) : BoundAt K qual st dV binds kV doc pm cdv ct an s wd vals := ⟨bs, h, r⟩
theorem Bound.mk {K : Frag} {qual : Str} {st : Stmt} {dV : Value} {binds : List (Str × V)} {xs : List V}
    (h : ∀ (kV doc pm cdv ct : Value) (an : Option Addr) (s : Shared) (wd : WD), K.In s.heap → AllV K wd xs (BoundAt K qual st dV binds kV doc pm cdv ct an s wd)) : Bound K qual st dV xs binds :=
  fun _ _ _ _ _ _ _ _ _ r X => AllV.go r _ (h _ _ _ _ _ _ _ _ X)
theorem at_Formatting_init {K : Frag} (F : Facts K) : FnAt K 67 "Formatting.__init__" (mS 5 0) .none := F.fn.1
theorem b_Formatting_init {K : Frag} {x0 x1 : V} : Bound K "Formatting.__init__" (mS 5 0) .none [x0, x1] [("self", x0), ("tree", x1)] := Bound.mk fun _ _ _ _ _ _ _ _ _ v0 r0 v1 r1 => BoundAt.mk [("self", _), ("tree", _)] (BindsTo.of_eq rfl) (.cons r0 (.cons r1 .nil))
theorem at_is_space {K : Frag} (F : Facts K) : FnAt K 151 "is_space" (tS 8) .none := F.fn.2.1
theorem b_is_space {K : Frag} {x0 : V} : Bound K "is_space" (tS 8) .none [x0] [("c", x0)] := Bound.mk fun _ _ _ _ _ _ _ _ _ v0 r0 => BoundAt.mk [("c", _)] (BindsTo.of_eq rfl) (.cons r0 .nil)
theorem at_OpenStack_init {K : Frag} (F : Facts K) : FnAt K 207 "OpenStack.__init__" (mS 17 0) .none := F.fn.2.2.1
theorem b_OpenStack_init {K : Frag} {x0 x1 : V} : Bound K "OpenStack.__init__" (mS 17 0) .none [x0, x1] [("self", x0), ("tree", x1)] := Bound.mk fun _ _ _ _ _ _ _ _ _ v0 r0 v1 r1 => BoundAt.mk [("self", _), ("tree", _)] (BindsTo.of_eq rfl) (.cons r0 (.cons r1 .nil))
theorem at_OpenStack_push {K : Frag} (F : Facts K) : FnAt K 214 "OpenStack.push" (mS 17 1) .none := F.fn.2.2.2.1
theorem b_OpenStack_push {K : Frag} {x0 x1 : V} : Bound K "OpenStack.push" (mS 17 1) .none [x0, x1] [("self", x0), ("node", x1)] := Bound.mk fun _ _ _ _ _ _ _ _ _ v0 r0 v1 r1 => BoundAt.mk [("self", _), ("node", _)] (BindsTo.of_eq rfl) (.cons r0 (.cons r1 .nil))
theorem at_OpenStack_pop {K : Frag} (F : Facts K) : FnAt K 221 "OpenStack.pop" (mS 17 2) .none := F.fn.2.2.2.2.1
theorem b_OpenStack_pop {K : Frag} {x0 : V} : Bound K "OpenStack.pop" (mS 17 2) .none [x0] [("self", x0)] := Bound.mk fun _ _ _ _ _ _ _ _ _ v0 r0 => BoundAt.mk [("self", _)] (BindsTo.of_eq rfl) (.cons r0 .nil)
theorem at_OpenStack_current {K : Frag} (F : Facts K) : FnAt K 228 "OpenStack.current" (mS 17 3) .none := F.fn.2.2.2.2.2.1
theorem b_OpenStack_current {K : Frag} {x0 : V} : Bound K "OpenStack.current" (mS 17 3) .none [x0] [("self", x0)] := Bound.mk fun _ _ _ _ _ _ _ _ _ v0 r0 => BoundAt.mk [("self", _)] (BindsTo.of_eq rfl) (.cons r0 .nil)
theorem at_OpenStack_many {K : Frag} (F : Facts K) : FnAt K 235 "OpenStack.many" (mS 17 4) .none := F.fn.2.2.2.2.2.2.1
theorem b_OpenStack_many {K : Frag} {x0 : V} : Bound K "OpenStack.many" (mS 17 4) .none [x0] [("self", x0)] := Bound.mk fun _ _ _ _ _ _ _ _ _ v0 r0 => BoundAt.mk [("self", _)] (BindsTo.of_eq rfl) (.cons r0 .nil)
theorem at_OpenStack_name {K : Frag} (F : Facts K) : FnAt K 270 "OpenStack.name" (mS 17 9) .none := F.fn.2.2.2.2.2.2.2.1
theorem b_OpenStack_name {K : Frag} {x0 : V} : Bound K "OpenStack.name" (mS 17 9) .none [x0] [("self", x0)] := Bound.mk fun _ _ _ _ _ _ _ _ _ v0 r0 => BoundAt.mk [("self", _)] (BindsTo.of_eq rfl) (.cons r0 .nil)
theorem at_Tree_init {K : Frag} (F : Facts K) : FnAt K 312 "Tree.__init__" (mS 19 0) .none := F.fn.2.2.2.2.2.2.2.2.1
theorem b_Tree_init {K : Frag} {x0 : V} : Bound K "Tree.__init__" (mS 19 0) .none [x0] [("self", x0)] := Bound.mk fun _ _ _ _ _ _ _ _ _ v0 r0 => BoundAt.mk [("self", _)] (BindsTo.of_eq rfl) (.cons r0 .nil)
theorem at_Tree_add {K : Frag} (F : Facts K) : FnAt K 321 "Tree.add" (mS 19 1) (.ref 314) := F.fn.2.2.2.2.2.2.2.2.2.1
theorem b_Tree_add2 {K : Frag} (F : Facts K) {x0 x1 : V} : Bound K "Tree.add" (mS 19 1) (.ref 314) [x0, x1] [("self", x0), ("kind", x1), ("space", .str ""), ("name", .str ""), ("attrs", .tup []), ("text", .str "")] := Bound.mk fun _ _ _ _ _ _ _ _ X v0 r0 v1 r1 => BoundAt.mk [("self", _), ("kind", _), ("space", _), ("name", _), ("attrs", _), ("text", _)] (BindsTo.of_defaults rfl (X _ _ (F.dfl.2.2.2.1)) rfl rfl rfl) (.cons r0 (.cons r1 (.cons (.str _ _) (.cons (.str _ _) (.cons (.ktup (F.dfl.1)) (.cons (.str _ _) .nil))))))
theorem b_Tree_add5 {K : Frag} (F : Facts K) {x0 x1 x2 x3 x4 : V} : Bound K "Tree.add" (mS 19 1) (.ref 314) [x0, x1, x2, x3, x4] [("self", x0), ("kind", x1), ("space", x2), ("name", x3), ("attrs", x4), ("text", .str "")] := Bound.mk fun _ _ _ _ _ _ _ _ X v0 r0 v1 r1 v2 r2 v3 r3 v4 r4 => BoundAt.mk [("self", _), ("kind", _), ("space", _), ("name", _), ("attrs", _), ("text", _)] (BindsTo.of_defaults rfl (X _ _ (F.dfl.2.2.2.1)) rfl rfl rfl) (.cons r0 (.cons r1 (.cons r2 (.cons r3 (.cons r4 (.cons (.str _ _) .nil))))))
theorem b_Tree_add6 {K : Frag} (F : Facts K) {x0 x1 x2 x3 x4 x5 : V} : Bound K "Tree.add" (mS 19 1) (.ref 314) [x0, x1, x2, x3, x4, x5] [("self", x0), ("kind", x1), ("space", x2), ("name", x3), ("attrs", x4), ("text", x5)] := Bound.mk fun _ _ _ _ _ _ _ _ X v0 r0 v1 r1 v2 r2 v3 r3 v4 r4 v5 r5 => BoundAt.mk [("self", _), ("kind", _), ("space", _), ("name", _), ("attrs", _), ("text", _)] (BindsTo.of_defaults rfl (X _ _ (F.dfl.2.2.2.1)) rfl rfl rfl) (.cons r0 (.cons r1 (.cons r2 (.cons r3 (.cons r4 (.cons r5 .nil))))))
theorem at_Tree_element {K : Frag} (F : Facts K) : FnAt K 330 "Tree.element" (mS 19 2) (.ref 323) := F.fn.2.2.2.2.2.2.2.2.2.2.1
theorem b_Tree_element2 {K : Frag} (F : Facts K) {x0 x1 : V} : Bound K "Tree.element" (mS 19 2) (.ref 323) [x0, x1] [("self", x0), ("name", x1), ("space", .str "html"), ("attrs", .tup [])] := Bound.mk fun _ _ _ _ _ _ _ _ X v0 r0 v1 r1 => BoundAt.mk [("self", _), ("name", _), ("space", _), ("attrs", _)] (BindsTo.of_defaults rfl (X _ _ (F.dfl.2.2.2.2.1)) rfl rfl rfl) (.cons r0 (.cons r1 (.cons (.str _ _) (.cons (.ktup (F.dfl.2.1)) .nil))))
theorem b_Tree_element4 {K : Frag} (F : Facts K) {x0 x1 x2 x3 : V} : Bound K "Tree.element" (mS 19 2) (.ref 323) [x0, x1, x2, x3] [("self", x0), ("name", x1), ("space", x2), ("attrs", x3)] := Bound.mk fun _ _ _ _ _ _ _ _ X v0 r0 v1 r1 v2 r2 v3 r3 => BoundAt.mk [("self", _), ("name", _), ("space", _), ("attrs", _)] (BindsTo.of_defaults rfl (X _ _ (F.dfl.2.2.2.2.1)) rfl rfl rfl) (.cons r0 (.cons r1 (.cons r2 (.cons r3 .nil))))
theorem at_Tree_text {K : Frag} (F : Facts K) : FnAt K 337 "Tree.text" (mS 19 3) .none := F.fn.2.2.2.2.2.2.2.2.2.2.2.1
theorem b_Tree_text {K : Frag} {x0 x1 : V} : Bound K "Tree.text" (mS 19 3) .none [x0, x1] [("self", x0), ("text", x1)] := Bound.mk fun _ _ _ _ _ _ _ _ _ v0 r0 v1 r1 => BoundAt.mk [("self", _), ("text", _)] (BindsTo.of_eq rfl) (.cons r0 (.cons r1 .nil))
theorem at_Tree_comment {K : Frag} (F : Facts K) : FnAt K 344 "Tree.comment" (mS 19 4) .none := F.fn.2.2.2.2.2.2.2.2.2.2.2.2.1
theorem b_Tree_comment {K : Frag} {x0 x1 : V} : Bound K "Tree.comment" (mS 19 4) .none [x0, x1] [("self", x0), ("text", x1)] := Bound.mk fun _ _ _ _ _ _ _ _ _ v0 r0 v1 r1 => BoundAt.mk [("self", _), ("text", _)] (BindsTo.of_eq rfl) (.cons r0 (.cons r1 .nil))
theorem at_Tree_insert {K : Frag} (F : Facts K) : FnAt K 359 "Tree.insert" (mS 19 6) (.ref 352) := F.fn.2.2.2.2.2.2.2.2.2.2.2.2.2.1
theorem b_Tree_insert {K : Frag} (F : Facts K) {x0 x1 x2 x3 : V} : Bound K "Tree.insert" (mS 19 6) (.ref 352) [x0, x1, x2, x3] [("self", x0), ("parent", x1), ("node", x2), ("before", x3)] := Bound.mk fun _ _ _ _ _ _ _ _ X v0 r0 v1 r1 v2 r2 v3 r3 => BoundAt.mk [("self", _), ("parent", _), ("node", _), ("before", _)] (BindsTo.of_defaults rfl (X _ _ (F.dfl.2.2.2.2.2.1)) rfl rfl rfl) (.cons r0 (.cons r1 (.cons r2 (.cons r3 .nil))))
theorem at_Tree_remove {K : Frag} (F : Facts K) : FnAt K 373 "Tree.remove" (mS 19 8) .none := F.fn.2.2.2.2.2.2.2.2.2.2.2.2.2.2.1
theorem b_Tree_remove {K : Frag} {x0 x1 : V} : Bound K "Tree.remove" (mS 19 8) .none [x0, x1] [("self", x0), ("node", x1)] := Bound.mk fun _ _ _ _ _ _ _ _ _ v0 r0 v1 r1 => BoundAt.mk [("self", _), ("node", _)] (BindsTo.of_eq rfl) (.cons r0 (.cons r1 .nil))
theorem at_Tree_last {K : Frag} (F : Facts K) : FnAt K 394 "Tree.last" (mS 19 11) .none := F.fn.2.2.2.2.2.2.2.2.2.2.2.2.2.2.2.1
theorem b_Tree_last {K : Frag} {x0 x1 : V} : Bound K "Tree.last" (mS 19 11) .none [x0, x1] [("self", x0), ("parent", x1)] := Bound.mk fun _ _ _ _ _ _ _ _ _ v0 r0 v1 r1 => BoundAt.mk [("self", _), ("parent", _)] (BindsTo.of_eq rfl) (.cons r0 (.cons r1 .nil))
theorem at_above {K : Frag} (F : Facts K) : FnAt K 422 "above" (tS 20) .none := F.fn.2.2.2.2.2.2.2.2.2.2.2.2.2.2.2.2.1
theorem b_above {K : Frag} {x0 x1 : V} : Bound K "above" (tS 20) .none [x0, x1] [("tree", x0), ("node", x1)] := Bound.mk fun _ _ _ _ _ _ _ _ _ v0 r0 v1 r1 => BoundAt.mk [("tree", _), ("node", _)] (BindsTo.of_eq rfl) (.cons r0 (.cons r1 .nil))
theorem at_Builder_init {K : Frag} (F : Facts K) : FnAt K 437 "Builder.__init__" (mS 22 0) (.ref 430) := F.fn.2.2.2.2.2.2.2.2.2.2.2.2.2.2.2.2.2.1
theorem b_Builder_init {K : Frag} (F : Facts K) {x0 x1 : V} : Bound K "Builder.__init__" (mS 22 0) (.ref 430) [x0, x1] [("self", x0), ("rules", x1), ("is_scripting", .bool false)] := Bound.mk fun _ _ _ _ _ _ _ _ X v0 r0 v1 r1 => BoundAt.mk [("self", _), ("rules", _), ("is_scripting", _)] (BindsTo.of_defaults rfl (X _ _ (F.dfl.2.2.2.2.2.2.1)) rfl rfl rfl) (.cons r0 (.cons r1 (.cons (.bool _) .nil)))
theorem at_Builder_error {K : Frag} (F : Facts K) : FnAt K 444 "Builder.error" (mS 22 1) .none := F.fn.2.2.2.2.2.2.2.2.2.2.2.2.2.2.2.2.2.2.1
theorem b_Builder_error {K : Frag} {x0 x1 : V} : Bound K "Builder.error" (mS 22 1) .none [x0, x1] [("self", x0), ("word", x1)] := Bound.mk fun _ _ _ _ _ _ _ _ _ v0 r0 v1 r1 => BoundAt.mk [("self", _), ("word", _)] (BindsTo.of_eq rfl) (.cons r0 (.cons r1 .nil))
theorem at_Builder_to {K : Frag} (F : Facts K) : FnAt K 451 "Builder.to" (mS 22 2) .none := F.fn.2.2.2.2.2.2.2.2.2.2.2.2.2.2.2.2.2.2.2.1
theorem b_Builder_to {K : Frag} {x0 x1 : V} : Bound K "Builder.to" (mS 22 2) .none [x0, x1] [("self", x0), ("mode", x1)] := Bound.mk fun _ _ _ _ _ _ _ _ _ v0 r0 v1 r1 => BoundAt.mk [("self", _), ("mode", _)] (BindsTo.of_eq rfl) (.cons r0 (.cons r1 .nil))
theorem at_Builder_use {K : Frag} (F : Facts K) : FnAt K 458 "Builder.use" (mS 22 3) .none := F.fn.2.2.2.2.2.2.2.2.2.2.2.2.2.2.2.2.2.2.2.2.1
theorem b_Builder_use {K : Frag} {x0 x1 x2 : V} : Bound K "Builder.use" (mS 22 3) .none [x0, x1, x2] [("self", x0), ("name", x1), ("token", x2)] := Bound.mk fun _ _ _ _ _ _ _ _ _ v0 r0 v1 r1 v2 r2 => BoundAt.mk [("self", _), ("name", _), ("token", _)] (BindsTo.of_eq rfl) (.cons r0 (.cons r1 (.cons r2 .nil)))
theorem at_Builder_process {K : Frag} (F : Facts K) : FnAt K 465 "Builder.process" (mS 22 4) .none := F.fn.2.2.2.2.2.2.2.2.2.2.2.2.2.2.2.2.2.2.2.2.2.1
theorem b_Builder_process {K : Frag} {x0 x1 : V} : Bound K "Builder.process" (mS 22 4) .none [x0, x1] [("self", x0), ("token", x1)] := Bound.mk fun _ _ _ _ _ _ _ _ _ v0 r0 v1 r1 => BoundAt.mk [("self", _), ("token", _)] (BindsTo.of_eq rfl) (.cons r0 (.cons r1 .nil))
theorem at_Builder_feed {K : Frag} (F : Facts K) : FnAt K 472 "Builder.feed" (mS 22 5) .none := F.fn.2.2.2.2.2.2.2.2.2.2.2.2.2.2.2.2.2.2.2.2.2.2.1
theorem b_Builder_feed {K : Frag} {x0 x1 : V} : Bound K "Builder.feed" (mS 22 5) .none [x0, x1] [("self", x0), ("token", x1)] := Bound.mk fun _ _ _ _ _ _ _ _ _ v0 r0 v1 r1 => BoundAt.mk [("self", _), ("token", _)] (BindsTo.of_eq rfl) (.cons r0 (.cons r1 .nil))
theorem at_Builder_adjusted {K : Frag} (F : Facts K) : FnAt K 479 "Builder.adjusted" (mS 22 6) .none := F.fn.2.2.2.2.2.2.2.2.2.2.2.2.2.2.2.2.2.2.2.2.2.2.2.1
theorem b_Builder_adjusted {K : Frag} {x0 : V} : Bound K "Builder.adjusted" (mS 22 6) .none [x0] [("self", x0)] := Bound.mk fun _ _ _ _ _ _ _ _ _ v0 r0 => BoundAt.mk [("self", _)] (BindsTo.of_eq rfl) (.cons r0 .nil)
theorem at_Builder_is_foreign {K : Frag} (F : Facts K) : FnAt K 486 "Builder.is_foreign" (mS 22 7) .none := F.fn.2.2.2.2.2.2.2.2.2.2.2.2.2.2.2.2.2.2.2.2.2.2.2.2.1
theorem b_Builder_is_foreign {K : Frag} {x0 : V} : Bound K "Builder.is_foreign" (mS 22 7) .none [x0] [("self", x0)] := Bound.mk fun _ _ _ _ _ _ _ _ _ v0 r0 => BoundAt.mk [("self", _)] (BindsTo.of_eq rfl) (.cons r0 .nil)
theorem at_is_html_turn {K : Frag} (F : Facts K) : FnAt K 500 "is_html_turn" (tS 23) .none := F.fn.2.2.2.2.2.2.2.2.2.2.2.2.2.2.2.2.2.2.2.2.2.2.2.2.2.1
theorem b_is_html_turn {K : Frag} {x0 x1 : V} : Bound K "is_html_turn" (tS 23) .none [x0, x1] [("builder", x0), ("token", x1)] := Bound.mk fun _ _ _ _ _ _ _ _ _ v0 r0 v1 r1 => BoundAt.mk [("builder", _), ("token", _)] (BindsTo.of_eq rfl) (.cons r0 (.cons r1 .nil))
theorem at_finish {K : Frag} (F : Facts K) : FnAt K 507 "finish" (tS 24) .none := F.fn.2.2.2.2.2.2.2.2.2.2.2.2.2.2.2.2.2.2.2.2.2.2.2.2.2.2.1
theorem b_finish {K : Frag} {x0 : V} : Bound K "finish" (tS 24) .none [x0] [("builder", x0)] := Bound.mk fun _ _ _ _ _ _ _ _ _ v0 r0 => BoundAt.mk [("builder", _)] (BindsTo.of_eq rfl) (.cons r0 .nil)
theorem at_place_for {K : Frag} (F : Facts K) : FnAt K 522 "place_for" (tS 27) (.ref 515) := F.fn.2.2.2.2.2.2.2.2.2.2.2.2.2.2.2.2.2.2.2.2.2.2.2.2.2.2.2.1
theorem b_place_for {K : Frag} (F : Facts K) {x0 : V} : Bound K "place_for" (tS 27) (.ref 515) [x0] [("builder", x0), ("target", .int (-1))] := Bound.mk fun _ _ _ _ _ _ _ _ X v0 r0 => BoundAt.mk [("builder", _), ("target", _)] (BindsTo.of_defaults rfl (X _ _ (F.dfl.2.2.2.2.2.2.2.1)) rfl rfl rfl) (.cons r0 (.cons (.int _ _) .nil))
theorem at_insert_sign {K : Frag} (F : Facts K) : FnAt K 529 "insert_sign" (tS 28) .none := F.fn.2.2.2.2.2.2.2.2.2.2.2.2.2.2.2.2.2.2.2.2.2.2.2.2.2.2.2.2.1
theorem b_insert_sign {K : Frag} {x0 x1 : V} : Bound K "insert_sign" (tS 28) .none [x0, x1] [("builder", x0), ("sign", x1)] := Bound.mk fun _ _ _ _ _ _ _ _ _ v0 r0 v1 r1 => BoundAt.mk [("builder", _), ("sign", _)] (BindsTo.of_eq rfl) (.cons r0 (.cons r1 .nil))
theorem at_insert_comment {K : Frag} (F : Facts K) : FnAt K 537 "insert_comment" (tS 29) (.ref 530) := F.fn.2.2.2.2.2.2.2.2.2.2.2.2.2.2.2.2.2.2.2.2.2.2.2.2.2.2.2.2.2.1
theorem b_insert_comment2 {K : Frag} (F : Facts K) {x0 x1 : V} : Bound K "insert_comment" (tS 29) (.ref 530) [x0, x1] [("builder", x0), ("text", x1), ("parent", .int (-1))] := Bound.mk fun _ _ _ _ _ _ _ _ X v0 r0 v1 r1 => BoundAt.mk [("builder", _), ("text", _), ("parent", _)] (BindsTo.of_defaults rfl (X _ _ (F.dfl.2.2.2.2.2.2.2.2.1)) rfl rfl rfl) (.cons r0 (.cons r1 (.cons (.int _ _) .nil)))
theorem b_insert_comment3 {K : Frag} (F : Facts K) {x0 x1 x2 : V} : Bound K "insert_comment" (tS 29) (.ref 530) [x0, x1, x2] [("builder", x0), ("text", x1), ("parent", x2)] := Bound.mk fun _ _ _ _ _ _ _ _ X v0 r0 v1 r1 v2 r2 => BoundAt.mk [("builder", _), ("text", _), ("parent", _)] (BindsTo.of_defaults rfl (X _ _ (F.dfl.2.2.2.2.2.2.2.2.1)) rfl rfl rfl) (.cons r0 (.cons r1 (.cons r2 .nil)))
theorem at_make {K : Frag} (F : Facts K) : FnAt K 545 "make" (tS 30) (.ref 538) := F.fn.2.2.2.2.2.2.2.2.2.2.2.2.2.2.2.2.2.2.2.2.2.2.2.2.2.2.2.2.2.2.1
theorem b_make {K : Frag} (F : Facts K) {x0 x1 x2 x3 : V} : Bound K "make" (tS 30) (.ref 538) [x0, x1, x2, x3] [("builder", x0), ("name", x1), ("attrs", x2), ("space", x3)] := Bound.mk fun _ _ _ _ _ _ _ _ X v0 r0 v1 r1 v2 r2 v3 r3 => BoundAt.mk [("builder", _), ("name", _), ("attrs", _), ("space", _)] (BindsTo.of_defaults rfl (X _ _ (F.dfl.2.2.2.2.2.2.2.2.2.1)) rfl rfl rfl) (.cons r0 (.cons r1 (.cons r2 (.cons r3 .nil))))
theorem at_insert_element {K : Frag} (F : Facts K) : FnAt K 554 "insert_element" (tS 31) (.ref 547) := F.fn.2.2.2.2.2.2.2.2.2.2.2.2.2.2.2.2.2.2.2.2.2.2.2.2.2.2.2.2.2.2.2.1
theorem b_insert_element2 {K : Frag} (F : Facts K) {x0 x1 : V} : Bound K "insert_element" (tS 31) (.ref 547) [x0, x1] [("builder", x0), ("name", x1), ("attrs", .tup []), ("space", .str "html")] := Bound.mk fun _ _ _ _ _ _ _ _ X v0 r0 v1 r1 => BoundAt.mk [("builder", _), ("name", _), ("attrs", _), ("space", _)] (BindsTo.of_defaults rfl (X _ _ (F.dfl.2.2.2.2.2.2.2.2.2.2.1)) rfl rfl rfl) (.cons r0 (.cons r1 (.cons (.ktup (F.dfl.2.2.1)) (.cons (.str _ _) .nil))))
theorem b_insert_element3 {K : Frag} (F : Facts K) {x0 x1 x2 : V} : Bound K "insert_element" (tS 31) (.ref 547) [x0, x1, x2] [("builder", x0), ("name", x1), ("attrs", x2), ("space", .str "html")] := Bound.mk fun _ _ _ _ _ _ _ _ X v0 r0 v1 r1 v2 r2 => BoundAt.mk [("builder", _), ("name", _), ("attrs", _), ("space", _)] (BindsTo.of_defaults rfl (X _ _ (F.dfl.2.2.2.2.2.2.2.2.2.2.1)) rfl rfl rfl) (.cons r0 (.cons r1 (.cons r2 (.cons (.str _ _) .nil))))
theorem at_insert_token {K : Frag} (F : Facts K) : FnAt K 561 "insert_token" (tS 32) .none := F.fn.2.2.2.2.2.2.2.2.2.2.2.2.2.2.2.2.2.2.2.2.2.2.2.2.2.2.2.2.2.2.2.2.1
theorem b_insert_token {K : Frag} {x0 x1 : V} : Bound K "insert_token" (tS 32) .none [x0, x1] [("builder", x0), ("token", x1)] := Bound.mk fun _ _ _ _ _ _ _ _ _ v0 r0 v1 r1 => BoundAt.mk [("builder", _), ("token", _)] (BindsTo.of_eq rfl) (.cons r0 (.cons r1 .nil))
theorem at_insert_void {K : Frag} (F : Facts K) : FnAt K 568 "insert_void" (tS 33) .none := F.fn.2.2.2.2.2.2.2.2.2.2.2.2.2.2.2.2.2.2.2.2.2.2.2.2.2.2.2.2.2.2.2.2.2.1
theorem b_insert_void {K : Frag} {x0 x1 : V} : Bound K "insert_void" (tS 33) .none [x0, x1] [("builder", x0), ("token", x1)] := Bound.mk fun _ _ _ _ _ _ _ _ _ v0 r0 v1 r1 => BoundAt.mk [("builder", _), ("token", _)] (BindsTo.of_eq rfl) (.cons r0 (.cons r1 .nil))
theorem at_associate {K : Frag} (F : Facts K) : FnAt K 575 "associate" (tS 34) .none := F.fn.2.2.2.2.2.2.2.2.2.2.2.2.2.2.2.2.2.2.2.2.2.2.2.2.2.2.2.2.2.2.2.2.2.2.1
theorem b_associate {K : Frag} {x0 x1 : V} : Bound K "associate" (tS 34) .none [x0, x1] [("builder", x0), ("node", x1)] := Bound.mk fun _ _ _ _ _ _ _ _ _ v0 r0 v1 r1 => BoundAt.mk [("builder", _), ("node", _)] (BindsTo.of_eq rfl) (.cons r0 (.cons r1 .nil))
theorem at_is_space_token {K : Frag} (F : Facts K) : FnAt K 582 "is_space_token" (tS 36) .none := F.fn.2.2.2.2.2.2.2.2.2.2.2.2.2.2.2.2.2.2.2.2.2.2.2.2.2.2.2.2.2.2.2.2.2.2.2.1
theorem b_is_space_token {K : Frag} {x0 : V} : Bound K "is_space_token" (tS 36) .none [x0] [("token", x0)] := Bound.mk fun _ _ _ _ _ _ _ _ _ v0 r0 => BoundAt.mk [("token", _)] (BindsTo.of_eq rfl) (.cons r0 .nil)
theorem at_is_start_of {K : Frag} (F : Facts K) : FnAt K 589 "is_start_of" (tS 38) .none := F.fn.2.2.2.2.2.2.2.2.2.2.2.2.2.2.2.2.2.2.2.2.2.2.2.2.2.2.2.2.2.2.2.2.2.2.2.2.1
theorem b_is_start_of {K : Frag} {x0 x1 : V} : Bound K "is_start_of" (tS 38) .none [x0, x1] [("token", x0), ("name", x1)] := Bound.mk fun _ _ _ _ _ _ _ _ _ v0 r0 v1 r1 => BoundAt.mk [("token", _), ("name", _)] (BindsTo.of_eq rfl) (.cons r0 (.cons r1 .nil))
theorem at_is_end_of {K : Frag} (F : Facts K) : FnAt K 596 "is_end_of" (tS 39) .none := F.fn.2.2.2.2.2.2.2.2.2.2.2.2.2.2.2.2.2.2.2.2.2.2.2.2.2.2.2.2.2.2.2.2.2.2.2.2.2.1
theorem b_is_end_of {K : Frag} {x0 x1 : V} : Bound K "is_end_of" (tS 39) .none [x0, x1] [("token", x0), ("name", x1)] := Bound.mk fun _ _ _ _ _ _ _ _ _ v0 r0 v1 r1 => BoundAt.mk [("token", _), ("name", _)] (BindsTo.of_eq rfl) (.cons r0 (.cons r1 .nil))
theorem at_refuse {K : Frag} (F : Facts K) : FnAt K 603 "refuse" (tS 40) .none := F.fn.2.2.2.2.2.2.2.2.2.2.2.2.2.2.2.2.2.2.2.2.2.2.2.2.2.2.2.2.2.2.2.2.2.2.2.2.2.2.1
theorem b_refuse {K : Frag} {x0 x1 : V} : Bound K "refuse" (tS 40) .none [x0, x1] [("builder", x0), ("token", x1)] := Bound.mk fun _ _ _ _ _ _ _ _ _ v0 r0 v1 r1 => BoundAt.mk [("builder", _), ("token", _)] (BindsTo.of_eq rfl) (.cons r0 (.cons r1 .nil))
theorem at_back_to_body {K : Frag} (F : Facts K) : FnAt K 610 "back_to_body" (tS 41) .none := F.fn.2.2.2.2.2.2.2.2.2.2.2.2.2.2.2.2.2.2.2.2.2.2.2.2.2.2.2.2.2.2.2.2.2.2.2.2.2.2.2.1
theorem b_back_to_body {K : Frag} {x0 x1 : V} : Bound K "back_to_body" (tS 41) .none [x0, x1] [("builder", x0), ("token", x1)] := Bound.mk fun _ _ _ _ _ _ _ _ _ v0 r0 v1 r1 => BoundAt.mk [("builder", _), ("token", _)] (BindsTo.of_eq rfl) (.cons r0 (.cons r1 .nil))
theorem at_after_body {K : Frag} (F : Facts K) : FnAt K 617 "after_body" (tS 42) .none := F.fn.2.2.2.2.2.2.2.2.2.2.2.2.2.2.2.2.2.2.2.2.2.2.2.2.2.2.2.2.2.2.2.2.2.2.2.2.2.2.2.2.1
theorem b_after_body {K : Frag} {x0 x1 : V} : Bound K "after_body" (tS 42) .none [x0, x1] [("builder", x0), ("token", x1)] := Bound.mk fun _ _ _ _ _ _ _ _ _ v0 r0 v1 r1 => BoundAt.mk [("builder", _), ("token", _)] (BindsTo.of_eq rfl) (.cons r0 (.cons r1 .nil))
theorem at_is_at_root {K : Frag} (F : Facts K) : FnAt K 624 "is_at_root" (tS 43) .none := F.fn.2.2.2.2.2.2.2.2.2.2.2.2.2.2.2.2.2.2.2.2.2.2.2.2.2.2.2.2.2.2.2.2.2.2.2.2.2.2.2.2.2.1
theorem b_is_at_root {K : Frag} {x0 : V} : Bound K "is_at_root" (tS 43) .none [x0] [("builder", x0)] := Bound.mk fun _ _ _ _ _ _ _ _ _ v0 r0 => BoundAt.mk [("builder", _)] (BindsTo.of_eq rfl) (.cons r0 .nil)
theorem at_close_frameset {K : Frag} (F : Facts K) : FnAt K 631 "close_frameset" (tS 44) .none := F.fn.2.2.2.2.2.2.2.2.2.2.2.2.2.2.2.2.2.2.2.2.2.2.2.2.2.2.2.2.2.2.2.2.2.2.2.2.2.2.2.2.2.2.1
theorem b_close_frameset {K : Frag} {x0 x1 : V} : Bound K "close_frameset" (tS 44) .none [x0, x1] [("builder", x0), ("token", x1)] := Bound.mk fun _ _ _ _ _ _ _ _ _ v0 r0 v1 r1 => BoundAt.mk [("builder", _), ("token", _)] (BindsTo.of_eq rfl) (.cons r0 (.cons r1 .nil))
theorem at_in_frameset {K : Frag} (F : Facts K) : FnAt K 638 "in_frameset" (tS 45) .none := F.fn.2.2.2.2.2.2.2.2.2.2.2.2.2.2.2.2.2.2.2.2.2.2.2.2.2.2.2.2.2.2.2.2.2.2.2.2.2.2.2.2.2.2.2.1
theorem b_in_frameset {K : Frag} {x0 x1 : V} : Bound K "in_frameset" (tS 45) .none [x0, x1] [("builder", x0), ("token", x1)] := Bound.mk fun _ _ _ _ _ _ _ _ _ v0 r0 v1 r1 => BoundAt.mk [("builder", _), ("token", _)] (BindsTo.of_eq rfl) (.cons r0 (.cons r1 .nil))
theorem at_after_frameset {K : Frag} (F : Facts K) : FnAt K 645 "after_frameset" (tS 46) .none := F.fn.2.2.2.2.2.2.2.2.2.2.2.2.2.2.2.2.2.2.2.2.2.2.2.2.2.2.2.2.2.2.2.2.2.2.2.2.2.2.2.2.2.2.2.2.1
theorem b_after_frameset {K : Frag} {x0 x1 : V} : Bound K "after_frameset" (tS 46) .none [x0, x1] [("builder", x0), ("token", x1)] := Bound.mk fun _ _ _ _ _ _ _ _ _ v0 r0 v1 r1 => BoundAt.mk [("builder", _), ("token", _)] (BindsTo.of_eq rfl) (.cons r0 (.cons r1 .nil))
theorem at_is_of_body {K : Frag} (F : Facts K) : FnAt K 652 "is_of_body" (tS 47) .none := F.fn.2.2.2.2.2.2.2.2.2.2.2.2.2.2.2.2.2.2.2.2.2.2.2.2.2.2.2.2.2.2.2.2.2.2.2.2.2.2.2.2.2.2.2.2.2.1
theorem b_is_of_body {K : Frag} {x0 : V} : Bound K "is_of_body" (tS 47) .none [x0] [("token", x0)] := Bound.mk fun _ _ _ _ _ _ _ _ _ v0 r0 => BoundAt.mk [("token", _)] (BindsTo.of_eq rfl) (.cons r0 .nil)
theorem at_after_after_body {K : Frag} (F : Facts K) : FnAt K 659 "after_after_body" (tS 48) .none := F.fn.2.2.2.2.2.2.2.2.2.2.2.2.2.2.2.2.2.2.2.2.2.2.2.2.2.2.2.2.2.2.2.2.2.2.2.2.2.2.2.2.2.2.2.2.2.2.1
theorem b_after_after_body {K : Frag} {x0 x1 : V} : Bound K "after_after_body" (tS 48) .none [x0, x1] [("builder", x0), ("token", x1)] := Bound.mk fun _ _ _ _ _ _ _ _ _ v0 r0 v1 r1 => BoundAt.mk [("builder", _), ("token", _)] (BindsTo.of_eq rfl) (.cons r0 (.cons r1 .nil))
theorem at_after_after_frameset {K : Frag} (F : Facts K) : FnAt K 666 "after_after_frameset" (tS 49) .none := F.fn.2.2.2.2.2.2.2.2.2.2.2.2.2.2.2.2.2.2.2.2.2.2.2.2.2.2.2.2.2.2.2.2.2.2.2.2.2.2.2.2.2.2.2.2.2.2.2.1
theorem b_after_after_frameset {K : Frag} {x0 x1 : V} : Bound K "after_after_frameset" (tS 49) .none [x0, x1] [("builder", x0), ("token", x1)] := Bound.mk fun _ _ _ _ _ _ _ _ _ v0 r0 v1 r1 => BoundAt.mk [("builder", _), ("token", _)] (BindsTo.of_eq rfl) (.cons r0 (.cons r1 .nil))
theorem at_end_rules {K : Frag} (F : Facts K) : FnAt K 673 "end_rules" (tS 50) .none := F.fn.2.2.2.2.2.2.2.2.2.2.2.2.2.2.2.2.2.2.2.2.2.2.2.2.2.2.2.2.2.2.2.2.2.2.2.2.2.2.2.2.2.2.2.2.2.2.2.2.1
theorem b_end_rules {K : Frag} : Bound K "end_rules" (tS 50) .none [] [] := Bound.mk fun _ _ _ _ _ _ _ _ _ => BoundAt.mk [] (BindsTo.of_eq rfl) (.nil)
theorem at_law_places {K : Frag} (F : Facts K) : FnAt K 680 "_law_places" (tS 52) .none := F.fn.2.2.2.2.2.2.2.2.2.2.2.2.2.2.2.2.2.2.2.2.2.2.2.2.2.2.2.2.2.2.2.2.2.2.2.2.2.2.2.2.2.2.2.2.2.2.2.2.2.1
theorem b_law_places {K : Frag} : Bound K "_law_places" (tS 52) .none [] [] := Bound.mk fun _ _ _ _ _ _ _ _ _ => BoundAt.mk [] (BindsTo.of_eq rfl) (.nil)
theorem at_law_bases {K : Frag} (F : Facts K) : FnAt K 687 "_law_bases" (tS 53) .none := F.fn.2.2.2.2.2.2.2.2.2.2.2.2.2.2.2.2.2.2.2.2.2.2.2.2.2.2.2.2.2.2.2.2.2.2.2.2.2.2.2.2.2.2.2.2.2.2.2.2.2.2.1
theorem b_law_bases {K : Frag} : Bound K "_law_bases" (tS 53) .none [] [] := Bound.mk fun _ _ _ _ _ _ _ _ _ => BoundAt.mk [] (BindsTo.of_eq rfl) (.nil)
theorem at_law_rows {K : Frag} (F : Facts K) : FnAt K 694 "_law_rows" (tS 54) .none := F.fn.2.2.2.2.2.2.2.2.2.2.2.2.2.2.2.2.2.2.2.2.2.2.2.2.2.2.2.2.2.2.2.2.2.2.2.2.2.2.2.2.2.2.2.2.2.2.2.2.2.2.2.1
theorem b_law_rows {K : Frag} : Bound K "_law_rows" (tS 54) .none [] [] := Bound.mk fun _ _ _ _ _ _ _ _ _ => BoundAt.mk [] (BindsTo.of_eq rfl) (.nil)
theorem at_law_token {K : Frag} (F : Facts K) : FnAt K 701 "_law_token" (tS 55) .none := F.fn.2.2.2.2.2.2.2.2.2.2.2.2.2.2.2.2.2.2.2.2.2.2.2.2.2.2.2.2.2.2.2.2.2.2.2.2.2.2.2.2.2.2.2.2.2.2.2.2.2.2.2.2.1
theorem b_law_token {K : Frag} {x0 x1 : V} : Bound K "_law_token" (tS 55) .none [x0, x1] [("number", x0), ("place", x1)] := Bound.mk fun _ _ _ _ _ _ _ _ _ v0 r0 v1 r1 => BoundAt.mk [("number", _), ("place", _)] (BindsTo.of_eq rfl) (.cons r0 (.cons r1 .nil))
theorem at_law_body {K : Frag} (F : Facts K) : FnAt K 708 "_law_body" (tS 56) .none := F.fn.2.2.2.2.2.2.2.2.2.2.2.2.2.2.2.2.2.2.2.2.2.2.2.2.2.2.2.2.2.2.2.2.2.2.2.2.2.2.2.2.2.2.2.2.2.2.2.2.2.2.2.2.2.1
theorem b_law_body {K : Frag} {x0 x1 : V} : Bound K "_law_body" (tS 56) .none [x0, x1] [("builder", x0), ("token", x1)] := Bound.mk fun _ _ _ _ _ _ _ _ _ v0 r0 v1 r1 => BoundAt.mk [("builder", _), ("token", _)] (BindsTo.of_eq rfl) (.cons r0 (.cons r1 .nil))
theorem at_law_head {K : Frag} (F : Facts K) : FnAt K 715 "_law_head" (tS 57) .none := F.fn.2.2.2.2.2.2.2.2.2.2.2.2.2.2.2.2.2.2.2.2.2.2.2.2.2.2.2.2.2.2.2.2.2.2.2.2.2.2.2.2.2.2.2.2.2.2.2.2.2.2.2.2.2.2.1
theorem b_law_head {K : Frag} {x0 x1 : V} : Bound K "_law_head" (tS 57) .none [x0, x1] [("builder", x0), ("token", x1)] := Bound.mk fun _ _ _ _ _ _ _ _ _ v0 r0 v1 r1 => BoundAt.mk [("builder", _), ("token", _)] (BindsTo.of_eq rfl) (.cons r0 (.cons r1 .nil))
theorem at_law_sort {K : Frag} (F : Facts K) : FnAt K 722 "_law_sort" (tS 58) .none := F.fn.2.2.2.2.2.2.2.2.2.2.2.2.2.2.2.2.2.2.2.2.2.2.2.2.2.2.2.2.2.2.2.2.2.2.2.2.2.2.2.2.2.2.2.2.2.2.2.2.2.2.2.2.2.2.2.1
theorem b_law_sort {K : Frag} {x0 : V} : Bound K "_law_sort" (tS 58) .none [x0] [("token", x0)] := Bound.mk fun _ _ _ _ _ _ _ _ _ v0 r0 => BoundAt.mk [("token", _)] (BindsTo.of_eq rfl) (.cons r0 .nil)
theorem at_law_put {K : Frag} (F : Facts K) : FnAt K 729 "_law_put" (tS 59) .none := F.fn.2.2.2.2.2.2.2.2.2.2.2.2.2.2.2.2.2.2.2.2.2.2.2.2.2.2.2.2.2.2.2.2.2.2.2.2.2.2.2.2.2.2.2.2.2.2.2.2.2.2.2.2.2.2.2.2.1
theorem b_law_put {K : Frag} {x0 x1 : V} : Bound K "_law_put" (tS 59) .none [x0, x1] [("node", x0), ("sign", x1)] := Bound.mk fun _ _ _ _ _ _ _ _ _ v0 r0 v1 r1 => BoundAt.mk [("node", _), ("sign", _)] (BindsTo.of_eq rfl) (.cons r0 (.cons r1 .nil))
theorem at_law_grow {K : Frag} (F : Facts K) : FnAt K 736 "_law_grow" (tS 60) .none := F.fn.2.2.2.2.2.2.2.2.2.2.2.2.2.2.2.2.2.2.2.2.2.2.2.2.2.2.2.2.2.2.2.2.2.2.2.2.2.2.2.2.2.2.2.2.2.2.2.2.2.2.2.2.2.2.2.2.2.1
theorem b_law_grow {K : Frag} {x0 x1 x2 x3 : V} : Bound K "_law_grow" (tS 60) .none [x0, x1, x2, x3] [("state", x0), ("name", x1), ("attrs", x2), ("keeps", x3)] := Bound.mk fun _ _ _ _ _ _ _ _ _ v0 r0 v1 r1 v2 r2 v3 r3 => BoundAt.mk [("state", _), ("name", _), ("attrs", _), ("keeps", _)] (BindsTo.of_eq rfl) (.cons r0 (.cons r1 (.cons r2 (.cons r3 .nil))))
theorem at_law_stop {K : Frag} (F : Facts K) : FnAt K 743 "_law_stop" (tS 61) .none := F.fn.2.2.2.2.2.2.2.2.2.2.2.2.2.2.2.2.2.2.2.2.2.2.2.2.2.2.2.2.2.2.2.2.2.2.2.2.2.2.2.2.2.2.2.2.2.2.2.2.2.2.2.2.2.2.2.2.2.2.1
theorem b_law_stop {K : Frag} {x0 : V} : Bound K "_law_stop" (tS 61) .none [x0] [("state", x0)] := Bound.mk fun _ _ _ _ _ _ _ _ _ v0 r0 => BoundAt.mk [("state", _)] (BindsTo.of_eq rfl) (.cons r0 .nil)
theorem at_law_body_due {K : Frag} (F : Facts K) : FnAt K 750 "_law_body_due" (tS 62) .none := F.fn.2.2.2.2.2.2.2.2.2.2.2.2.2.2.2.2.2.2.2.2.2.2.2.2.2.2.2.2.2.2.2.2.2.2.2.2.2.2.2.2.2.2.2.2.2.2.2.2.2.2.2.2.2.2.2.2.2.2.2.1
theorem b_law_body_due {K : Frag} {x0 x1 : V} : Bound K "_law_body_due" (tS 62) .none [x0, x1] [("state", x0), ("token", x1)] := Bound.mk fun _ _ _ _ _ _ _ _ _ v0 r0 v1 r1 => BoundAt.mk [("state", _), ("token", _)] (BindsTo.of_eq rfl) (.cons r0 (.cons r1 .nil))
theorem at_law_refuse {K : Frag} (F : Facts K) : FnAt K 757 "_law_refuse" (tS 63) .none := F.fn.2.2.2.2.2.2.2.2.2.2.2.2.2.2.2.2.2.2.2.2.2.2.2.2.2.2.2.2.2.2.2.2.2.2.2.2.2.2.2.2.2.2.2.2.2.2.2.2.2.2.2.2.2.2.2.2.2.2.2.2.1
theorem b_law_refuse {K : Frag} {x0 x1 : V} : Bound K "_law_refuse" (tS 63) .none [x0, x1] [("state", x0), ("token", x1)] := Bound.mk fun _ _ _ _ _ _ _ _ _ v0 r0 v1 r1 => BoundAt.mk [("state", _), ("token", _)] (BindsTo.of_eq rfl) (.cons r0 (.cons r1 .nil))
theorem at_law_leave {K : Frag} (F : Facts K) : FnAt K 764 "_law_leave" (tS 64) .none := F.fn.2.2.2.2.2.2.2.2.2.2.2.2.2.2.2.2.2.2.2.2.2.2.2.2.2.2.2.2.2.2.2.2.2.2.2.2.2.2.2.2.2.2.2.2.2.2.2.2.2.2.2.2.2.2.2.2.2.2.2.2.2.1
theorem b_law_leave {K : Frag} {x0 x1 : V} : Bound K "_law_leave" (tS 64) .none [x0, x1] [("state", x0), ("token", x1)] := Bound.mk fun _ _ _ _ _ _ _ _ _ v0 r0 v1 r1 => BoundAt.mk [("state", _), ("token", _)] (BindsTo.of_eq rfl) (.cons r0 (.cons r1 .nil))
theorem at_law_due {K : Frag} (F : Facts K) : FnAt K 771 "_law_due" (tS 65) .none := F.fn.2.2.2.2.2.2.2.2.2.2.2.2.2.2.2.2.2.2.2.2.2.2.2.2.2.2.2.2.2.2.2.2.2.2.2.2.2.2.2.2.2.2.2.2.2.2.2.2.2.2.2.2.2.2.2.2.2.2.2.2.2.2.1
theorem b_law_due {K : Frag} {x0 x1 : V} : Bound K "_law_due" (tS 65) .none [x0, x1] [("state", x0), ("token", x1)] := Bound.mk fun _ _ _ _ _ _ _ _ _ v0 r0 v1 r1 => BoundAt.mk [("state", _), ("token", _)] (BindsTo.of_eq rfl) (.cons r0 (.cons r1 .nil))
theorem at_law_plain {K : Frag} (F : Facts K) : FnAt K 776 "_law_plain" (tS 66) .none := F.fn.2.2.2.2.2.2.2.2.2.2.2.2.2.2.2.2.2.2.2.2.2.2.2.2.2.2.2.2.2.2.2.2.2.2.2.2.2.2.2.2.2.2.2.2.2.2.2.2.2.2.2.2.2.2.2.2.2.2.2.2.2.2.2.1
theorem b_law_plain {K : Frag} {x0 x1 : V} : Bound K "_law_plain" (tS 66) .none [x0, x1] [("tree", x0), ("node", x1)] := Bound.mk fun _ _ _ _ _ _ _ _ _ v0 r0 v1 r1 => BoundAt.mk [("tree", _), ("node", _)] (BindsTo.of_eq rfl) (.cons r0 (.cons r1 .nil))
theorem at_law_scene {K : Frag} (F : Facts K) : FnAt K 781 "_law_scene" (tS 67) .none := F.fn.2.2.2.2.2.2.2.2.2.2.2.2.2.2.2.2.2.2.2.2.2.2.2.2.2.2.2.2.2.2.2.2.2.2.2.2.2.2.2.2.2.2.2.2.2.2.2.2.2.2.2.2.2.2.2.2.2.2.2.2.2.2.2.2.1
theorem b_law_scene {K : Frag} {x0 : V} : Bound K "_law_scene" (tS 67) .none [x0] [("digits", x0)] := Bound.mk fun _ _ _ _ _ _ _ _ _ v0 r0 => BoundAt.mk [("digits", _)] (BindsTo.of_eq rfl) (.cons r0 .nil)
theorem Facts.kp {K : Frag} (F : Facts K) {a : Addr} (h : (globTab.any fun p => p.2 == a) = true) : keepIn K (.ref a) = true := by
  obtain ⟨p, hp, e⟩ := List.any_eq_true.mp h
  have := (F.glob.mem p hp).2
  rw [eq_of_beq e] at this
  exact this
noncomputable def methOf (C : Addr) (n : String) : Option Addr := (methTab.find? fun p => p.1 == C && p.2.1 == n).map (·.2.2)
theorem Loc.ne_tag {a b : Loc} (h : (a.ctorIdx == b.ctorIdx) = false) : a ≠ b := fun e => by subst e; simp at h
theorem put_same {H : MH} {l : Loc} {x : Cell} : (H.put l x).c l = some x := by show (if l = l then _ else _) = _; rw [if_pos rfl]
theorem put_other {H : MH} {l l' : Loc} {x : Cell} {r : Option Cell} (hn : l' ≠ l) (h : H.c l' = r) : (H.put l x).c l' = r := by show (if l' = l then _ else _) = _; rw [if_neg hn]; exact h
theorem add_same {H : MH} {l : Loc} {x : Cell} : (H.add l x).c l = some x := by show (if l = l then _ else _) = _; rw [if_pos rfl]
theorem add_other {H : MH} {l l' : Loc} {x : Cell} {r : Option Cell} (hn : l' ≠ l) (h : H.c l' = r) : (H.add l x).c l' = r := by show (if l' = l then _ else _) = _; rw [if_neg hn]; exact h
section
variable {M : Amb} {d : Nat} {sc : Scope} {cl : List (Str × Loc)} {ml : List (Str × V)} {H : MH}
theorem CALL_go {f : Addr} {qual : Str} {st : Stmt} {dV : Value} {xs : List V} {binds : List (Str × V)} {s0 : Stmt} {rest : List Stmt} {k : ScopeKind} {nms : List (Str × NameKind)} {g co : Bool} {mo} {Q : V → MH → Prop} (hf : FnAt M.K f qual st dV) (hb : Bound M.K qual st dV xs binds)
    (hbd : bd st = s0 :: rest) (hsc : sco st = { kind := k, names := nms, isGenerator := g, isCoroutine := co, more := mo })
    (hok : ((binds.all fun y => decide (nms.lookup y.1 = some .local)) && !co && !g && decide (k = .function) && (nms.all fun x => decide (x.2 ≠ .cell))) = true)
    (h : TS M d { kind := k, names := nms, isGenerator := g, isCoroutine := co, more := mo } [] binds.reverse H (s0 :: rest) (backS Q)) : CALL M (d + 1) cl ml H f xs Q := by
  refine CALL_fn hf hb (by rw [hsc]; exact hok) ?_
  rw [hsc, hbd]
  exact h
noncomputable def strsOf : List V → Option (List Str)
  | [] => some []
  | .str x :: r => (strsOf r).map (x :: ·)
  | _ :: _ => none
theorem strsOf_eq : ∀ {xs : List V} {ys : List Str}, strsOf xs = some ys → xs = ys.map .str
  | [], ys, h => by cases h; rfl
  | .str x :: r, ys, h => by
    unfold strsOf at h
    cases q : strsOf r with
    | none => rw [q] at h; cases h
    | some zs => rw [q] at h; cases h; rw [strsOf_eq q]; rfl
  | .none :: _, _, h => by cases h
  | .bool _ :: _, _, h => by cases h
  | .int _ :: _, _, h => by cases h
  | .tup _ :: _, _, h => by cases h
  | .cell _ :: _, _, h => by cases h
  | .glob _ :: _, _, h => by cases h
  | .ty _ :: _, _, h => by cases h
  | .blt _ :: _, _, h => by cases h
theorem OP_in_strs' {xs : List V} {ys : List Str} {x : Str} {Q : V → MH → Prop} (hx : strsOf xs = some ys) (h : Q (.bool (ys.any (· == x))) H) : OP2 VR M d cl ml H (compareOp .In) (.str x) (.tup xs) Q := by
  rw [strsOf_eq hx]
  exact OP_in_strs h
end
structure Nd where
  kind : Str
  space : Str
  name : Str
  attrs : List V
  text : Str
  par : Int
  kids : List Nat
structure St where
  nodes : List Nd
  stack : List Nat
  mode : Str
  errs : List V
  done : Bool
  ack : Bool
  ctx : Int
  form : Int
noncomputable def Loc.isB : Loc → Bool
  | .builder | .tree | .stack | .fmt | .kinds | .spaces | .names | .attrs | .texts | .parents | .children | .contents | .items | .fitems | .owners | .modes | .errors | .pending | .rules | .kid _ | .att _ => true
  | _ => false
noncomputable def Loc.isL : Loc → Bool
  | .state | .notes | .lnode _ | .latt _ | .lkid _ => true
  | _ => false
noncomputable abbrev vi (n : Nat) : V := .int n
noncomputable def rulesD : List (Str × V) := [("after body", .glob 617), ("in frameset", .glob 638), ("after frameset", .glob 645), ("after after body", .glob 659), ("after after frameset", .glob 666), ("in body", .glob 708), ("in head", .glob 715)]
noncomputable def bflds (σ : St) : List (Str × V) :=
  [("rules", .cell .rules), ("tree", .cell .tree), ("stack", .cell .stack), ("formatting", .cell .fmt), ("mode", .str σ.mode), ("original", .str ""), ("modes", .cell .modes), ("head", .int (-1)), ("form", .int σ.form), ("owners", .cell .owners),
   ("is_frameset_ok", .bool true), ("is_scripting", .bool false), ("is_foster", .bool false), ("context", .int σ.ctx), ("quirks", .str "no-quirks"), ("errors", .cell .errors), ("pending", .cell .pending), ("wish", .str ""), ("is_skipping", .bool false),
   ("is_acknowledged", .bool σ.ack), ("is_done", .bool σ.done)]
noncomputable def tflds : List (Str × V) := [("kinds", .cell .kinds), ("spaces", .cell .spaces), ("names", .cell .names), ("attrs", .cell .attrs), ("texts", .cell .texts), ("parents", .cell .parents), ("children", .cell .children), ("contents", .cell .contents)]
noncomputable def bh (σ : St) : Loc → Option Cell
  | .builder => some (.inst 489 (bflds σ))
  | .tree => some (.inst 411 tflds)
  | .stack => some (.inst 294 [("tree", .cell .tree), ("items", .cell .items)])
  | .fmt => some (.inst 133 [("tree", .cell .tree), ("items", .cell .fitems)])
  | .kinds => some (.list (σ.nodes.map fun n => .str n.kind))
  | .spaces => some (.list (σ.nodes.map fun n => .str n.space))
  | .names => some (.list (σ.nodes.map fun n => .str n.name))
  | .attrs => some (.list ((List.range σ.nodes.length).map fun i => .cell (.att i)))
  | .texts => some (.list (σ.nodes.map fun n => .str n.text))
  | .parents => some (.list (σ.nodes.map fun n => .int n.par))
  | .children => some (.list ((List.range σ.nodes.length).map fun i => .cell (.kid i)))
  | .contents => some (.dict [])
  | .items => some (.list (σ.stack.map vi))
  | .fitems => some (.list [])
  | .owners => some (.dict [])
  | .modes => some (.list [])
  | .errors => some (.list σ.errs)
  | .pending => some (.list [])
  | .rules => some (.dict rulesD)
  | .kid i => (σ.nodes[i]?).map fun n => .list (n.kids.map vi)
  | .att i => (σ.nodes[i]?).map fun n => .list n.attrs
  | _ => none
noncomputable def BH (H : MH) (σ : St) : Prop := ∀ l, l.isB = true → H.c l = bh σ l
noncomputable def Keep (p : Loc → Bool) (H H' : MH) : Prop := H.nx ≤ H'.nx ∧ ∀ l, p l = false → (∀ k, l = .tmp k → k < H.nx) → H'.c l = H.c l
theorem Keep.refl {p : Loc → Bool} (H : MH) : Keep p H H := ⟨Nat.le_refl _, fun _ _ _ => rfl⟩
theorem Keep.trans {p : Loc → Bool} {H H' H'' : MH} (a : Keep p H H') (b : Keep p H' H'') : Keep p H H'' :=
  ⟨Nat.le_trans a.1 b.1, fun l h k => (b.2 l h fun i e => Nat.lt_of_lt_of_le (k i e) a.1).trans (a.2 l h k)⟩
theorem Keep.put {p : Loc → Bool} {H : MH} {l : Loc} {x : Cell} (h : p l = true) : Keep p H (H.put l x) :=
  ⟨Nat.le_refl _, fun l' h' _ => put_other (fun e => by subst e; rw [h] at h'; cases h') rfl⟩
theorem Keep.add {p : Loc → Bool} {H : MH} {l : Loc} {x : Cell} (h : p l = true) : Keep p H (H.add l x) :=
  ⟨le_bump _ _, fun l' h' _ => add_other (fun e => by subst e; rw [h] at h'; cases h') rfl⟩
theorem Keep.tmp {p : Loc → Bool} {H : MH} {k : Nat} {x : Cell} (h : H.nx ≤ k) : Keep p H (H.add (.tmp k) x) :=
  ⟨le_bump (.tmp k) H.nx, fun l' _ h' => add_other (fun e => by have := h' k e; omega) rfl⟩
noncomputable def kidV (ns : List Nd) (i : Nat) : V := match ns[i]? with
  | some n => if n.kind = "text" then .str n.text else if n.kind = "comment" then .tup [.str "comment", .str n.text] else .cell (.lnode i)
  | none => .none
noncomputable def isEl (σ : St) (i : Nat) : Option Nd := match σ.nodes[i]? with
  | some n => if (n.kind = "element" ∨ n.kind = "document") ∧ (i : Int) ≠ σ.ctx then some n else none
  | none => none
noncomputable def lh (pl : Loc) (σ : St) : Loc → Option Cell
  | .state => some (.dict [("page", .cell (.lnode 0)), ("path", .cell pl), ("mode", .str σ.mode), ("notes", .cell .notes), ("is_done", .bool σ.done), ("is_part", .bool (σ.ctx != -1))])
  | .notes => some (.list σ.errs)
  | .lnode i => (isEl σ i).map fun n => .list [.str n.name, .cell (.latt i), .cell (.lkid i)]
  | .latt i => (isEl σ i).map fun n => .list n.attrs
  | .lkid i => (isEl σ i).map fun n => .list (n.kids.map (kidV σ.nodes))
  | _ => none
structure LH (H : MH) (σ : St) : Prop where
  ex : ∃ k, k < H.nx ∧ H.c (.tmp k) = some (.list (σ.stack.map fun i => .cell (.lnode i))) ∧ ∀ l, l.isL = true → H.c l = lh (.tmp k) σ l
theorem BH.keep {p : Loc → Bool} {H H' : MH} {σ : St} (h : BH H σ) (k : Keep p H H') (hp : ∀ l, l.isB = true → p l = false) : BH H' σ := fun l hl => (k.2 l (hp l hl) fun i e => by subst e; cases hl).trans (h l hl)
theorem b_l (l : Loc) : (l.isB && l.isL) = false := by cases l <;> rfl
theorem b_not_l (l : Loc) (h : l.isB = true) : l.isL = false := by have e := b_l l; rw [h] at e; exact e
theorem l_not_b (l : Loc) (h : l.isL = true) : l.isB = false := by have e := b_l l; rw [h, Bool.and_true] at e; exact e
section
variable {K : Frag} (F : Facts K)
include F
theorem n_len : nsIn K mainGlobals (Str.ofString "len") = some none := F.blt.1
theorem n_isinstance : nsIn K mainGlobals (Str.ofString "isinstance") = some none := F.blt.2.1
theorem n_str : nsIn K mainGlobals (Str.ofString "str") = some none := F.blt.2.2.1
theorem n_list : nsIn K mainGlobals (Str.ofString "list") = some none := F.blt.2.2.2.1
theorem n_range : nsIn K mainGlobals (Str.ofString "range") = some none := F.blt.2.2.2.2.1
end
section
variable {M : Amb} {d : Nat} {sc : Scope} {cl : List (Str × Loc)} {ml : List (Str × V)} {H : MH} {pos : Pos} {Q : V → MH → Prop} (F : Facts M.K)
include F
theorem TE_n_len (hk : sc.names.lookup (Str.ofString "len") = some .globalImplicit) (h : Q (.blt "len") H) : TE M d sc cl ml H (.Name (Str.ofString "len") pos) Q := TE_bblt (n_len F) boot_len (by decide) hk rfl h
theorem TE_n_isinstance (hk : sc.names.lookup (Str.ofString "isinstance") = some .globalImplicit) (h : Q (.blt "isinstance") H) : TE M d sc cl ml H (.Name (Str.ofString "isinstance") pos) Q := TE_bblt (n_isinstance F) boot_isinstance (by decide) hk rfl h
theorem TE_n_str (hk : sc.names.lookup (Str.ofString "str") = some .globalImplicit) (h : Q (.ty "str") H) : TE M d sc cl ml H (.Name (Str.ofString "str") pos) Q := TE_bty (n_str F) boot_str (by decide) hk rfl h
theorem TE_n_list (hk : sc.names.lookup (Str.ofString "list") = some .globalImplicit) (h : Q (.ty "list") H) : TE M d sc cl ml H (.Name (Str.ofString "list") pos) Q := TE_bty (n_list F) boot_list (by decide) hk rfl h
theorem TE_n_range (hk : sc.names.lookup (Str.ofString "range") = some .globalImplicit) (h : Q (.ty "range") H) : TE M d sc cl ml H (.Name (Str.ofString "range") pos) Q := TE_bty (n_range F) boot_range (by decide) hk rfl h
end
section
variable {M : Amb} {d : Nat} {sc : Scope} {cl : List (Str × Loc)} {ml : List (Str × V)} {H : MH}
theorem TS_go {st : Stmt} {s0 : Stmt} {rest : List Stmt} {k : ScopeKind} {nms : List (Str × NameKind)} {g co : Bool} {mo} {Q : FV → List (Str × V) → MH → Prop} (hbd : bd st = s0 :: rest) (hsc : sco st = { kind := k, names := nms, isGenerator := g, isCoroutine := co, more := mo }) (h : TS M d { kind := k, names := nms, isGenerator := g, isCoroutine := co, more := mo } cl ml H (s0 :: rest) Q) : TS M d (sco st) cl ml H (bd st) Q := by
  rw [hsc, hbd]; exact h
theorem thenS_ret {rest : List Stmt} {Q : FV → List (Str × V) → MH → Prop} {v : V} (h : Q (.ret v) ml H) : thenS M d sc cl rest Q (.ret v) ml H := h
end
theorem backS_ret {Q : V → MH → Prop} {v : V} {ml : List (Str × V)} {H : MH} (h : Q v H) : backS Q (.ret v) ml H := h
theorem backS_next {Q : V → MH → Prop} {ml : List (Str × V)} {H : MH} (h : Q .none H) : backS Q .next ml H := h
theorem loopS_next {Q : FV → List (Str × V) → MH → Prop} {G : List (Str × V) → MH → Prop} {ml : List (Str × V)} {H : MH} (h : G ml H) : loopS Q G .next ml H := h
theorem BH.free_att {H : MH} {σ : St} (hB : BH H σ) : H.c (.att σ.nodes.length) = none := (hB _ rfl).trans (by show Option.map _ _ = _; simp)
theorem BH.free_kid {H : MH} {σ : St} (hB : BH H σ) : H.c (.kid σ.nodes.length) = none := (hB _ rfl).trans (by show Option.map _ _ = _; simp)
theorem Keep.put' {p : Loc → Bool} {H₀ H : MH} {l : Loc} {x : Cell} (k : Keep p H₀ H) (h : p l = true) : Keep p H₀ (H.put l x) := k.trans (Keep.put h)
theorem Keep.tmp' {p : Loc → Bool} {H₀ H : MH} {k : Nat} {x : Cell} (a : Keep p H₀ H) (h : H.nx ≤ k) : Keep p H₀ (H.add (.tmp k) x) := a.trans (Keep.tmp h)
theorem Keep.ptmp {p : Loc → Bool} {H₀ H : MH} {k : Nat} {x : Cell} (a : Keep p H₀ H) (h : H₀.nx ≤ k) : Keep p H₀ (H.put (.tmp k) x) :=
  ⟨a.1, fun l' h1 h' => (put_other (fun e => by have := h' k e; omega) rfl).trans (a.2 l' h1 h')⟩
theorem ne_m1 (n : Nat) : ((n : Int) != -1) = true := by simp [bne_iff_ne]
theorem eq_m1 (n : Nat) : ¬ ((n : Int) == -1) = true := by simp
theorem str_ne {a b : Str} (h : a ≠ b) : (a != b) = true := by simp [h]
theorem str_nb {a b : Str} (h : a ≠ b) : ¬ (a == b) = true := by simp [h]
theorem str_nn {a b : Str} (h : a = b) : ¬ (a != b) = true := by simp [h]
theorem str_eb {a b : Str} (h : a = b) : (a == b) = true := by simp [h]
section
variable {M : Amb} {d : Nat} {cl : List (Str × Loc)} {ml : List (Str × V)} {H : MH}
theorem I_map {value slice : Expr} {f : Nd → V} {l : Loc} {ns : List Nd} {p : Nat} {x : Nd} {Q : V → MH → Prop} (hc : H.c l = some (.list (ns.map f))) (hp : ns[p]? = some x) (hz : ns.length ≤ 1000)
    (hs : ∀ a u, subscripted slice false (.ref a) (.int p u) = operate [.ref a, .int p u] (getItem (.ref a) (.int p u))) (h : Q (f x) H) : OP2 VR M d cl ml H (subscriptTail value slice) (.cell l) (.int p) Q := by
  have hl : p < ns.length := by
    rcases Nat.lt_or_ge p ns.length with q | q
    · exact q
    · rw [List.getElem?_eq_none q] at hp; cases hp
  exact OP_item_list hc (by omega) (by omega) (by rw [Int.toNat_natCast, List.getElem?_map, hp]; rfl) hs h
theorem I_range {value slice : Expr} {f : Nat → V} {l : Loc} {n p : Nat} {Q : V → MH → Prop} (hc : H.c l = some (.list ((List.range n).map f))) (hp : p < n) (hz : n ≤ 1000)
    (hs : ∀ a u, subscripted slice false (.ref a) (.int p u) = operate [.ref a, .int p u] (getItem (.ref a) (.int p u))) (h : Q (f p) H) : OP2 VR M d cl ml H (subscriptTail value slice) (.cell l) (.int p) Q :=
  OP_item_list hc (by omega) (by omega) (by rw [Int.toNat_natCast, List.getElem?_map, List.getElem?_range hp]; rfl) hs h
theorem OP_notin_strs {xs : List V} {ys : List Str} {x : Str} {Q : V → MH → Prop} (hx : strsOf xs = some ys) (h : Q (.bool (!(ys.any (· == x)))) H) : OP2 VR M d cl ml H (compareOp .NotIn) (.str x) (.tup xs) Q := by
  rw [strsOf_eq hx]
  intro A base h₀ outer fenv env L m mm s wd Qm x' y' c r1 r2 k
  obtain ⟨a, vs, rfl, e1, e2, e3⟩ := isTup_of c r2
  cases r1
  exact notin_tuple_strs e2 (strs_of (by simpa using e1)) (k _ _ H wd s.heap s.toks h (Ext.refl _) (.bool _) (c.tok _))
theorem OP_eq_pair {a b c e : Str} {Q : V → MH → Prop} (oa : PyData.strOk a = true) (ob : PyData.strOk b = true) (oc : PyData.strOk c = true) (oe : PyData.strOk e = true) (h : Q (.bool (a == c && b == e)) H) : OP2 VR M d cl ml H (compareOp .Eq) (.tup [.str a, .str b]) (.tup [.str c, .str e]) Q := by
  have key : PyData.eqv (.tuple [.str a, .str b]) (.tuple [.str c, .str e]) = (a == c && b == e) := by simp [PyData.eqv, PyData.eqvAll]
  have sh : ∀ a b : Str, PyData.strOk a = true → PyData.strOk b = true → SeqAt.shaped (.tuple [.str a, .str b]) = true := fun a b h1 h2 => by simp [SeqAt.shaped, PyData.canLay0, PyData.canLayAll0, PyData.depth, PyData.depthAll, h1, h2]
  exact OP_eq_data (.tup (.cons (.str _) (.cons (.str _) .nil))) (.tup (.cons (.str _) (.cons (.str _) .nil))) (sh _ _ oa ob) (sh _ _ oc oe) (by rw [key]; exact h)
end
noncomputable def SubL (ml ml' : List (Str × V)) : Prop := AllT (fun p => ml'.lookup p.1 = some p.2) ml
theorem mem_of_lookup {x : Str} {v : V} : ∀ {ml : List (Str × V)}, ml.lookup x = some v → (x, v) ∈ ml
  | (y, w) :: r, h => by
    rw [List.lookup_cons] at h
    cases q : (x == y) with
    | true => rw [q] at h; cases h; rw [eq_of_beq q]; exact .head _
    | false => rw [q] at h; exact .tail _ (mem_of_lookup h)
theorem SubL.look {ml ml' : List (Str × V)} (s : SubL ml ml') : ∀ x v, ml.lookup x = some v → ml'.lookup x = some v := fun x v h => AllT.mem s (x, v) (mem_of_lookup h)
section
variable {M : Amb} {d : Nat} {sc : Scope} {cl : List (Str × Loc)} {ml ml' : List (Str × V)} {H : MH}
theorem TG.sub {α β : Type} {rel : Frag → WD → β → α → Prop} {t : Env → Sem α} {Q : β → MH → Prop} (s : SubL ml ml') (h : TG rel M d sc cl ml H t Q) : TG rel M d sc cl ml' H t Q := by
  intro A base h₀ outer fenv env L m mm s' wd Qm hs c k
  refine h hs { c with lr := fun x v hx => c.lr x v (s.look x v hx) } fun b a H' wd' h' tk' hb e r c' => k b a H' wd' h' tk' hb e r { c' with lr := fun x v hx => ?_ }
  obtain ⟨v', h1, h2⟩ := c.lr x v hx
  exact ⟨v', h1, h2.ext _ e⟩
theorem TX.sub' {t : Env → Sem Flow} {Q : FV → List (Str × V) → MH → Prop} (s : ∀ x v, ml.lookup x = some v → ml'.lookup x = some v) (h : TX M d sc cl ml H t Q) : TX M d sc cl ml' H t Q := by
  intro A base h₀ outer env L m s' wd Qm hs hl c k
  exact h hs hl { c with lr := fun x v hx => c.lr x v (s x v hx) } k
theorem TX.sub {t : Env → Sem Flow} {Q : FV → List (Str × V) → MH → Prop} (s : SubL ml ml') (h : TX M d sc cl ml H t Q) : TX M d sc cl ml' H t Q := TX.sub' s.look h
theorem T1_while' {α : Type} {test : Expr} {body : List Stmt} {pos : Pos} {Q : FV → List (Str × V) → MH → Prop} (G : α → MH → Prop) (fr : α → List (Str × V)) (μ : α → Nat) (a₀ : α) (h0 : G a₀ H) (hf : SubL (fr a₀) ml)
    (hq : ∀ ml ml' H, SubL ml ml' → Q .next ml H → Q .next ml' H)
    (h : ∀ a H, G a H → TB M d sc cl (fr a) H test fun b H1 => if b = true then TS M d sc cl (fr a) H1 body (loopS Q fun ml' H' => ∃ a', μ a' < μ a ∧ G a' H' ∧ SubL (fr a') ml') else Q .next (fr a) H1) :
    T1 M d sc cl ml H (.While test body [] pos) Q := by
  refine T1_while (fun n ml H => ∃ a, μ a = n ∧ G a H ∧ SubL (fr a) ml) (μ a₀) ⟨a₀, rfl, h0, hf⟩ ?_
  rintro n ml H ⟨a, rfl, g, s⟩
  refine TG.sub s ((h a H g).mono fun b H1 q => ?_)
  split
  · rename_i e
    rw [if_pos e] at q
    refine TX.sub s (TX.mono q fun f ml' H' r => ?_)
    cases f with
    | next => obtain ⟨a', e1, e2, e3⟩ := r; exact ⟨_, e1, a', rfl, e2, e3⟩
    | cont => obtain ⟨a', e1, e2, e3⟩ := r; exact ⟨_, e1, a', rfl, e2, e3⟩
    | brk => exact r
    | ret v => exact r
  · rename_i e
    rw [if_neg e] at q
    exact hq _ _ _ s q
theorem T1_range' {x rn : Str} {xp rp cp pos : Pos} {arg : Expr} {body : List Stmt} {Q : FV → List (Str × V) → MH → Prop}
    (he : ∀ env, eval (.Call (.Name rn rp) [arg] [] cp) env = (do callWith cp (← eval (.Name rn rp) env) [] (backTo cp (starEach [arg] env)) (backToKw cp (keywordEach [] env))))
    (ha : ∀ env, starEach [arg] env = [(false, eval arg env)]) (hk : sc.names.lookup x = some .local) (hse : ∀ env v, foldedSetIterable (.Call (.Name rn rp) [arg] [] cp) env v = pure v)
    {α : Type} (G : Nat → α → MH → Prop) (fr : Nat → α → List (Str × V)) (n : Nat) (a₀ : α) (hn : n ≤ 1000)
    (hq : ∀ ml ml' H, SubL ml ml' → Q .next ml H → Q .next ml' H)
    (hrn : TE M d sc cl ml H (.Name rn rp) fun v H1 => v = .ty "range" ∧ TE M d sc cl ml H1 arg fun iv H2 => iv = .int n ∧ G 0 a₀ H2 ∧ SubL (fr 0 a₀) ml)
    (step : ∀ i a H₁, i < n → G i a H₁ → TS M d sc cl ((x, .int i) :: fr i a) H₁ body (loopS Q fun ml' H' => ∃ a', G (i + 1) a' H' ∧ SubL (fr (i + 1) a') ml'))
    (hend : ∀ a H', G n a H' → Q .next (fr n a) H') :
    T1 M d sc cl ml H (.For (.Name x xp) (.Call (.Name rn rp) [arg] [] cp) body [] pos) Q := by
  refine T1_range he ha hk hse (fun i ml H => ∃ a, G i a H ∧ SubL (fr i a) ml) (TG.mono hrn fun v H1 h1 => ⟨h1.1, TG.mono h1.2 fun iv H2 h2 => ⟨n, h2.1, hn, ⟨a₀, h2.2⟩, ?_, ?_⟩⟩)
  · rintro i ml₁ H₁ hi ⟨a, g, s⟩
    refine TX.sub' (fun y v h => ?_) (step i a H₁ hi g)
    rw [List.lookup_cons] at h ⊢
    split
    · rename_i e; rw [e] at h; exact h
    · rename_i e; rw [e] at h; exact s.look _ _ h
  · rintro ml' H' ⟨a, g, s⟩
    exact hq _ _ _ s (hend a H' g)
theorem TE_two2 {value upper : Expr} {p pos : Pos} {Q : V → MH → Prop} (ht : ∀ o r, letTemporaryGo value o r = pure ())
    (h : TE M d sc cl ml H value fun o H1 => TE M d sc cl ml H1 upper fun i H2 => ∃ a b r, o = .tup (a :: b :: r) ∧ i = .int 2 ∧ Q (.tup [a, b]) H2) :
    TE M d sc cl ml H (.Subscript value (.Slice none (some upper) none p) pos) Q :=
  TE_two ht (TG.mono h fun o H1 h1 => TG.mono h1 fun i H2 ⟨a, b, r, e1, e2, q⟩ => ⟨_, e1, e2, q⟩)
end
noncomputable def getE2 : List (Str × V) → Str → Option V
  | [], _ => none
  | (k, v) :: r, key => if k = key then some v else getE2 r key
theorem getE2_eq {key : Str} : ∀ {es : List (Str × V)}, getE es key = getE2 es key
  | [] => rfl
  | (k, v) :: r => by
    unfold getE getE2
    rw [List.find?_cons]
    by_cases q : k = key
    · simp [q]
    · simp only [q, decide_false, if_false]
      exact getE2_eq
section
variable {M : Amb} {d : Nat} {cl : List (Str × Loc)} {ml : List (Str × V)} {H : MH}
theorem OP_item_dict2 {value slice : Expr} {l : Loc} {es : List (Str × V)} {key : Str} {x : V} {Q : V → MH → Prop} (hc : H.c l = some (.dict es)) (hx : getE2 es key = some x)
    (hs : ∀ a t, subscripted slice false (.ref a) (.str key t) = operate [.ref a, .str key t] (getItem (.ref a) (.str key t))) (h : Q x H) : OP2 VR M d cl ml H (subscriptTail value slice) (.cell l) (.str key) Q :=
  OP_item_dict hc (getE2_eq.trans hx) hs h
theorem TE_two3 {sc : Scope} {value : Expr} {n : Nat} {cp p pos : Pos} {Q : V → MH → Prop} (ht : ∀ o r, letTemporaryGo value o r = pure ())
    (h : TE M d sc cl ml H value fun o H1 => TE M d sc cl ml H1 (.Constant (.int 2) n cp) fun i H2 => ∃ a b r, o = .tup (a :: b :: r) ∧ i = .int 2 ∧ Q (.tup [a, b]) H2) :
    TE M d sc cl ml H (.Subscript value (.Slice none (some (.Constant (.int 2) n cp)) none p) pos) Q := TE_two2 ht h
theorem B_get3 {l : Loc} {es : List (Str × V)} {key : Str} {x y : V} {Q : V → MH → Prop} (hc : H.c l = some (.dict es)) (hx : getE2 es key = some y) (h : Q y H) : CALB M d cl ml H (.builtin "dict.get") [.cell l, .str key, x] Q :=
  B_get2 hc (by rw [getE2_eq, hx]; exact h)
theorem B_get4 {l : Loc} {es : List (Str × V)} {key : Str} {x : V} {Q : V → MH → Prop} (hc : H.c l = some (.dict es)) (hx : getE2 es key = none) (h : Q x H) : CALB M d cl ml H (.builtin "dict.get") [.cell l, .str key, x] Q :=
  B_get2 hc (by rw [getE2_eq, hx]; exact h)
end
noncomputable abbrev lnV (i : Nat) : V := .cell (.lnode i)
noncomputable def stD (pl : Loc) (σ : St) : List (Str × V) := [("page", .cell (.lnode 0)), ("path", .cell pl), ("mode", .str σ.mode), ("notes", .cell .notes), ("is_done", .bool σ.done), ("is_part", .bool (σ.ctx != -1))]
structure LK (k : Nat) (H : MH) (σ : St) : Prop where
  lt : k < H.nx
  pa : H.c (.tmp k) = some (.list (σ.stack.map lnV))
  ls : ∀ l, l.isL = true → H.c l = lh (.tmp k) σ l
theorem LK.at {k : Nat} {H : MH} {σ : St} (h : LK k H σ) {l : Loc} {c : Cell} (e : lh (.tmp k) σ l = some c) (hl : l.isL = true) : H.c l = some c := (h.ls l hl).trans e
theorem LK.state {k : Nat} {H : MH} {σ : St} (h : LK k H σ) : H.c .state = some (.dict (stD (.tmp k) σ)) := h.ls _ rfl
theorem LK.notes {k : Nat} {H : MH} {σ : St} (h : LK k H σ) : H.c .notes = some (.list σ.errs) := h.ls _ rfl
inductive Tk where
  | start (n : Str) (a : Str) (s : Bool)
  | fin (n : Str)
  | ch (c : Str)
  | com (t : Str)
  | doc
  | eof
noncomputable def tAttrs (a : Str) : List V := [.tup [.str "n", .str a]]
noncomputable def tkV : Tk → V
  | .start n a s => .tup [.str "start", .str n, .tup (tAttrs a), .bool s]
  | .fin n => .tup [.str "end", .str n, .tup [], .bool false]
  | .ch c => .tup [.str "char", .str c]
  | .com t => .tup [.str "comment", .str t]
  | .doc => .tup [.str "doctype", .str "html", .none, .none, .bool false]
  | .eof => .tup [.str "eof"]
noncomputable def Tk.kind : Tk → Str
  | .start .. => "start"
  | .fin _ => "end"
  | .ch _ => "char"
  | .com _ => "comment"
  | .doc => "doctype"
  | .eof => "eof"
theorem OP_kind {M : Amb} {d : Nat} {cl : List (Str × Loc)} {ml : List (Str × V)} {H : MH} {value slice : Expr} {t : Tk} {Q : V → MH → Prop}
    (hs : ∀ a u, subscripted slice false (.ref a) (.int 0 u) = operate [.ref a, .int 0 u] (getItem (.ref a) (.int 0 u))) (h : Q (.str t.kind) H) : OP2 VR M d cl ml H (subscriptTail value slice) (tkV t) (.int 0) Q := by
  cases t <;> exact OP_item_tup (j := 0) (x := .str _) (by decide) (by decide) rfl rfl hs h
theorem kind_com {t : Tk} (h : t.kind = "comment") : ∃ c, t = .com c := by cases t <;> first | exact ⟨_, rfl⟩ | (dsimp only [Tk.kind] at h; exact absurd h (by decide +kernel))
theorem kind_eof {t : Tk} (h : t.kind = "eof") : t = .eof := by cases t <;> first | rfl | (dsimp only [Tk.kind] at h; exact absurd h (by decide +kernel))
noncomputable def code (x : Str) : Nat := x.cps.toList.foldl (fun a c => a * 3 + c) 0
noncomputable def gT : List (Nat × String × Addr) := [(3698, "Tree", 411), (874754, "OpenStack", 294), (2472337, "Formatting", 133), (89283, "Builder", 489), (350165, "is_space", 151), (11957, "above", 422), (28315028, "is_html_turn", 500), (37655, "finish", 507), (1077909, "place_for", 522), (9464135, "insert_sign", 529), (255523253, "insert_comment", 537), (4238, "make", 545), (255523334, "insert_element", 554), (28392767, "insert_token", 561), (9464266, "insert_void", 568), (1010906, "associate", 575), (255307139, "is_space_token", 582), (9460281, "is_start_of", 589), (1047108, "is_end_of", 596), (40136, "refuse", 603), (26069866, "back_to_body", 610), (2945257, "after_body", 617), (3140117, "is_at_root", 624), (244641596, "close_frameset", 631), (9331331, "in_frameset", 638), (238579232, "after_frameset", 645), (3146461, "is_of_body", 652), (2147073496, "after_after_body", 659), (173912966591, "after_after_frameset", 666), (1012999, "end_rules", 673), (8741236, "_law_places", 680), (2912458, "_law_bases", 687), (971365, "_law_rows", 694), (2914217, "_law_token", 701), (970882, "_law_body", 708), (970924, "_law_head", 715), (971378, "_law_sort", 722), (323747, "_law_put", 729), (971075, "_law_grow", 736), (971410, "_law_stop", 743), (78645359, "_law_body_due", 750), (8741480, "_law_refuse", 757), (2913251, "_law_leave", 764), (323624, "_law_due", 771), (2913734, "_law_plain", 776), (2913776, "_law_scene", 781)]
noncomputable def aT : List (Nat × Addr × String) := [(13783, 489, "rules"), (4562, 489, "tree"), (13724, 489, "stack"), (3102193, 489, "formatting"), (4343, 489, "mode"), (13144, 489, "modes"), (4204, 489, "form"), (40948, 489, "owners"), (254604437, 489, "is_frameset_ok"), (1048008, 489, "is_foster"), (112571, 489, "context"), (38311, 489, "errors"), (9455482, 489, "is_skipping"), (762270649, 489, "is_acknowledged"), (116315, 489, "is_done"), (12907, 411, "kinds"), (40945, 411, "spaces"), (12928, 411, "names"), (12490, 411, "attrs"), (13666, 411, "texts"), (118633, 411, "parents"), (330731, 411, "children"), (337738, 411, "contents"), (4562, 294, "tree"), (12988, 294, "items"), (12988, 133, "items")]
noncomputable def sT : List (Nat × Addr × String) := [(13783, 489, "rules"), (4562, 489, "tree"), (13724, 489, "stack"), (3102193, 489, "formatting"), (4343, 489, "mode"), (363945, 489, "original"), (13144, 489, "modes"), (4108, 489, "head"), (4204, 489, "form"), (40948, 489, "owners"), (254604437, 489, "is_frameset_ok"), (28354186, 489, "is_scripting"), (1048008, 489, "is_foster"), (112571, 489, "context"), (41233, 489, "quirks"), (38311, 489, "errors"), (119179, 489, "pending"), (4607, 489, "wish"), (9455482, 489, "is_skipping"), (762270649, 489, "is_acknowledged"), (116315, 489, "is_done"), (12907, 411, "kinds"), (40945, 411, "spaces"), (12928, 411, "names"), (12490, 411, "attrs"), (13666, 411, "texts"), (118633, 411, "parents"), (330731, 411, "children"), (337738, 411, "contents"), (4562, 294, "tree"), (12988, 294, "items"), (4562, 133, "tree"), (12988, 133, "items")]
noncomputable def mT : List (Nat × Addr × String × Addr) := [(4526, 294, "push", 214), (1453, 294, "pop", 221), (114269, 294, "current", 228), (4267, 294, "many", 235), (4271, 294, "name", 270), (1273, 411, "add", 321), (112352, 411, "element", 330), (4517, 411, "text", 337), (112271, 411, "comment", 344), (38897, 411, "insert", 359), (40280, 411, "remove", 373), (4250, 411, "last", 394), (12732, 489, "error", 444), (459, 489, "to", 451), (1499, 489, "use", 458), (122383, 489, "process", 465), (4066, 489, "feed", 472), (324826, 489, "adjusted", 479), (3143651, 489, "is_foreign", 486)]
noncomputable def gFind (n : Nat) (x : Str) : List (Nat × String × Addr) → Option Addr
  | [] => none
  | p :: r => cond (Nat.beq n p.1) (cond (x == Str.ofString p.2.1) (some p.2.2) none) (gFind n x r)
noncomputable def aFind (n : Nat) (C : Addr) (x : Str) : List (Nat × Addr × String) → Bool
  | [] => false
  | p :: r => cond (Nat.beq n p.1 && (C == p.2.1 && x == Str.ofString p.2.2)) true (aFind n C x r)
noncomputable def mFind (n : Nat) (C : Addr) (x : Str) : List (Nat × Addr × String × Addr) → Option Addr
  | [] => none
  | p :: r => cond (Nat.beq n p.1 && (C == p.2.1 && x == Str.ofString p.2.2.1)) (some p.2.2.2) (mFind n C x r)
theorem gFind_mem {n : Nat} {x : Str} {a : Addr} : ∀ {t : List (Nat × String × Addr)}, gFind n x t = some a → ∃ s, (s, a) ∈ t.map (·.2) ∧ x = Str.ofString s := by
  intro t
  induction t with
  | nil => intro h; cases h
  | cons p r ih =>
    intro h
    unfold gFind at h
    cases q : Nat.beq n p.1 with
    | false => rw [q] at h; obtain ⟨s, h1, h2⟩ := ih h; exact ⟨s, .tail _ h1, h2⟩
    | true =>
      rw [q] at h
      cases q2 : (x == Str.ofString p.2.1) with
      | false => rw [q2] at h; cases h
      | true => rw [q2] at h; cases h; exact ⟨p.2.1, .head _, eq_of_beq q2⟩
theorem aFind_mem {n : Nat} {C : Addr} {x : Str} : ∀ {t : List (Nat × Addr × String)}, aFind n C x t = true → ∃ s, (C, s) ∈ t.map (·.2) ∧ x = Str.ofString s := by
  intro t
  induction t with
  | nil => intro h; cases h
  | cons p r ih =>
    intro h
    unfold aFind at h
    cases q : (Nat.beq n p.1 && (C == p.2.1 && x == Str.ofString p.2.2)) with
    | false => rw [q] at h; obtain ⟨s, h1, h2⟩ := ih h; exact ⟨s, .tail _ h1, h2⟩
    | true =>
      rw [Bool.and_eq_true, Bool.and_eq_true] at q
      exact ⟨p.2.2, by rw [eq_of_beq q.2.1]; exact .head _, eq_of_beq q.2.2⟩
theorem mFind_mem {n : Nat} {C : Addr} {x : Str} {f : Addr} : ∀ {t : List (Nat × Addr × String × Addr)}, mFind n C x t = some f → ∃ s, (C, s, f) ∈ t.map (·.2) ∧ x = Str.ofString s := by
  intro t
  induction t with
  | nil => intro h; cases h
  | cons p r ih =>
    intro h
    unfold mFind at h
    cases q : (Nat.beq n p.1 && (C == p.2.1 && x == Str.ofString p.2.2.1)) with
    | false => rw [q] at h; obtain ⟨s, h1, h2⟩ := ih h; exact ⟨s, .tail _ h1, h2⟩
    | true =>
      rw [q] at h; cases h
      rw [Bool.and_eq_true, Bool.and_eq_true] at q
      exact ⟨p.2.2.1, by rw [eq_of_beq q.2.1]; exact .head _, eq_of_beq q.2.2⟩
theorem Facts.gN {K : Frag} (F : Facts K) {x : Str} {a : Addr} (h : gFind (code x) x gT = some a) : nsIn K mainGlobals x = some (some (.ref a)) ∧ keepIn K (.ref a) = true := by
  obtain ⟨s, h1, rfl⟩ := gFind_mem h
  exact F.glob.mem (s, a) h1
theorem Facts.gN1 {K : Frag} (F : Facts K) {x : Str} {a : Addr} (h : gFind (code x) x gT = some a) : nsIn K mainGlobals x = some (some (.ref a)) := (F.gN h).1
theorem Facts.aN {K : Frag} (F : Facts K) {C : Addr} {x : Str} (h : aFind (code x) C x aT = true) : AttrOK K C x := by
  obtain ⟨s, h1, rfl⟩ := aFind_mem h
  exact F.attr.mem (C, s) h1
theorem Facts.sN {K : Frag} (F : Facts K) {C : Addr} {x : Str} (h : aFind (code x) C x sT = true) : SetOK K C x := by
  obtain ⟨s, h1, rfl⟩ := aFind_mem h
  exact F.set.mem (C, s) h1
theorem Facts.mN {K : Frag} (F : Facts K) {C : Addr} {x : Str} {f : Addr} (h : mFind (code x) C x mT = some f) : MethOK K C x f := by
  obtain ⟨s, h1, rfl⟩ := mFind_mem h
  exact F.meth.mem (C, s, f) h1
structure HK (M : Amb) (H : MH) (c : Loc → Option Cell) : Prop where
  F : Facts M.K
  h : ∀ l x, c l = some x → H.c l = some x
noncomputable def onB (σ : St) (l : Loc) : Option Cell := cond l.isB (bh σ l) none
noncomputable def onL (k : Nat) (σ : St) (l : Loc) : Option Cell := if l = .state then some (.dict (stD (.tmp k) σ)) else cond l.isL (lh (.tmp k) σ l) none
theorem BH.hk {M : Amb} {H : MH} {σ : St} (F : Facts M.K) (hB : BH H σ) : HK M H (onB σ) := ⟨F, fun l x e => by
  have e : cond l.isB (bh σ l) none = some x := e
  cases q : l.isB with
  | true => rw [q] at e; exact (hB l q).trans e
  | false => rw [q] at e; cases e⟩
theorem LK.hk {M : Amb} {k : Nat} {H : MH} {σ : St} (F : Facts M.K) (L : LK k H σ) : HK M H (onL k σ) := ⟨F, fun l x e => by
  have e : (if l = .state then some (.dict (stD (.tmp k) σ)) else cond l.isL (lh (.tmp k) σ l) none) = some x := e
  by_cases z : l = .state
  · rw [if_pos z] at e; subst z; exact L.state.trans e
  rw [if_neg z] at e
  cases q : l.isL with
  | true => rw [q] at e; exact (L.ls l q).trans e
  | false => rw [q] at e; cases e⟩
theorem Facts.hk {M : Amb} {H : MH} (F : Facts M.K) : HK M H (fun _ => none) := ⟨F, fun _ _ e => by cases e⟩
noncomputable def updC (c : Loc → Option Cell) (l : Loc) (x : Cell) (y : Loc) : Option Cell := if y = l then some x else c y
theorem HK.put {M : Amb} {H : MH} {c : Loc → Option Cell} {l : Loc} {x : Cell} (k : HK M H c) : HK M (H.put l x) (updC c l x) := ⟨k.F, fun y z e => by
  show (if y = l then some x else H.c y) = _
  have e : (if y = l then some x else c y) = some z := e
  by_cases q : y = l
  · rw [if_pos q] at e ⊢; exact e
  · rw [if_neg q] at e ⊢; exact k.h y z e⟩
theorem HK.add {M : Amb} {H : MH} {c : Loc → Option Cell} {l : Loc} {x : Cell} (k : HK M H c) : HK M (H.add l x) (updC c l x) := ⟨k.F, (HK.put k).h⟩
noncomputable def cV : Const → Option V
  | .str s => some (.str s)
  | .int i => some (.int i)
  | .bool b => some (.bool b)
  | .none => some .none
  | _ => none
noncomputable def isLoc : Option NameKind → Bool
  | some .local => true
  | _ => false
noncomputable def isGI : Option NameKind → Bool
  | some .globalImplicit => true
  | _ => false
noncomputable def nV (sc : Scope) (ml : List (Str × V)) (x : Str) : Option V := cond (isLoc (sc.names.lookup x)) (cond (x == ("__debug__" : Str)) none (ml.lookup x)) none
noncomputable def V.nb : V → Bool
  | .blt _ => false
  | _ => true
noncomputable def nbO : Option V → Option V
  | some v => cond v.nb (some v) none
  | none => none
noncomputable def fldI (a : Str) : Option Cell → Option V
  | some (.inst C fs) => cond (aFind (code a) C a aT) (nbO (getF fs a)) none
  | _ => none
noncomputable def fld (c : Loc → Option Cell) (a : Str) : V → Option V
  | .cell l => fldI a (c l)
  | _ => none
noncomputable def itmC (i : V) : Option Cell → Option V
  | some (.dict es) => match i with | .str key => getE2 es key | _ => none
  | some (.list xs) => match i with | .int (.ofNat n) => cond (Nat.ble n 1000) xs[n]? none | _ => none
  | _ => none
noncomputable def itm (c : Loc → Option Cell) (i : V) : V → Option V
  | .cell l => itmC i (c l)
  | .tup xs => match i with | .int (.ofNat n) => cond (Nat.ble n 1000) xs[n]? none | _ => none
  | _ => none
noncomputable def isIx : Expr → Bool
  | .Constant .. => true
  | .Name .. => true
  | _ => false
noncomputable def negV : V → Option V
  | .int i => some (.int (-i))
  | _ => none
noncomputable def consO : Option V → Option (List V) → Option (List V)
  | some v, some vs => some (v :: vs)
  | _, _ => none
noncomputable def evs (f : Expr → Option V) : List Expr → Option (List V)
  | [] => some []
  | e :: r => consO (f e) (evs f r)
noncomputable def tupO : Option (List V) → Option V
  | some vs => some (.tup vs)
  | none => none
noncomputable def bnd {α β : Type} : Option α → (α → Option β) → Option β
  | some a, f => f a
  | none, _ => none
section
variable (c : Loc → Option Cell) (sc : Scope) (ml : List (Str × V))
noncomputable def evS (f : Expr → Option V) : Expr → Option V
  | .Constant k _ _ => cV k
  | .Name x _ => nV sc ml x
  | .Attribute v a _ => bnd (f v) (fld c a)
  | .Subscript v i _ => cond (isIx i) (bnd (f v) fun o => bnd (f i) fun j => itm c j o) none
  | .UnaryOp .USub v _ => bnd (f v) negV
  | .Tuple es _ _ => cond (Nat.ble es.length 1000) (tupO (evs f es)) none
  | _ => none
noncomputable def ev : Expr → Option V := evS c sc ml (evS c sc ml (evS c sc ml (evS c sc ml fun _ => none)))
end
noncomputable def okE : Expr → Bool
  | .Constant .. => true
  | .Name .. => true
  | .Attribute .. => true
  | .Subscript .. => true
  | .UnaryOp .. => true
  | .Tuple .. => true
  | _ => false
theorem star_ok {e : Expr} (h : okE e = true) : ∀ env r, starEach (e :: r) env = (false, eval e env) :: starEach r env := by
  intro env r
  cases e <;> first | rfl | cases h
theorem evS_ok {c : Loc → Option Cell} {sc : Scope} {ml : List (Str × V)} {f : Expr → Option V} {e : Expr} {v : V} (h : evS c sc ml f e = some v) : okE e = true := by
  cases e <;> first | rfl | cases h
section
variable {M : Amb} {d : Nat} {sc : Scope} {cl : List (Str × Loc)} {ml : List (Str × V)} {H : MH} {c : Loc → Option Cell}
noncomputable def Snd (M : Amb) (d : Nat) (sc : Scope) (cl : List (Str × Loc)) (ml : List (Str × V)) (H : MH) (f : Expr → Option V) : Prop :=
  ∀ e v, f e = some v → okE e = true ∧ ∀ Q : V → MH → Prop, Q v H → TE M d sc cl ml H e Q
theorem evs_ok {f : Expr → Option V} (s : Snd M d sc cl ml H f) : ∀ {es : List Expr} {vs : List V}, evs f es = some vs → (∀ env, starEach es env = argTrees es env) ∧ vs.length = es.length ∧ ∀ Q : List V → MH → Prop, Q vs H → TEs M d sc cl ml H es Q := by
  intro es
  induction es with
  | nil => intro vs h; cases h; exact ⟨fun _ => rfl, rfl, fun Q q => TEs_nil q⟩
  | cons e r ih =>
    intro vs h
    unfold evs at h
    cases q : f e with
    | none => rw [q] at h; cases h
    | some v =>
      cases q2 : evs f r with
      | none => rw [q, q2] at h; cases h
      | some us =>
        rw [q, q2] at h; cases h
        obtain ⟨h1, h2, h3⟩ := ih q2
        obtain ⟨g1, g2⟩ := s e v q
        exact ⟨fun env => by rw [star_ok g1, h1]; rfl, by rw [List.length_cons, List.length_cons, h2], fun Q z => TEs_cons (g2 _ (h3 _ z))⟩
theorem bnd_some {α β : Type} {o : Option α} {f : α → Option β} {b : β} (h : bnd o f = some b) : ∃ a, o = some a ∧ f a = some b := by
  cases o with
  | none => cases h
  | some a => exact ⟨a, rfl, h⟩
theorem cond_none {α : Type} {b : Bool} {x : Option α} {v : α} (h : cond b x none = some v) : b = true ∧ x = some v := by
  cases b with
  | true => exact ⟨rfl, h⟩
  | false => cases h
theorem cond_none' {α : Type} {b : Bool} {x : Option α} {v : α} (h : cond b none x = some v) : b = false ∧ x = some v := by
  cases b with
  | false => exact ⟨rfl, h⟩
  | true => cases h
theorem isLoc_eq {o : Option NameKind} (h : isLoc o = true) : o = some .local := by
  cases o with
  | none => cases h
  | some k => cases k <;> first | rfl | cases h
theorem isGI_eq {o : Option NameKind} (h : isGI o = true) : o = some .globalImplicit := by
  cases o with
  | none => cases h
  | some k => cases k <;> first | rfl | cases h
theorem nV_ok {x : Str} {p : Pos} {v : V} (h : nV sc ml x = some v) {Q : V → MH → Prop} (q : Q v H) : TE M d sc cl ml H (.Name x p) Q := by
  obtain ⟨h1, h2⟩ := cond_none h
  obtain ⟨h3, h4⟩ := cond_none' h2
  exact TE_local h4 (isLoc_eq h1) h3 q
theorem attr_he {v : Expr} {a : Str} {p : Pos} (h : okE v = true) : ∀ env, eval (.Attribute v a p) env = (do let o ← eval v env; standAt p.atName; let r ← holding [o] (getAttr o a true); letTemporaryGo v o r; pure r) := by
  intro env
  cases v <;> first | rfl | cases h
theorem fld_ok {a : Str} {o v : V} (k : HK M H c) (h : fld c a o = some v) {Q : V → MH → Prop} (q : Q v H) : OP1 VR M d cl ml H (fun o => getAttr o a true) o Q := by
  cases o with
  | cell l =>
    have h : fldI a (c l) = some v := h
    cases e : c l with
    | none => rw [e] at h; cases h
    | some x =>
      rw [e] at h
      cases x with
      | inst C fs =>
        obtain ⟨h1, h2⟩ := cond_none h
        cases g : getF fs a with
        | none => rw [g] at h2; cases h2
        | some y =>
          rw [g] at h2
          obtain ⟨h3, h4⟩ := cond_none h2
          cases h4
          exact OP_attr (k.h _ _ e) (k.F.aN h1) g (by cases v <;> first | trivial | cases h3) q
      | _ => cases h
  | _ => cases h
theorem ix_nat {slice : Expr} (h : isIx slice = true) (a : Addr) (i : Int) (u : Tok) : subscripted slice false (.ref a) (.int i u) = operate [.ref a, .int i u] (getItem (.ref a) (.int i u)) := by
  cases slice <;> first | rfl | cases h
theorem ix_str {slice : Expr} (h : isIx slice = true) (a : Addr) (i : Str) (u : Tok) : subscripted slice false (.ref a) (.str i u) = operate [.ref a, .str i u] (getItem (.ref a) (.str i u)) := by
  cases slice <;> first | rfl | cases h
theorem lt_of_get0 {α : Type} {xs : List α} {n : Nat} {x : α} (h : xs[n]? = some x) : n < xs.length := by
  rcases Nat.lt_or_ge n xs.length with q | q
  · exact q
  · rw [List.getElem?_eq_none q] at h; cases h
theorem itm_ok {value slice : Expr} (k : HK M H c) (hi : isIx slice = true) {i o v : V} (h : itm c i o = some v) {Q : V → MH → Prop} (q : Q v H) : OP2 VR M d cl ml H (subscriptTail value slice) o i Q := by
  cases o with
  | cell l =>
    have h : itmC i (c l) = some v := h
    cases e : c l with
    | none => rw [e] at h; cases h
    | some x =>
      rw [e] at h
      cases x with
      | dict es =>
        cases i with
        | str key => exact OP_item_dict2 (k.h _ _ e) h (fun a t => ix_str hi a key t) q
        | _ => cases h
      | list xs =>
        cases i with
        | int j =>
          cases j with
          | ofNat n =>
            obtain ⟨h1, h2⟩ := cond_none h
            have := Nat.le_of_ble_eq_true h1
            exact OP_item_list (k.h _ _ e) (Int.natCast_nonneg n) (by show (n : Int) < _; omega) h2 (fun a t => ix_nat hi a _ t) q
          | negSucc n => cases h
        | _ => cases h
      | _ => cases h
  | tup xs =>
    cases i with
    | int j =>
      cases j with
      | ofNat n =>
        obtain ⟨h1, h2⟩ := cond_none h
        have := Nat.le_of_ble_eq_true h1
        have l := lt_of_get0 h2
        refine OP_item_tup (j := n) (by show _ ≤ (n : Int); omega) (by show (n : Int) < _; omega) ?_ h2 (fun a t => ix_nat hi a _ t) q
        show seqIndex? (n : Int) xs.length = some n
        unfold seqIndex?
        simp; omega
      | negSucc n => cases h
    | _ => cases h
  | _ => cases h
theorem Snd.none : Snd M d sc cl ml H fun _ => none := fun _ _ h => by cases h
theorem Snd.step (k : HK M H c) {f : Expr → Option V} (s : Snd M d sc cl ml H f) : Snd M d sc cl ml H (evS c sc ml f) := by
  intro e v h
  refine ⟨evS_ok h, fun Q q => ?_⟩
  cases e with
  | Constant k _ _ => cases k <;> first | (cases h; first | exact TE_str q | exact TE_int q | exact TE_bool q | exact TE_none q) | cases h
  | Name x p => exact nV_ok h q
  | Attribute w a p =>
    obtain ⟨o, h1, h2⟩ := bnd_some h
    obtain ⟨g1, g2⟩ := s w o h1
    exact TE_attr (attr_he g1) (g2 _ (fld_ok k h2 q))
  | Subscript w i p =>
    obtain ⟨h0, h⟩ := cond_none h
    obtain ⟨o, h1, h2⟩ := bnd_some h
    obtain ⟨j, h3, h4⟩ := bnd_some h2
    exact TE_sub ((s w o h1).2 _ ((s i j h3).2 _ (itm_ok k h0 h4 q)))
  | UnaryOp op w p =>
    cases op with
    | USub =>
      obtain ⟨o, h1, h2⟩ := bnd_some h
      cases o with
      | int i => cases h2; exact TE_un ((s w _ h1).2 _ (OP_neg q))
      | _ => cases h2
    | _ => cases h
  | Tuple es n p =>
    obtain ⟨h0, h⟩ := cond_none h
    cases g : evs f es with
    | none => rw [g] at h; cases h
    | some vs =>
      rw [g] at h; cases h
      obtain ⟨h1, h2, h3⟩ := evs_ok s g
      have hz := Nat.le_of_ble_eq_true h0
      exact TE_tuple h1 hz (h3 _ ⟨h2 ▸ hz, q⟩)
  | _ => cases h
theorem ev_snd (k : HK M H c) : Snd M d sc cl ml H (ev c sc ml) := ((Snd.none.step k).step k |>.step k).step k
theorem TE_ev {e : Expr} {v : V} {Q : V → MH → Prop} (k : HK M H c) (h : ev c sc ml e = some v) (q : Q v H) : TE M d sc cl ml H e Q := (ev_snd k e v h).2 Q q
theorem TEs_ev {es : List Expr} {vs : List V} {Q : List V → MH → Prop} (k : HK M H c) (h : evs (ev c sc ml) es = some vs) (q : Q vs H) : TEs M d sc cl ml H es Q := (evs_ok (ev_snd k) h).2.2 Q q
noncomputable def s2 (f : Str → Str → Bool) (g : Int → Int → Bool) : V → V → Option Bool
  | .str a, v => match v with | .str b => some (f a b) | _ => none
  | .int a, v => match v with | .int b => some (g a b) | _ => none
  | _, _ => none
theorem s2_some {f : Str → Str → Bool} {g : Int → Int → Bool} {a b : V} {t : Bool} (h : s2 f g a b = some t) : (∃ x y, a = .str x ∧ b = .str y ∧ f x y = t) ∨ (∃ i j, a = .int i ∧ b = .int j ∧ g i j = t) := by
  cases a with
  | str x => cases b with
    | str y => exact .inl ⟨x, y, rfl, rfl, Option.some.inj h⟩
    | _ => cases h
  | int x => cases b with
    | int y => exact .inr ⟨x, y, rfl, rfl, Option.some.inj h⟩
    | _ => cases h
  | _ => cases h
noncomputable def i2 (g : Int → Int → Bool) : V → V → Option Bool
  | .int a, v => match v with | .int b => some (g a b) | _ => none
  | _, _ => none
theorem i2_some {g : Int → Int → Bool} {a b : V} {t : Bool} (h : i2 g a b = some t) : ∃ i j, a = .int i ∧ b = .int j ∧ g i j = t := by
  cases a with
  | int x => cases b with
    | int y => exact ⟨x, y, rfl, rfl, Option.some.inj h⟩
    | _ => cases h
  | _ => cases h
noncomputable def anyO (x : Str) : Option (List Str) → Option Bool
  | some ys => some (ys.any (· == x))
  | none => none
noncomputable def inB : V → V → Option Bool
  | .str x, v => match v with | .tup xs => anyO x (strsOf xs) | _ => none
  | _, _ => none
noncomputable def cmpB : CmpOp → V → V → Option Bool
  | .Eq => s2 (fun a b => a == b) fun a b => a == b
  | .NotEq => s2 (fun a b => a != b) fun a b => a != b
  | .Lt => i2 fun a b => decide (a < b)
  | .LtE => i2 fun a b => decide (a ≤ b)
  | .Gt => i2 fun a b => decide (a > b)
  | .In => inB
  | _ => fun _ _ => none
noncomputable def boolO : Option V → Option Bool
  | some (.bool b) => some b
  | _ => none
noncomputable def cmp1 (f : Expr → Option V) (l : Expr) : List CmpOp → List Expr → Option Bool
  | [op], rs => match rs with
    | [r] => cond (behindInMarks op r) none (bnd (f l) fun a => bnd (f r) fun b => cmpB op a b)
    | _ => none
  | _, _ => none
noncomputable def evB (f : Expr → Option V) : Expr → Option Bool
  | .Compare l ops rs _ => cmp1 f l ops rs
  | .Name x p => boolO (f (.Name x p))
  | .Attribute w a p => boolO (f (.Attribute w a p))
  | .Subscript w i p => boolO (f (.Subscript w i p))
  | _ => none
theorem cmpB_ok {op : CmpOp} {a b : V} {t : Bool} (h : cmpB op a b = some t) {Q : V → MH → Prop} (q : Q (.bool t) H) : OP2 VR M d cl ml H (compareOp op) a b Q := by
  cases op with
  | Eq => rcases s2_some h with ⟨x, y, rfl, rfl, rfl⟩ | ⟨x, y, rfl, rfl, rfl⟩; exact OP_eq_str q; exact OP_eq_int q
  | NotEq => rcases s2_some h with ⟨x, y, rfl, rfl, rfl⟩ | ⟨x, y, rfl, rfl, rfl⟩; exact OP_ne_str q; exact OP_ne_int q
  | Lt => obtain ⟨x, y, rfl, rfl, rfl⟩ := i2_some h; exact OP_lt_int q
  | LtE => obtain ⟨x, y, rfl, rfl, rfl⟩ := i2_some h; exact OP_le_int q
  | Gt => obtain ⟨x, y, rfl, rfl, rfl⟩ := i2_some h; exact OP_gt_int q
  | In =>
    cases a with
    | str x =>
      cases b with
      | tup xs =>
        have h : anyO x (strsOf xs) = some t := h
        cases g : strsOf xs with
        | none => rw [g] at h; cases h
        | some ys => rw [g] at h; cases h; exact OP_in_strs' g q
      | _ => cases h
    | _ => cases h
  | _ => cases h
theorem boolO_some {o : Option V} {b : Bool} (h : boolO o = some b) : o = some (.bool b) := by
  cases o with
  | none => cases h
  | some v => cases v <;> first | (cases h; rfl) | cases h
theorem TB_ev {e : Expr} {b : Bool} {Q : Bool → MH → Prop} (k : HK M H c) (h : evB (ev c sc ml) e = some b) (q : Q b H) : TB M d sc cl ml H e Q := by
  cases e with
  | Compare l ops rs p =>
    have h : cmp1 (ev c sc ml) l ops rs = some b := h
    cases ops with
    | nil => cases h
    | cons op ops =>
      cases ops with
      | cons _ _ => cases h
      | nil =>
        cases rs with
        | nil => cases h
        | cons r rs =>
          cases rs with
          | cons _ _ => cases h
          | nil =>
            obtain ⟨h0, h⟩ := cond_none' h
            obtain ⟨x, h1, h2⟩ := bnd_some h
            obtain ⟨y, h3, h4⟩ := bnd_some h2
            exact TB_cmp h0 ((ev_snd k l x h1).2 _ ((ev_snd k r y h3).2 _ (cmpB_ok h4 ⟨b, rfl, q⟩)))
  | Name x p => exact TB_plain (fun _ _ => rfl) (TE_ev k (boolO_some h) (OP_truth_bool q))
  | Attribute w a p => exact TB_plain (fun _ _ => rfl) (TE_ev k (boolO_some h) (OP_truth_bool q))
  | Subscript w i p => exact TB_plain (fun _ _ => rfl) (TE_ev k (boolO_some h) (OP_truth_bool q))
  | _ => cases h
theorem TE_kind {w : Expr} {n : Nat} {cp p : Pos} {t : Tk} {Q : V → MH → Prop} (k : HK M H c) (h : ev c sc ml w = some (tkV t)) (q : Q (.str t.kind) H) : TE M d sc cl ml H (.Subscript w (.Constant (.int 0) n cp) p) Q :=
  TE_sub (TE_ev k h (TE_int (OP_kind (fun _ _ => rfl) q)))
theorem TB_kind {w : Expr} {n m : Nat} {cp p rp pos : Pos} {t : Tk} {x : Str} {Q : Bool → MH → Prop} (k : HK M H c) (h : ev c sc ml w = some (tkV t)) (q : Q (t.kind == x) H) : TB M d sc cl ml H (.Compare (.Subscript w (.Constant (.int 0) n cp) p) [.Eq] [.Constant (.str x) m rp] pos) Q :=
  TB_cmp rfl (TE_kind k h (TE_str (OP_eq_str ⟨_, rfl, q⟩)))
noncomputable def gA (sc : Scope) (f : Str) : Option Addr := cond (isGI (sc.names.lookup f)) (cond (f == ("__debug__" : Str)) none (gFind (code f) f gT)) none
theorem TE_gR {f : Str} {fp pos : Pos} {args : List Expr} {a : Addr} {Q : V → MH → Prop} (k : HK M H c) (h : gA sc f = some a) (ha : ∀ env, starEach args env = argTrees args env)
    (q : TEs M d sc cl ml H args fun vs H2 => CALL M d cl ml H2 a vs Q) : TE M d sc cl ml H (.Call (.Name f fp) args [] pos) Q := by
  obtain ⟨h1, h⟩ := cond_none h
  obtain ⟨h2, h⟩ := cond_none' h
  obtain ⟨h3, h4⟩ := k.F.gN h
  exact TE_call (fun _ => rfl) ha (TE_global h3 (isGI_eq h1) h2 ⟨a, rfl, h4, q⟩)
theorem TE_gC {f : Str} {fp pos : Pos} {args : List Expr} {a : Addr} {vs : List V} {Q : V → MH → Prop} (k : HK M H c) (h : gA sc f = some a) (g : evs (ev c sc ml) args = some vs)
    (q : CALL M d cl ml H a vs Q) : TE M d sc cl ml H (.Call (.Name f fp) args [] pos) Q :=
  let e := evs_ok (ev_snd k (d := d) (cl := cl)) g
  TE_gR k h e.1 (e.2.2 _ q)
noncomputable def mAI (m : Str) (l : Loc) : Option Cell → Option (Addr × Loc)
  | some (.inst C fs) => cond (getF fs m).isNone (bnd (mFind (code m) C m mT) fun f => some (f, l)) none
  | _ => none
noncomputable def mA (c : Loc → Option Cell) (m : Str) : Option V → Option (Addr × Loc)
  | some (.cell l) => mAI m l (c l)
  | _ => none
theorem TE_mR {o : Expr} {name : Str} {apos pos : Pos} {args : List Expr} {pl : Env → Sem Bool} {f : Addr} {l : Loc} {Q : V → MH → Prop} (k : HK M H c) 
    (he : ∀ env, eval (.Call (.Attribute o name apos) args [] pos) env = (do
      let ov ← eval o env
      standAt apos.atName
      let (f, first) ← holding [ov] (getMethod ov name (pl env))
      callWith pos f first (backTo pos (starEach args env)) []))
    (ha : ∀ env, starEach args env = argTrees args env)
    (h : mA c name (ev c sc ml o) = some (f, l)) (q : TEs M d sc cl ml H args fun vs H2 => CALL M d cl ml H2 f (.cell l :: vs) Q) : TE M d sc cl ml H (.Call (.Attribute o name apos) args [] pos) Q := by
  cases e : ev c sc ml o with
  | none => rw [e] at h; cases h
  | some v =>
    rw [e] at h
    cases v with
    | cell l' =>
      have h : mAI name l' (c l') = some (f, l) := h
      cases e2 : c l' with
      | none => rw [e2] at h; cases h
      | some x =>
        rw [e2] at h
        cases x with
        | inst C fs =>
          obtain ⟨h1, h⟩ := cond_none h
          obtain ⟨f', h2, h3⟩ := bnd_some h
          cases h3
          refine TE_meth he ha (TE_ev k e ⟨_, _, _, _, rfl, k.h _ _ e2, ?_, k.F.mN h2, q⟩)
          cases g : getF fs name with
          | none => rfl
          | some y => rw [g] at h1; cases h1
        | _ => cases h
    | _ => cases h
theorem TE_mC {o : Expr} {name : Str} {apos pos : Pos} {args : List Expr} {pl : Env → Sem Bool} {f : Addr} {l : Loc} {vs : List V} {Q : V → MH → Prop} (k : HK M H c) 
    (he : ∀ env, eval (.Call (.Attribute o name apos) args [] pos) env = (do
      let ov ← eval o env
      standAt apos.atName
      let (f, first) ← holding [ov] (getMethod ov name (pl env))
      callWith pos f first (backTo pos (starEach args env)) []))
    (h : mA c name (ev c sc ml o) = some (f, l)) (g : evs (ev c sc ml) args = some vs) (q : CALL M d cl ml H f (.cell l :: vs) Q) : TE M d sc cl ml H (.Call (.Attribute o name apos) args [] pos) Q :=
  let e := evs_ok (ev_snd k (d := d) (cl := cl)) g
  TE_mR k he e.1 h (e.2.2 _ q)
theorem TB_c {f : Expr} {as : List Expr} {p : Pos} {Q : Bool → MH → Prop} (h : TE M d sc cl ml H (.Call f as [] p) fun v H1 => OP1 eqR M d cl ml H1 truthy v Q) : TB M d sc cl ml H (.Call f as [] p) Q := TB_plain (fun _ _ => rfl) h
theorem TS_one {st : Stmt} {Q : FV → List (Str × V) → MH → Prop} (h : T1 M d sc cl ml H st Q) : TS M d sc cl ml H [st] Q :=
  TS_cons (TX.mono h fun f ml' H' q => by
    cases f with
    | next => exact TS_nil q
    | _ => exact q)
theorem swaps_ok {e : Expr} (h : okE e = true) (t : Option Expr) (n : Nat) (env : Env) : swapsWith e t n env = pure false := by
  cases e <;> first | rfl | cases h
theorem T1_retE {e : Expr} {v : V} {pos : Pos} {Q : FV → List (Str × V) → MH → Prop} (k : HK M H c) (h : ev c sc ml e = some v) (q : Q (.ret v) ml H) : T1 M d sc cl ml H (.Return (some e) pos) Q := T1_ret (TE_ev k h q)
theorem T1_assignE {x : Str} {xp pos : Pos} {e : Expr} {v : V} {Q : FV → List (Str × V) → MH → Prop} (k : HK M H c) (h : ev c sc ml e = some v) (hk : isLoc (sc.names.lookup x) = true) (q : Q .next ((x, v) :: ml) H) : T1 M d sc cl ml H (.Assign [.Name x xp] e pos) Q :=
  T1_assign (swaps_ok (ev_snd k e v h (d := d) (cl := cl)).1 _ _) (isLoc_eq hk) (TE_ev k h q)
theorem T1_ifE {test : Expr} {b : Bool} {body orelse : List Stmt} {pos : Pos} {Q : FV → List (Str × V) → MH → Prop} (k : HK M H c) (h : evB (ev c sc ml) test = some b) (q : if b = true then TS M d sc cl ml H body Q else TS M d sc cl ml H orelse Q) : T1 M d sc cl ml H (.If test body orelse pos) Q := T1_if (TB_ev k h q)
theorem T1_setattrE {o e : Expr} {v ov : V} {attr : Str} {ap pos : Pos} {Q : FV → List (Str × V) → MH → Prop} (k : HK M H c) (h : ev c sc ml e = some v) (g : ev c sc ml o = some ov)
    (q : OP2 (fun _ _ _ _ => True) M d cl ml H (fun o v => setAttr o attr v) ov v fun (_ : Unit) H3 => Q .next ml H3) : T1 M d sc cl ml H (.Assign [.Attribute o attr ap] e pos) Q :=
  T1_setattr (swaps_ok (ev_snd k e v h (d := d) (cl := cl)).1 _ _) (TE_ev k h (TE_ev k g q))
theorem T1_setitemE {o i e : Expr} {v ov iv : V} {ap pos : Pos} {Q : FV → List (Str × V) → MH → Prop} (hpu : M.pu = false) (k : HK M H c) (h : ev c sc ml e = some v) (g : ev c sc ml o = some ov) (gi : ev c sc ml i = some iv)
    (q : ∃ H4, Stored H ov iv v H4 ∧ Q .next ml H4) : T1 M d sc cl ml H (.Assign [.Subscript o i ap] e pos) Q :=
  T1_setitem hpu (swaps_ok (ev_snd k e v h (d := d) (cl := cl)).1 _ _) (TE_ev k h (TE_ev k g (TE_ev k gi q)))
theorem TE_subE {w i : Expr} {o j : V} {pos : Pos} {Q : V → MH → Prop} (k : HK M H c) (h : ev c sc ml w = some o) (g : ev c sc ml i = some j) (q : OP2 VR M d cl ml H (subscriptTail w i) o j Q) : TE M d sc cl ml H (.Subscript w i pos) Q := TE_sub (TE_ev k h (TE_ev k g q))
theorem TE_binE {l r : Expr} {op : Operator} {a b : V} {pos : Pos} {Q : V → MH → Prop} (k : HK M H c) (h : ev c sc ml l = some a) (g : ev c sc ml r = some b) (q : OP2 VR M d cl ml H (binaryOp op) a b Q) : TE M d sc cl ml H (.BinOp l op r pos) Q := TE_bin (TE_ev k h (TE_ev k g q))
theorem TE_cmpE {l r : Expr} {op : CmpOp} {a b : V} {pos : Pos} {Q : V → MH → Prop} (k : HK M H c) (hb : behindInMarks op r = false) (h : ev c sc ml l = some a) (g : ev c sc ml r = some b) (q : OP2 VR M d cl ml H (compareOp op) a b Q) : TE M d sc cl ml H (.Compare l [op] [r] pos) Q := TE_cmp hb (TE_ev k h (TE_ev k g q))
theorem T1_appE {o e : Expr} {l : Loc} {xs : List V} {v : V} {apos cp pos : Pos} {pl : Env → Sem Bool} {Q : FV → List (Str × V) → MH → Prop} (hpu : M.pu = false) (k : HK M H c) 
    (he : ∀ env, eval (.Call (.Attribute o (Str.ofString "append") apos) [e] [] cp) env = (do
      let ov ← eval o env
      standAt apos.atName
      let (f, first) ← holding [ov] (getMethod ov (Str.ofString "append") (pl env))
      callWith cp f first (backTo cp (starEach [e] env)) []))
    (h : ev c sc ml o = some (.cell l)) (g : ev c sc ml e = some v) (hi : sc.kind = .function) (hc : H.c l = some (.list xs)) (hz : xs.length ≤ 1000) (q : Q .next ml (H.put l (.list (xs ++ [v])))) : T1 M d sc cl ml H (.Expr (.Call (.Attribute o (Str.ofString "append") apos) [e] [] cp) pos) Q := by
  refine T1_expr (fun _ => rfl) hi (TE_bmeth he (fun env => ?_) PySem.F.slot_list_append PySem.F.plainAttrs_list PySem.F.type_list_append (TE_ev k h ⟨Or.inl ⟨_, hc, rfl⟩, TEs_cons (TE_ev k g (TEs_nil (B_append hpu hc hz q)))⟩))
  rw [star_ok (ev_snd k e v g (d := d) (cl := cl)).1]
  rfl
theorem TE_lenE {f : Str} {e : Expr} {l : Loc} {xs : List V} {fp pos : Pos} {Q : V → MH → Prop} (k : HK M H c) (hf : (f == Str.ofString "len") = true) (hg : isGI (sc.names.lookup f) = true) (h : ev c sc ml e = some (.cell l)) (hc : H.c l = some (.list xs)) (hz : xs.length ≤ 1000) (q : Q (.int xs.length) H) :
    TE M d sc cl ml H (.Call (.Name f fp) [e] [] pos) Q := by
  obtain rfl := eq_of_beq hf
  refine TE_bcall (fun _ => rfl) (fun env => ?_) (TE_n_len k.F (isGI_eq hg) ⟨_, rfl, TEs_cons (TE_ev k h (TEs_nil (B_len_list hc hz q)))⟩)
  rw [star_ok (ev_snd k e _ h (d := d) (cl := cl)).1]
  rfl
theorem T1_gC {f : Str} {fp cp pos : Pos} {args : List Expr} {a : Addr} {vs : List V} {Q : FV → List (Str × V) → MH → Prop} (k : HK M H c) (h : gA sc f = some a) (g : evs (ev c sc ml) args = some vs) (hi : sc.kind = .function)
    (q : CALL M d cl ml H a vs fun _ H' => Q .next ml H') : T1 M d sc cl ml H (.Expr (.Call (.Name f fp) args [] cp) pos) Q := T1_expr (fun _ => rfl) hi (TE_gC k h g q)
theorem T1_mC {o : Expr} {name : Str} {apos cp pos : Pos} {args : List Expr} {pl : Env → Sem Bool} {f : Addr} {l : Loc} {vs : List V} {Q : FV → List (Str × V) → MH → Prop} (k : HK M H c)
    (he : ∀ env, eval (.Call (.Attribute o name apos) args [] cp) env = (do
      let ov ← eval o env
      standAt apos.atName
      let (f, first) ← holding [ov] (getMethod ov name (pl env))
      callWith cp f first (backTo cp (starEach args env)) []))
    (h : mA c name (ev c sc ml o) = some (f, l)) (g : evs (ev c sc ml) args = some vs) (hi : sc.kind = .function) (q : CALL M d cl ml H f (.cell l :: vs) fun _ H' => Q .next ml H') : T1 M d sc cl ml H (.Expr (.Call (.Attribute o name apos) args [] cp) pos) Q :=
  T1_expr (fun _ => rfl) hi (TE_mC k he h g q)
theorem TB_gC {f : Str} {fp cp : Pos} {args : List Expr} {a : Addr} {vs : List V} {Q : Bool → MH → Prop} (k : HK M H c) (h : gA sc f = some a) (g : evs (ev c sc ml) args = some vs)
    (q : CALL M d cl ml H a vs fun v H1 => OP1 eqR M d cl ml H1 truthy v Q) : TB M d sc cl ml H (.Call (.Name f fp) args [] cp) Q := TB_c (TE_gC k h g q)
theorem TS_ifE {test : Expr} {b : Bool} {body orelse : List Stmt} {pos : Pos} {Q : FV → List (Str × V) → MH → Prop} (k : HK M H c) (h : evB (ev c sc ml) test = some b) (q : if b = true then TS M d sc cl ml H body Q else TS M d sc cl ml H orelse Q) : TS M d sc cl ml H [.If test body orelse pos] Q := TS_one (T1_ifE k h q)
theorem TB_pair {w : Expr} {n n1 n2 n3 : Nat} {cp p sp q1 q2 tp pos : Pos} {a b x y : Str} {r : List V} {Q : Bool → MH → Prop} (k : HK M H c) (h : ev c sc ml w = some (.tup (.str a :: .str b :: r))) (ht : ∀ o r, letTemporaryGo w o r = pure ())
    (oa : PyData.strOk a = true) (ob : PyData.strOk b = true) (oc : PyData.strOk x = true) (oe : PyData.strOk y = true) (q : Q (a == x && b == y) H) :
    TB M d sc cl ml H (.Compare (.Subscript w (.Slice none (some (.Constant (.int 2) n cp)) none p) sp) [.Eq] [.Tuple [.Constant (.str x) n1 q1, .Constant (.str y) n2 q2] n3 tp] pos) Q :=
  TB_cmp rfl (TE_two3 ht (TE_ev k h (TE_int ⟨_, _, _, rfl, rfl, TE_ev k rfl (OP_eq_pair oa ob oc oe ⟨_, rfl, q⟩)⟩)))
end
/- the walk's steps -/
set_option compiler.extract_closed false
local macro_rules | `(tactic| walk_at "m.hk") => `(tactic| (focus (repeat' (first | exact BH.hk (by assumption) (by assumption) | exact LK.hk (by assumption) (by assumption) | (refine' HK.put ?_) | (refine' HK.add ?_) | exact Facts.hk (by assumption)))))
local macro_rules | `(tactic| walk_at "m.cell") => `(tactic| (focus (first | ((refine' HK.h ?k _ _ ?e); (case k => (walk_at "m.hk")); (case e => exact rfl)) | ((repeat' (first | assumption | exact put_same | exact add_same | exact LK.pa (by assumption) | exact LK.state (by assumption) | exact LK.notes (by assumption) | ((refine' LK.at ?x ?e ?l); (case x => assumption); (case e => exact rfl); (case l => exact rfl)) | (refine' put_other ?_ ?_) | (refine' add_other ?_ ?_) | exact Loc.ne_tag rfl | (intro e; cases e; done) | (intro e; cases e; omega) | fail "cell")); done))))
local macro_rules | `(tactic| walk_at "m.cell2") => `(tactic| (focus ((repeat' (first | assumption | exact BH.free_att (by assumption) | exact BH.free_kid (by assumption) | (refine' put_other ?_ ?_) | (refine' add_other ?_ ?_) | exact Loc.ne_tag rfl | (intro e; cases e; done) | (intro e; cases e; omega) | fail "cell")); done)))
local macro_rules | `(tactic| walk_at "m.le") => `(tactic| (first | assumption | exact Nat.le_of_ble_eq_true rfl | omega | (simp only [List.length_map, List.length_append, List.length_cons, List.length_nil, List.length_range]; omega)))
local macro_rules | `(tactic| walk_at "m.free") => `(tactic| (first | assumption | exact free_tmp (Nat.le_refl _) | exact free_of (by walk_at "m.cell2") (fun _ => nofun)))
local macro_rules | `(tactic| walk_at "m.keep") => `(tactic| (focus ((repeat' (first | assumption | exact Keep.refl _ | (refine' Keep.put' ?_ rfl) | (refine' Keep.tmp' ?_ (Nat.le_refl _)) | (refine' Keep.ptmp ?_ (by assumption)) | fail "keep")); done)))
local macro_rules | `(tactic| walk_at "m.tt") => `(tactic| (first | assumption | exact ne_m1 _ | exact rfl | decide +kernel | exact str_ne (by assumption) | exact str_eb (by assumption)))
local macro_rules | `(tactic| walk_at "m.ff") => `(tactic| (first | assumption | exact eq_m1 _ | exact Bool.false_ne_true | decide +kernel | exact str_nb (by assumption) | exact str_nn (by assumption)))
local macro_rules | `(tactic| walk_at "m.name") => `(tactic| (first | ((with_reducible refine' TE_local ?_ ?_ ?_ ?_); rotate_left; rfl; rfl; rfl) | ((with_reducible refine' TE_global ?_ ?_ ?_ ?_); rotate_left; ((refine' Facts.gN1 (by assumption) ?z); (case z => exact rfl)); rfl; rfl) | ((with_reducible refine' TE_n_len ?_ ?_ ?_); assumption; rfl) | ((with_reducible refine' TE_n_isinstance ?_ ?_ ?_); assumption; rfl) | ((with_reducible refine' TE_n_str ?_ ?_ ?_); assumption; rfl) | ((with_reducible refine' TE_n_list ?_ ?_ ?_); assumption; rfl) | ((with_reducible refine' TE_n_range ?_ ?_ ?_); assumption; rfl) | ((with_reducible refine' TE_cellvar ?_ ?_ ?_ ?_ ?_); rotate_left 2; rfl; (walk_at "m.cell"); rfl; rfl) | fail "name"))
local macro_rules | `(tactic| walk_at "m.obj") => `(tactic| (repeat' (first | (walk_at "m.name") | ((with_reducible refine' OP_attr ?_ ?_ ?_ ?_ ?_); rotate_left 3; (walk_at "m.cell"); exact Facts.aN (by assumption) rfl; rfl; exact trivial) | ((with_reducible refine' TE_attr ?_ ?_); exact fun _ => rfl) | fail "obj")))
local macro_rules | `(tactic| walk_at "m.run") => `(tactic| repeat' (first | ((fail_if_success (fail_if_success (with_reducible show TX _ _ _ _ _ _ _ _))); first | ((with_reducible refine' TS_ifE ?_ ?_ ?_); rotate_left 2; (walk_at "m.hk"); rfl) | (with_reducible first | refine' TS_nil ?_ | refine' TS_one ?_ | refine' TS_cons ?_) | ((with_reducible refine' T1_ifE ?_ ?_ ?_); rotate_left 2; (walk_at "m.hk"); rfl) | (with_reducible refine' T1_if ?_) | ((with_reducible refine' T1_retE ?_ ?_ ?_); rotate_left 2; (walk_at "m.hk"); rfl) | (with_reducible refine' T1_ret ?_) | ((with_reducible refine' T1_ret_none ?_ ?_); (intro; rfl)) | ((with_reducible refine' T1_appE ?_ ?_ ?_ ?_ ?_ ?_ ?_ ?_ ?_); rotate_left 5; assumption; (walk_at "m.hk"); (intro; rfl); rfl; rfl; rfl; (walk_at "m.cell"); (walk_at "m.le")) | ((with_reducible refine' T1_gC ?_ ?_ ?_ ?_ ?_); rotate_left 3; (walk_at "m.hk"); rfl; rfl; rfl) | ((with_reducible refine' T1_mC ?_ ?_ ?_ ?_ ?_ ?_); rotate_left 5; (walk_at "m.hk"); (intro; rfl); rfl; rfl; rfl) | ((with_reducible refine' T1_expr ?_ ?_ ?_); (intro; rfl); rfl) | ((with_reducible refine' T1_assignE ?_ ?_ ?_ ?_); rotate_left 2; (walk_at "m.hk"); rfl; rfl) | ((with_reducible refine' T1_assign ?_ ?_ ?_); (intro; rfl); rfl) | ((with_reducible refine' T1_unpack2 ?_ ?_ ?_ ?_ ?_); (intro; rfl); (intro; rfl); rfl; rfl) | ((with_reducible refine' T1_setattrE ?_ ?_ ?_ ?_); rotate_left 3; (walk_at "m.hk"); rfl; rfl) | ((with_reducible refine' T1_setattr ?_ ?_); (intro; rfl)) | ((with_reducible refine' T1_setitemE ?_ ?_ ?_ ?_ ?_ ?_); rotate_left 4; assumption; (walk_at "m.hk"); rfl; rfl; rfl) | ((with_reducible refine' T1_setitem ?_ ?_ ?_); assumption; (intro; rfl)) | fail "s") | ((fail_if_success (fail_if_success (with_reducible show TE _ _ _ _ _ _ _ _))); first | ((fail_if_success (fail_if_success (with_reducible show TE _ _ _ _ _ _ (.Name _ _) _))); first | (walk_at "m.name") | fail "e") | ((fail_if_success (fail_if_success (with_reducible show TE _ _ _ _ _ _ (.Constant _ _ _) _))); first | (with_reducible first | refine' TE_str ?_ | refine' TE_int ?_ | refine' TE_none ?_ | refine' TE_bool ?_) | fail "e") | ((fail_if_success (fail_if_success (with_reducible show TE _ _ _ _ _ _ (.Attribute _ _ _) _))); first | ((with_reducible refine' TE_ev ?_ ?_ ?_); rotate_left 2; (walk_at "m.hk"); rfl) | ((with_reducible refine' TE_attr ?_ ?_); (intro; rfl)) | fail "e") | ((fail_if_success (fail_if_success (with_reducible show TE _ _ _ _ _ _ (.Call _ _ _ _) _))); first | ((with_reducible refine' TE_gC ?_ ?_ ?_ ?_); rotate_left 3; (walk_at "m.hk"); rfl; rfl) | ((with_reducible refine' TE_mC ?_ ?_ ?_ ?_ ?_); rotate_left 5; (walk_at "m.hk"); (intro; rfl); rfl; rfl) | ((with_reducible refine' TE_gR ?_ ?_ ?_ ?_); rotate_left 2; (walk_at "m.hk"); rfl; (intro; rfl)) | ((with_reducible refine' TE_mR ?_ ?_ ?_ ?_ ?_); rotate_left 4; (walk_at "m.hk"); (intro; rfl); (intro; rfl); rfl) | ((with_reducible refine' TE_lenE ?_ ?_ ?_ ?_ ?_ ?_ ?_); rotate_left 3; (walk_at "m.hk"); rfl; rfl; rfl; (walk_at "m.cell"); (walk_at "m.le")) | ((with_reducible refine' TE_meth ?_ ?_ ?_); rotate_left; exact fun _ => rfl; exact fun _ => rfl; (walk_at "m.obj"); (refine' ⟨_, _, _, _, rfl, ?hc, ?hg, ?hm, ?_⟩); (case hc => (walk_at "m.cell")); (case hg => exact rfl); (case hm => (refine' Facts.mN (by assumption) ?z); (case z => exact rfl))) | ((with_reducible refine' TE_bmeth (name := Str.ofString "append") ?he ?ha PySem.F.slot_list_append PySem.F.plainAttrs_list PySem.F.type_list_append ?_); (case he => exact fun _ => rfl); (case ha => exact fun _ => rfl)) | ((with_reducible refine' TE_bmeth (name := Str.ofString "pop") ?he ?ha PySem.F.slot_list_pop PySem.F.plainAttrs_list PySem.F.type_list_pop ?_); (case he => exact fun _ => rfl); (case ha => exact fun _ => rfl)) | ((with_reducible refine' TE_bmeth (name := Str.ofString "insert") ?he ?ha PySem.F.slot_list_insert PySem.F.plainAttrs_list PySem.F.type_list_insert ?_); (case he => exact fun _ => rfl); (case ha => exact fun _ => rfl)) | ((with_reducible refine' TE_bmeth (name := Str.ofString "get") ?he ?ha PySem.F.slot_dict_get PySem.F.plainAttrs_dict PySem.F.type_dict_get ?_); (case he => exact fun _ => rfl); (case ha => exact fun _ => rfl)) | ((with_reducible refine' TE_bmeth (name := Str.ofString "split") ?he ?ha PySem.F.slot_str_split PySem.F.plainAttrs_str PySem.F.type_str_split ?_); (case he => exact fun _ => rfl); (case ha => exact fun _ => rfl)) | ((with_reducible refine' TE_bcall ?_ ?_ ?_); exact fun _ => rfl; exact fun _ => rfl; (walk_at "m.name"); refine ⟨_, rfl, ?_⟩) | ((with_reducible refine' TE_tcall ?_ ?_ ?_ ?_); exact fun _ => rfl; exact fun _ => rfl; exact fun _ => rfl; (walk_at "m.name"); refine ⟨_, rfl, ?_⟩) | ((with_reducible refine' TE_call ?_ ?_ ?_); exact fun _ => rfl; exact fun _ => rfl; (walk_at "m.name"); (refine' ⟨_, rfl, ?k, ?_⟩); (case k => first | exact Facts.kp (by assumption) rfl | assumption)) | fail "e") | ((fail_if_success (fail_if_success (with_reducible show TE _ _ _ _ _ _ (.Subscript _ _ _) _))); first | ((with_reducible refine' TE_kind ?_ ?_ ?_); rotate_left 2; (walk_at "m.hk"); rfl) | ((with_reducible refine' TE_ev ?_ ?_ ?_); rotate_left 2; (walk_at "m.hk"); rfl) | ((with_reducible refine' TE_subE ?_ ?_ ?_ ?_); rotate_left 3; (walk_at "m.hk"); rfl; rfl) | ((with_reducible refine' TE_two3 ?_ ?_); exact fun _ _ => rfl) | ((fail_if_success (with_reducible show TE _ _ _ _ _ _ (.Subscript _ (.Slice _ _ _ _) _) _)); (with_reducible refine' TE_sub ?_)) | fail "e") | ((with_reducible refine' TE_cmpE ?_ ?_ ?_ ?_ ?_); rotate_left 3; (walk_at "m.hk"); rfl; rfl; rfl) | ((with_reducible refine' TE_cmp ?_ ?_); rfl) | ((with_reducible refine' TE_binE ?_ ?_ ?_ ?_); rotate_left 3; (walk_at "m.hk"); rfl; rfl) | ((with_reducible refine' TE_ev ?_ ?_ ?_); rotate_left 2; (walk_at "m.hk"); rfl) | (with_reducible first | refine' TE_bin ?_ | refine' TE_un ?_ | refine' TE_and ?_ | refine' TE_or ?_ | refine' TE_one ?_ | refine' TE_if ?_) | ((with_reducible refine' TE_tuple ?_ ?_ ?_); (intro; rfl); decide) | fail "e") | ((fail_if_success (fail_if_success (with_reducible show TB _ _ _ _ _ _ _ _))); first | ((with_reducible refine' TB_kind ?_ ?_ ?_); rotate_left 2; (walk_at "m.hk"); rfl) | ((with_reducible refine' TB_ev ?_ ?_ ?_); rotate_left 2; (walk_at "m.hk"); rfl) | ((with_reducible refine' TB_gC ?_ ?_ ?_ ?_); rotate_left 3; (walk_at "m.hk"); rfl; rfl) | ((with_reducible refine' TB_pair ?_ ?_ ?_ ?_ ?_ ?_ ?_ ?_); rotate_left 4; (walk_at "m.hk"); rfl; (intros; rfl); decide +kernel; (first | assumption | decide +kernel); decide +kernel; decide +kernel) | (with_reducible first | refine' TB_c ?_ | refine' TB_not ?_ | refine' TB_and ?_ | refine' TB_and_nil ?_ | refine' TB_or ?_ | refine' TB_or_nil ?_) | ((with_reducible refine' TB_cmp ?_ ?_); rfl) | ((with_reducible refine' TB_plain ?_ ?_); (intros; rfl)) | fail "b") | ((fail_if_success (fail_if_success (with_reducible show TG _ _ _ _ _ _ _ _ _))); first | ((with_reducible refine' TEs_ev ?_ ?_ ?_); rotate_left 2; (walk_at "m.hk"); rfl) | (with_reducible first | refine' TEs_cons ?_ | refine' TEs_nil ?_ | refine' TEd_cons ?_ | refine' TEd_nil ?_) | fail "es") | ((fail_if_success (fail_if_success (with_reducible show OP2 _ _ _ _ _ _ (compareOp _) _ _ _))); first | (with_reducible first | refine' OP_eq_str ?_ | refine' OP_eq_int ?_ | refine' OP_ne_str ?_ | refine' OP_ne_int ?_ | refine' OP_lt_int ?_ | refine' OP_le_int ?_ | refine' OP_gt_int ?_) | ((with_reducible refine' OP_in_empty ?_ ?_); (walk_at "m.cell")) | ((with_reducible refine' OP_notin_dict ?_ ?_); rotate_left; (walk_at "m.cell")) | ((with_reducible refine' OP_in_strs' ?_ ?_); rotate_left; rfl) | ((with_reducible refine' OP_eq_pair ?_ ?_ ?_ ?_ ?_); decide +kernel; (first | assumption | decide +kernel); decide +kernel; decide +kernel) | ((with_reducible refine' OP_notin_strs ?_ ?_); rotate_left; rfl) | fail "o2") | ((fail_if_success (fail_if_success (with_reducible show OP2 _ _ _ _ _ _ (subscriptTail _ _) _ _ _))); first | ((with_reducible refine' I_map ?_ ?_ ?_ ?_ ?_); rotate_left 3; (walk_at "m.cell"); assumption; (walk_at "m.le"); (intros; rfl)) | ((with_reducible refine' I_range ?_ ?_ ?_ ?_ ?_); rotate_left 2; (walk_at "m.cell"); (first | assumption | omega); (walk_at "m.le"); (intros; rfl)) | ((with_reducible refine' OP_item_tup ?_ ?_ ?_ ?_ ?_ ?_); rotate_left 2; decide; decide; rfl; rfl; (intros; rfl)) | ((with_reducible refine' OP_item_dict2 ?_ ?_ ?_ ?_); rotate_left 2; (walk_at "m.cell"); rfl; (intros; rfl)) | ((with_reducible refine' OP_kind ?_ ?_); (intros; rfl)) | ((with_reducible refine' OP_item_last ?_ ?_ ?_ ?_ ?_); rotate_left 2; (walk_at "m.cell"); (walk_at "m.le"); assumption; (intros; rfl)) | ((with_reducible refine' OP_item_list ?_ ?_ ?_ ?_ ?_ ?_); rotate_left 2; (walk_at "m.cell"); decide; decide; rfl; (intros; rfl)) | fail "o2") | ((fail_if_success (fail_if_success (with_reducible show OP2 _ _ _ _ _ _ _ _ _ _))); first | ((with_reducible refine' OP_setattr ?_ ?_ ?_ ?_ ?_); assumption; rotate_left 2; (walk_at "m.cell"); exact Facts.sN (by assumption) rfl; (walk_at "m.le")) | (with_reducible first | refine' OP_add ?_ | refine' OP_sub ?_) | fail "o2") | ((fail_if_success (fail_if_success (with_reducible show OP1 _ _ _ _ _ _ _ _ _))); first | ((with_reducible refine' OP_attr ?_ ?_ ?_ ?_ ?_); rotate_left 3; (walk_at "m.cell"); exact Facts.aN (by assumption) rfl; rfl; exact trivial) | (with_reducible first | refine' OP_truth_bool ?_ | refine' OP_neg ?_) | fail "o1") | ((fail_if_success (fail_if_success (with_reducible show OPs _ _ _ _ _ _ _ _ _))); first | ((with_reducible refine' B_len_list ?_ ?_ ?_); rotate_left; (walk_at "m.cell"); (walk_at "m.le")) | ((with_reducible refine' B_append ?_ ?_ ?_ ?_); assumption; rotate_left; (walk_at "m.cell"); (walk_at "m.le")) | ((with_reducible refine' B_len_tup ?_ ?_); (walk_at "m.le")) | ((with_reducible refine' B_get3 ?_ ?_ ?_); rotate_left 2; (walk_at "m.cell"); (first | assumption | exact rfl)) | ((with_reducible refine' B_get4 ?_ ?_ ?_); rotate_left; (walk_at "m.cell"); (first | assumption | exact rfl)) | fail "p") | ((with_reducible show thenS _ _ _ _ _ _ FV.next _ _); show TS _ _ _ _ _ _ _ _) | (with_reducible first | refine' thenS_ret ?_ | refine' backS_ret ?_ | refine' backS_next ?_ | refine' loopS_next ?_) | ((with_reducible show Exists _); first | refine ⟨_, _, _, rfl, rfl, ?_⟩ | refine ⟨_, _, rfl, ?_⟩ | refine ⟨_, rfl, ?_⟩) | ((with_reducible show V.isTy _ _ _ ∧ _); first | ((refine' And.intro (Or.inl ⟨_, ?a, rfl⟩) ?_); (case a => (walk_at "m.cell"))) | (refine' And.intro rfl ?_) | ((refine' And.intro (Or.inr ⟨_, ?a, rfl⟩) ?_); (case a => (walk_at "m.cell")))) | ((with_reducible show _ ∧ _); (refine' And.intro ?a ?_); (case a => first | exact Nat.le_of_ble_eq_true rfl | exact rfl)) | ((with_reducible refine' ite_pos ?_ ?_); (walk_at "m.tt")) | ((with_reducible refine' ite_neg ?_ ?_); (walk_at "m.ff")) | fail "stop"))
noncomputable def lastI (l : List Nat) : Int := match l.getLast? with | some i => i | none => -1
theorem lastI_nil : lastI [] = -1 := rfl
theorem lastI_snoc (l : List Nat) (n : Nat) : lastI (l ++ [n]) = n := by unfold lastI; rw [List.getLast?_concat]
theorem BH.put1 {H : MH} {σ σ' : St} {l : Loc} {c : Cell} (hB : BH H σ) (h1 : bh σ' l = some c) (h2 : ∀ l', l' ≠ l → l'.isB = true → bh σ' l' = bh σ l') : BH (H.put l c) σ' := fun l' hl' => by
  by_cases e : l' = l
  · subst e; rw [put_same, h1]
  · rw [h2 l' e hl']; exact put_other e (hB l' hl')
theorem BH.stack {H : MH} {σ : St} (hB : BH H σ) (st : List Nat) : BH (H.put .items (.list (st.map vi))) { σ with stack := st } :=
  hB.put1 rfl fun l' hn hl => by cases l' <;> first | rfl | exact absurd rfl hn | (cases hl; done)
theorem BH.errs {H : MH} {σ : St} (hB : BH H σ) (es : List V) : BH (H.put .errors (.list es)) { σ with errs := es } :=
  hB.put1 rfl fun l' hn hl => by cases l' <;> first | rfl | exact absurd rfl hn | (cases hl; done)
theorem BH.bld {H : MH} {σ σ' : St} (hB : BH H σ) (e1 : σ'.nodes = σ.nodes) (e2 : σ'.stack = σ.stack) (e3 : σ'.errs = σ.errs) : BH (H.put .builder (.inst 489 (bflds σ'))) σ' :=
  hB.put1 rfl fun l' hn hl => by
    obtain ⟨n1, s1, _, r1, _, _, _, _⟩ := σ
    obtain ⟨n2, s2, _, r2, _, _, _, _⟩ := σ'
    have e1 : n2 = n1 := e1
    have e2 : s2 = s1 := e2
    have e3 : r2 = r1 := e3
    subst e1 e2 e3
    cases l' <;> first | rfl | exact absurd rfl hn | (cases hl; done)
section
variable {M : Amb} {d : Nat} {cl : List (Str × Loc)} {ml : List (Str × V)} {H : MH}
theorem w_many (F : Facts M.K) {σ : St} (hB : BH H σ) (hz : σ.stack.length ≤ 1000) {Q : V → MH → Prop} (h : Q (.int σ.stack.length) H) : CALL M (d + 1) cl ml H 235 [.cell .stack] Q := by
  refine CALL_go (at_OpenStack_many F) b_OpenStack_many rfl rfl rfl ?_
  walk_at "m.run"
  rw [List.length_map]
  exact h
theorem w_current (F : Facts M.K) {σ : St} (hB : BH H σ) (hz : σ.stack.length ≤ 1000) {Q : V → MH → Prop} (h : Q (.int (lastI σ.stack)) H) : CALL M (d + 1) cl ml H 228 [.cell .stack] Q := by
  refine CALL_go (at_OpenStack_current F) b_OpenStack_current rfl rfl rfl ?_
  rcases List.eq_nil_or_concat σ.stack with e | ⟨l, n, e⟩
  · walk_at "m.run"
    refine ite_pos (by rw [e]; rfl) ?_
    walk_at "m.run"
    rw [e, lastI_nil] at h
    exact h
  · have e : σ.stack = l ++ [n] := e.trans (List.concat_eq_append ..)
    walk_at "m.run"
    refine ite_neg (by rw [e]; simp <;> omega) ?_
    walk_at "m.run"
    rw [e, lastI_snoc] at h
    rw [e] at hz
    simp only [List.length_append, List.length_singleton] at hz
    refine OP_item_list (x := vi n) (by walk_at "m.cell") (by rw [e]; simp <;> omega) (by rw [e]; simp <;> omega) ?_ (fun _ _ => rfl) ?_
    · rw [e]; simp
    · exact h
theorem w_push (hpu : M.pu = false) (F : Facts M.K) {σ : St} (hB : BH H σ) (hz : σ.stack.length ≤ 900) {n : Nat} {Q : V → MH → Prop} (h : ∀ H', BH H' { σ with stack := σ.stack ++ [n] } → Keep Loc.isB H H' → Q .none H') : CALL M (d + 1) cl ml H 214 [.cell .stack, vi n] Q := by
  refine CALL_go (at_OpenStack_push F) b_OpenStack_push rfl rfl rfl ?_
  walk_at "m.run"
  refine h _ ?_ (Keep.put rfl)
  have := hB.stack (σ.stack ++ [n])
  rw [List.map_append] at this
  exact this
theorem w_pop (hpu : M.pu = false) (F : Facts M.K) {σ : St} (hB : BH H σ) (hz : σ.stack.length ≤ 900) {l : List Nat} {n : Nat} (e : σ.stack = l ++ [n]) {Q : V → MH → Prop} (h : ∀ H', BH H' { σ with stack := l } → Keep Loc.isB H H' → Q (vi n) H') : CALL M (d + 1) cl ml H 221 [.cell .stack] Q := by
  refine CALL_go (at_OpenStack_pop F) b_OpenStack_pop rfl rfl rfl ?_
  walk_at "m.run"
  refine ite_neg (by rw [e]; simp <;> omega) ?_
  walk_at "m.run"
  refine B_pop (xs := l.map vi) (x := vi n) hpu ?_ ?_ ?_
  · have := hB .items rfl
    rw [this]; show some (Cell.list (σ.stack.map vi)) = _; rw [e, List.map_append]; rfl
  · rw [e] at hz; simp at hz; rw [List.length_map]; omega
  · exact h _ (hB.stack l) (Keep.put rfl)
theorem w_error (hpu : M.pu = false) (F : Facts M.K) {σ : St} (hB : BH H σ) (hz : σ.errs.length ≤ 900) {w : Str} {Q : V → MH → Prop} (h : ∀ H', BH H' { σ with errs := σ.errs ++ [.tup [.str w, .str σ.mode]] } → Keep Loc.isB H H' → Q .none H') : CALL M (d + 1) cl ml H 444 [.cell .builder, .str w] Q := by
  refine CALL_go (at_Builder_error F) b_Builder_error rfl rfl rfl ?_
  walk_at "m.run"
  exact h _ (hB.errs _) (Keep.put rfl)
theorem w_to (hpu : M.pu = false) (F : Facts M.K) {σ : St} (hB : BH H σ) {w : Str} {Q : V → MH → Prop} (h : ∀ H', BH H' { σ with mode := w } → Keep Loc.isB H H' → Q .none H') : CALL M (d + 1) cl ml H 451 [.cell .builder, .str w] Q := by
  refine CALL_go (at_Builder_to F) b_Builder_to rfl rfl rfl ?_
  walk_at "m.run"
  exact h _ (hB.bld (σ' := { σ with mode := w }) rfl rfl rfl) (Keep.put rfl)
end
noncomputable def addN (σ : St) (nd : Nd) : St := { σ with nodes := σ.nodes ++ [nd] }
section
variable {M : Amb} {d : Nat} {cl : List (Str × Loc)} {ml : List (Str × V)} {H : MH}
theorem w_add_body (hpu : M.pu = false) (F : Facts M.K) {σ : St} (hB : BH H σ) (hz : σ.nodes.length ≤ 900) {kind space name text : Str} {attrs : List V} (ha : attrs.length ≤ 900) {Q : V → MH → Prop}
    (h : ∀ H', BH H' (addN σ ⟨kind, space, name, attrs, text, -1, []⟩) → Keep Loc.isB H H' → Q (vi σ.nodes.length) H') :
    TS M d (sco (mS 19 1)) cl [("text", .str text), ("attrs", .tup attrs), ("name", .str name), ("space", .str space), ("kind", .str kind), ("self", .cell .tree)] H (bd (mS 19 1)) (backS Q) := by
  refine TS_go rfl rfl ?_
  walk_at "m.run"
  refine B_list_copy (l := .att σ.nodes.length) (free_of (by walk_at "m.cell2") (fun _ => nofun)) (by omega) ?_
  walk_at "m.run"
  refine TE_list (l := .kid σ.nodes.length) (fun _ => rfl) ?_
  walk_at "m.run"
  refine ⟨free_of (by walk_at "m.cell2") (fun _ => nofun), ?_⟩
  walk_at "m.run"
  have hn : (↑(List.map (fun n : Nd => V.str n.kind) σ.nodes ++ [V.str kind]).length - 1 : Int) = (σ.nodes.length : Int) := by simp
  rw [hn]
  refine h _ (fun l hl => ?_) (by walk_at "m.keep")
  cases l
  case kid i =>
    by_cases e : i = σ.nodes.length
    · subst e
      refine' Eq.trans (b := some _) ?h1 ?h2
      case h1 => walk_at "m.cell"
      case h2 => (show _ = Option.map _ ((σ.nodes ++ [_])[σ.nodes.length]?)); simp
    · have e' : Loc.kid i ≠ Loc.kid σ.nodes.length := fun z => e (Loc.kid.inj z)
      refine Eq.trans (b := bh σ (.kid i)) ?h1 ?h2
      case h1 => (repeat' (first | exact hB _ rfl | (refine' put_other ?_ ?_) | (refine' add_other ?_ ?_) | exact e' | exact Loc.ne_tag rfl | (intro e; cases e; done)))
      case h2 =>
        show Option.map _ _ = Option.map _ _
        rw [show (addN σ _).nodes = σ.nodes ++ [_] from rfl]
        by_cases q : i < σ.nodes.length
        · rw [List.getElem?_append_left q]
        · rw [List.getElem?_eq_none (by omega), List.getElem?_eq_none (by simp; omega)]
  case att i =>
    by_cases e : i = σ.nodes.length
    · subst e
      refine' Eq.trans (b := some _) ?h1 ?h2
      case h1 => walk_at "m.cell"
      case h2 => (show _ = Option.map _ ((σ.nodes ++ [_])[σ.nodes.length]?)); simp
    · have e' : Loc.att i ≠ Loc.att σ.nodes.length := fun z => e (Loc.att.inj z)
      refine Eq.trans (b := bh σ (.att i)) ?h1 ?h2
      case h1 => (repeat' (first | exact hB _ rfl | (refine' put_other ?_ ?_) | (refine' add_other ?_ ?_) | exact e' | exact Loc.ne_tag rfl | (intro e; cases e; done)))
      case h2 =>
        show Option.map _ _ = Option.map _ _
        rw [show (addN σ _).nodes = σ.nodes ++ [_] from rfl]
        by_cases q : i < σ.nodes.length
        · rw [List.getElem?_append_left q]
        · rw [List.getElem?_eq_none (by omega), List.getElem?_eq_none (by simp; omega)]
  all_goals first | (cases hl; done) | ((refine' Eq.trans (b := some _) ?h1 ?h2); (case h1 => walk_at "m.cell"); (case h2 => first | exact rfl | ((show some (Cell.list _) = some (Cell.list _)); (simp [addN, List.range_succ]; done))))
end
theorem BH.kid {H : MH} {σ : St} (hB : BH H σ) {p : Nat} {x : Nd} (hp : σ.nodes[p]? = some x) : H.c (.kid p) = some (.list (x.kids.map vi)) := (hB _ rfl).trans (by show Option.map _ _ = _; rw [hp]; rfl)
theorem BH.att {H : MH} {σ : St} (hB : BH H σ) {p : Nat} {x : Nd} (hp : σ.nodes[p]? = some x) : H.c (.att p) = some (.list x.attrs) := (hB _ rfl).trans (by show Option.map _ _ = _; rw [hp]; rfl)
theorem lt_of_get {ns : List Nd} {p : Nat} {x : Nd} (hp : ns[p]? = some x) : p < ns.length := by
  rcases Nat.lt_or_ge p ns.length with q | q
  · exact q
  · rw [List.getElem?_eq_none q] at hp; cases hp
noncomputable def insN (σ : St) (nd : Nd) (p : Nat) : St := { σ with nodes := (σ.nodes.modify p fun x => { x with kids := x.kids ++ [σ.nodes.length] }) ++ [{ nd with par := p }] }
section
variable {M : Amb} {d : Nat} {cl : List (Str × Loc)} {ml : List (Str × V)} {H : MH}
theorem w_add5 (hpu : M.pu = false) (F : Facts M.K) {σ : St} (hB : BH H σ) (hz : σ.nodes.length ≤ 900) {kind space name : Str} {attrs : List V} (ha : attrs.length ≤ 900) {Q : V → MH → Prop}
    (h : ∀ H', BH H' (addN σ ⟨kind, space, name, attrs, "", -1, []⟩) → Keep Loc.isB H H' → Q (vi σ.nodes.length) H') : CALL M (d + 1) cl ml H 321 [.cell .tree, .str kind, .str space, .str name, .tup attrs] Q :=
  CALL_fn (at_Tree_add F) (b_Tree_add5 F) rfl (w_add_body hpu F hB hz ha h)
theorem w_add6 (hpu : M.pu = false) (F : Facts M.K) {σ : St} (hB : BH H σ) (hz : σ.nodes.length ≤ 900) {kind space name text : Str} {attrs : List V} (ha : attrs.length ≤ 900) {Q : V → MH → Prop}
    (h : ∀ H', BH H' (addN σ ⟨kind, space, name, attrs, text, -1, []⟩) → Keep Loc.isB H H' → Q (vi σ.nodes.length) H') : CALL M (d + 1) cl ml H 321 [.cell .tree, .str kind, .str space, .str name, .tup attrs, .str text] Q :=
  CALL_fn (at_Tree_add F) (b_Tree_add6 F) rfl (w_add_body hpu F hB hz ha h)
theorem w_element4 (hpu : M.pu = false) (F : Facts M.K) {σ : St} (hB : BH H σ) (hz : σ.nodes.length ≤ 900) {name : Str} (hn : name ≠ "template") {attrs : List V} (ha : attrs.length ≤ 900) {Q : V → MH → Prop}
    (h : ∀ H', BH H' (addN σ ⟨"element", "html", name, attrs, "", -1, []⟩) → Keep Loc.isB H H' → Q (vi σ.nodes.length) H') : CALL M (d + 2) cl ml H 330 [.cell .tree, .str name, .str "html", .tup attrs] Q := by
  refine CALL_go (at_Tree_element F) (b_Tree_element4 F) rfl rfl rfl ?_
  walk_at "m.run"
  refine w_add5 hpu F hB hz ha fun H' hB' k' => ?_
  walk_at "m.run"
  exact h H' hB' k'
theorem w_element2 (hpu : M.pu = false) (F : Facts M.K) {σ : St} (hB : BH H σ) (hz : σ.nodes.length ≤ 900) {name : Str} (hn : name ≠ "template") {Q : V → MH → Prop}
    (h : ∀ H', BH H' (addN σ ⟨"element", "html", name, [], "", -1, []⟩) → Keep Loc.isB H H' → Q (vi σ.nodes.length) H') : CALL M (d + 2) cl ml H 330 [.cell .tree, .str name] Q := by
  refine CALL_go (at_Tree_element F) (b_Tree_element2 F) rfl rfl rfl ?_
  walk_at "m.run"
  refine w_add5 hpu F hB hz (Nat.zero_le _) fun H' hB' k' => ?_
  walk_at "m.run"
  exact h H' hB' k'
theorem w_text (hpu : M.pu = false) (F : Facts M.K) {σ : St} (hB : BH H σ) (hz : σ.nodes.length ≤ 900) {text : Str} {Q : V → MH → Prop}
    (h : ∀ H', BH H' (addN σ ⟨"text", "", "", [], text, -1, []⟩) → Keep Loc.isB H H' → Q (vi σ.nodes.length) H') : CALL M (d + 2) cl ml H 337 [.cell .tree, .str text] Q := by
  refine CALL_go (at_Tree_text F) b_Tree_text rfl rfl rfl ?_
  walk_at "m.run"
  refine w_add6 hpu F hB hz (Nat.zero_le _) fun H' hB' k' => ?_
  walk_at "m.run"
  exact h H' hB' k'
theorem w_comment (hpu : M.pu = false) (F : Facts M.K) {σ : St} (hB : BH H σ) (hz : σ.nodes.length ≤ 900) {text : Str} {Q : V → MH → Prop}
    (h : ∀ H', BH H' (addN σ ⟨"comment", "", "", [], text, -1, []⟩) → Keep Loc.isB H H' → Q (vi σ.nodes.length) H') : CALL M (d + 2) cl ml H 344 [.cell .tree, .str text] Q := by
  refine CALL_go (at_Tree_comment F) b_Tree_comment rfl rfl rfl ?_
  walk_at "m.run"
  refine w_add6 hpu F hB hz (Nat.zero_le _) fun H' hB' k' => ?_
  walk_at "m.run"
  exact h H' hB' k'
theorem w_last (F : Facts M.K) {σ : St} (hB : BH H σ) (hz : σ.nodes.length ≤ 900) {p : Nat} {x : Nd} (hp : σ.nodes[p]? = some x) (hx : x.kids.length ≤ 900) {Q : V → MH → Prop}
    (h : Q (.int (lastI x.kids)) H) : CALL M (d + 1) cl ml H 394 [.cell .tree, vi p] Q := by
  refine CALL_go (at_Tree_last F) b_Tree_last rfl rfl rfl ?_
  have hk := hB.kid hp
  have hpl := lt_of_get hp
  walk_at "m.run"
  refine OP_truth_list hk (by walk_at "m.le") ?_
  rcases List.eq_nil_or_concat x.kids with e | ⟨l, n, e⟩
  · refine ite_pos (by rw [e]; rfl) ?_
    walk_at "m.run"
    rw [e, lastI_nil] at h
    exact h
  · have e : x.kids = l ++ [n] := e.trans (List.concat_eq_append ..)
    refine ite_neg (by rw [e]; simp) ?_
    walk_at "m.run"
    refine OP_item_last (x := vi n) hk (by walk_at "m.le") (by rw [e]; simp) (fun _ _ => rfl) ?_
    walk_at "m.run"
    rw [e, lastI_snoc] at h
    exact h
end
theorem BH.ptmp {H : MH} {σ : St} (hB : BH H σ) {k : Nat} {x : Cell} : BH (H.put (.tmp k) x) σ := fun l hl => (put_other (fun e => by subst e; cases hl) rfl).trans (hB l hl)
theorem BH.atmp {H : MH} {σ : St} (hB : BH H σ) {k : Nat} {x : Cell} : BH (H.add (.tmp k) x) σ := fun l hl => (add_other (fun e => by subst e; cases hl) rfl).trans (hB l hl)
noncomputable def ParOK (ns : List Nd) : Prop := ∀ (i : Nat) (x : Nd), ns[i]? = some x → -1 ≤ x.par ∧ x.par < i
section
variable {M : Amb} {d : Nat} {cl : List (Str × Loc)} {ml : List (Str × V)} {H : MH}
theorem w_above (hpu : M.pu = false) (F : Facts M.K) {σ : St} (hB : BH H σ) (hz : σ.nodes.length ≤ 900) (hw : ParOK σ.nodes) {p : Nat} {x : Nd} (hp : σ.nodes[p]? = some x) {Q : V → MH → Prop}
    (h : ∀ (H' : MH) (ys : List Int) (k : Nat), BH H' σ → Keep Loc.isB H H' → H'.c (.tmp k) = some (.list (ys.map .int)) → (∀ y ∈ ys, y < (p : Int)) → Q (.cell (.tmp k)) H') : CALL M (d + 1) cl ml H 422 [.cell .tree, vi p] Q := by
  refine CALL_go (at_above F) b_above rfl rfl rfl ?_
  walk_at "m.run"
  refine TE_list (l := .tmp H.nx) (fun _ => rfl) ?_
  walk_at "m.run"
  refine ⟨by walk_at "m.free", ?_⟩
  have hB1 : BH (H.add (.tmp H.nx) (.list [])) σ := hB.atmp
  walk_at "m.run"
  refine T1_while' (α := Int × List Int) (fun a H' => BH H' σ ∧ Keep Loc.isB H H' ∧ H'.c (.tmp H.nx) = some (.list (a.2.map .int)) ∧ -1 ≤ a.1 ∧ a.1 < p ∧ (∀ y ∈ a.2, y < (p : Int)) ∧ (a.2.length : Int) + a.1 ≤ p)
    (fun a => [("up", .int a.1), ("out", .cell (.tmp H.nx)), ("node", vi p), ("tree", .cell .tree)]) (fun a => (a.1 + 1).toNat) (x.par, [])
    ⟨hB1, by walk_at "m.keep", add_same, (hw p x hp).1, (hw p x hp).2, by simp, by have := (hw p x hp).2; simp; omega⟩ ⟨rfl, rfl, rfl, rfl, trivial⟩ (fun _ _ _ s h => TX.sub s h) ?_
  rintro ⟨u, ys⟩ H' ⟨hB', k', hy, h1, h2, h3, h4⟩
  simp only at hy h1 h2 h3 h4
  have hpl := lt_of_get hp
  walk_at "m.run"
  by_cases e : u = -1
  · subst e
    refine ite_neg (by simp) ?_
    walk_at "m.run"
    exact h H' ys _ hB' k' hy h3
  · obtain ⟨q, rfl⟩ : ∃ q : Nat, u = q := ⟨u.toNat, by omega⟩
    refine ite_pos (by simp) ?_
    obtain ⟨z, hq⟩ : ∃ z, σ.nodes[q]? = some z := ⟨_, List.getElem?_eq_getElem (by omega)⟩
    have hyl : (ys.map V.int).length ≤ 1000 := by rw [List.length_map]; omega
    walk_at "m.run"
    have := hw q z hq
    refine ⟨(z.par, ys ++ [(q : Int)]), ?_, ⟨hB'.ptmp, k'.ptmp (Nat.le_refl _), ?_, this.1, ?_, ?_, ?_⟩, ⟨rfl, rfl, rfl, rfl, trivial⟩⟩
    · show (z.par + 1).toNat < ((q : Int) + 1).toNat; omega
    · rw [put_same, List.map_append]; rfl
    · show z.par < p; omega
    · intro y hy
      rcases List.mem_append.mp hy with hy | hy
      · exact h3 y hy
      · rw [List.mem_singleton.mp hy]; omega
    · simp only [List.length_append, List.length_singleton]; omega
theorem w_remove (F : Facts M.K) {σ : St} (hB : BH H σ) (hz : σ.nodes.length ≤ 900) {p : Nat} {x : Nd} (hp : σ.nodes[p]? = some x) (hx : x.par = -1) {Q : V → MH → Prop} (h : Q .none H) : CALL M (d + 1) cl ml H 373 [.cell .tree, vi p] Q := by
  refine CALL_go (at_Tree_remove F) b_Tree_remove rfl rfl rfl ?_
  have hpl := lt_of_get hp
  walk_at "m.run"
  refine ite_neg (by rw [hx]; decide) ?_
  walk_at "m.run"
  exact h
theorem map_modify_same {α β : Type} {f : α → β} {g : α → α} (h : ∀ y, f (g y) = f y) (p : Nat) (l : List α) : (l.modify p g).map f = l.map f := by
  refine List.ext_getElem? fun i => ?_
  rw [List.getElem?_map, List.getElem?_map, List.getElem?_modify]
  split
  · cases l[i]? with
    | none => rfl
    | some y => simp [h]
  · simp
theorem insN_get {σ : St} {nd : Nd} {p i : Nat} : (insN σ nd p).nodes[i]? = if i < σ.nodes.length then (if p = i then σ.nodes[i]?.map fun x => { x with kids := x.kids ++ [σ.nodes.length] } else σ.nodes[i]?) else if i = σ.nodes.length then some { nd with par := p } else none := by
  show (σ.nodes.modify p _ ++ [_])[i]? = _
  rw [List.getElem?_append, List.length_modify]
  split
  · rw [List.getElem?_modify]
    split
    · rfl
    · cases σ.nodes[i]? <;> rfl
  · split
    · rename_i e; subst e; simp
    · rename_i h1 h2; rw [List.getElem?_eq_none]; simp; omega
theorem addN_get {σ : St} {nd : Nd} {i : Nat} : (addN σ nd).nodes[i]? = if i < σ.nodes.length then σ.nodes[i]? else if i = σ.nodes.length then some nd else none := by
  show (σ.nodes ++ [_])[i]? = _
  rw [List.getElem?_append]
  split
  · rfl
  · split
    · rename_i e; subst e; simp
    · rename_i h1 h2; rw [List.getElem?_eq_none]; simp; omega
theorem BH.insN {H H' : MH} {σ : St} {nd x : Nd} {p : Nat} (hp : σ.nodes[p]? = some x) (hB : BH H (addN σ nd)) (h1 : H'.c (.kid p) = some (.list (x.kids.map vi ++ [vi σ.nodes.length])))
    (h2 : H'.c .parents = some (.list (((σ.nodes ++ [nd]).map fun n => V.int n.par).set σ.nodes.length (vi p)))) (h3 : ∀ l, l ≠ .kid p → l ≠ .parents → H'.c l = H.c l) : BH H' (insN σ nd p) := by
  intro l hl
  have hpl := lt_of_get hp
  have key : ∀ f : Nd → V, (∀ (y : Nd) ks, f { y with kids := ks } = f y) → f { nd with par := p } = f nd → (Mine.Internal.insN σ nd p).nodes.map f = (addN σ nd).nodes.map f := by
    intro f hf he
    show ((σ.nodes.modify p _) ++ [_]).map f = (σ.nodes ++ [_]).map f
    rw [List.map_append, List.map_append, map_modify_same (fun y => hf y _)]
    simp [he]
  have kl : (Mine.Internal.insN σ nd p).nodes.length = (addN σ nd).nodes.length := by
    show ((σ.nodes.modify p _) ++ [_]).length = (σ.nodes ++ [_]).length
    simp
  have go : ∀ l, l.isB = true → l ≠ .kid p → l ≠ .parents → bh (addN σ nd) l = bh (Mine.Internal.insN σ nd p) l → H'.c l = bh (Mine.Internal.insN σ nd p) l := fun l a b c e => (h3 l b c).trans ((hB l a).trans e)
  cases l
  case kid i =>
    by_cases e : i = p
    · subst e
      rw [h1]
      show _ = Option.map _ _
      rw [insN_get, if_pos hpl, if_pos rfl, hp]
      simp
    · refine go _ hl (fun z => e (Loc.kid.inj z)) (by first | exact Loc.ne_tag rfl | (intro e; cases e)) ?_
      show Option.map _ _ = Option.map _ _
      rw [insN_get, addN_get]
      split
      · rw [if_neg (fun z => e z.symm)]
      · split <;> rfl
  case att i =>
    refine go _ hl (by first | exact Loc.ne_tag rfl | (intro e; cases e)) (by first | exact Loc.ne_tag rfl | (intro e; cases e)) ?_
    show Option.map _ _ = Option.map _ _
    rw [insN_get, addN_get]
    split
    · split
      · cases σ.nodes[i]? <;> rfl
      · rfl
    · split <;> rfl
  case parents =>
    rw [h2]
    show _ = some (Cell.list ((σ.nodes.modify p _ ++ [_]).map _))
    rw [List.map_append, List.map_append, map_modify_same (f := fun n : Nd => V.int n.par) (g := fun x : Nd => { x with kids := x.kids ++ [σ.nodes.length] }) (fun _ => rfl)]
    simp
  all_goals first | (cases hl; done) | (exact go _ hl (by first | exact Loc.ne_tag rfl | (intro e; cases e)) (by first | exact Loc.ne_tag rfl | (intro e; cases e)) rfl) | (refine go _ hl (by first | exact Loc.ne_tag rfl | (intro e; cases e)) (by first | exact Loc.ne_tag rfl | (intro e; cases e)) ?_; show some (Cell.list _) = some (Cell.list _); first | rw [key _ (fun _ _ => rfl) rfl] | (show some (Cell.list ((List.range _).map _)) = some (Cell.list ((List.range _).map _)); rw [kl]))
theorem w_insert (hpu : M.pu = false) (F : Facts M.K) {σ : St} {nd : Nd} (hB : BH H (addN σ nd)) (hz : σ.nodes.length ≤ 890) (hw : ParOK σ.nodes) {p : Nat} {x : Nd} (hp : σ.nodes[p]? = some x) (hkl : x.kids.length ≤ 900) (hn : nd.par = -1) {Q : V → MH → Prop}
    (h : ∀ H', BH H' (insN σ nd p) → Keep Loc.isB H H' → Q .none H') : CALL M (d + 2) cl ml H 359 [.cell .tree, vi p, vi σ.nodes.length, .int (-1)] Q := by
  refine CALL_go (at_Tree_insert F) (b_Tree_insert F) rfl rfl rfl ?_
  have hpl := lt_of_get hp
  have hp' : (addN σ nd).nodes[p]? = some x := by show (σ.nodes ++ [nd])[p]? = _; rw [List.getElem?_append_left hpl]; exact hp
  have hn' : (addN σ nd).nodes[σ.nodes.length]? = some nd := by show (σ.nodes ++ [nd])[_]? = _; simp
  have hz' : (addN σ nd).nodes.length ≤ 900 := by show (σ.nodes ++ [nd]).length ≤ 900; simp; omega
  have hw' : ParOK (addN σ nd).nodes := by
    intro i y hy
    have hy : (σ.nodes ++ [nd])[i]? = some y := hy
    rw [List.getElem?_append] at hy
    split at hy
    · exact hw i y hy
    · cases q : i - σ.nodes.length with
      | zero => rw [q] at hy; cases hy; rw [hn]; omega
      | succ j => rw [q] at hy; simp at hy
  walk_at "m.run"
  refine ite_neg (by simp; omega) ?_
  walk_at "m.run"
  refine w_above hpu F hB hz' hw' hp' fun H1 ys k hB1 k1 hy hys => ?_
  walk_at "m.run"
  refine OP_in_ints hy ?_
  have hno : (ys.any (· == (σ.nodes.length : Int))) = false := by
    rw [List.any_eq_false]
    intro y hy
    have := hys y hy
    simp; omega
  rw [hno]
  walk_at "m.run"
  refine w_remove F hB1 hz' hn' hn ?_
  have hk := hB1.kid hp'
  have hpl' := lt_of_get hp'
  have hpar : H1.c .parents = some (.list ((σ.nodes ++ [nd]).map fun n => V.int n.par)) := hB1 .parents rfl
  walk_at "m.run"
  refine B_insert_end hpu hk (by walk_at "m.le") rfl ?_
  walk_at "m.run"
  refine ⟨_, Stored.item (put_other (Loc.ne_tag rfl) hpar) (by omega) (by simp; omega) (by walk_at "m.le"), ?_⟩
  walk_at "m.run"
  refine h _ (BH.insN hp hB1 ?_ put_same fun l a b => (put_other b rfl).trans (put_other a rfl)) (by walk_at "m.keep")
  exact put_other (by first | exact Loc.ne_tag rfl | (intro e; cases e)) put_same
end
noncomputable def curP (l : List Nat) : Nat := match l.getLast? with | some i => i | none => 0
theorem curP_snoc (l : List Nat) (n : Nat) : curP (l ++ [n]) = n := by unfold curP; rw [List.getLast?_concat]
noncomputable def pushN (σ : St) (n : Nat) : St := { σ with stack := σ.stack ++ [n] }
noncomputable def elN (name : Str) (attrs : List V) : Nd := ⟨"element", "html", name, attrs, "", -1, []⟩
noncomputable def txtN (t : Str) : Nd := ⟨"text", "", "", [], t, -1, []⟩
noncomputable def comN (t : Str) : Nd := ⟨"comment", "", "", [], t, -1, []⟩
noncomputable def growN (σ : St) (name : Str) (attrs : List V) : St := { insN σ (elN name attrs) (curP σ.stack) with stack := σ.stack ++ [σ.nodes.length] }
noncomputable def setText (σ : St) (k : Nat) (c : Str) : St := { σ with nodes := σ.nodes.modify k fun x => { x with text := x.text ++ c } }
noncomputable def signN (σ : St) (p : Nat) (x : Nd) (c : Str) : St := match x.kids.getLast? with
  | some k => match σ.nodes[k]? with
    | some y => if y.kind = "text" then setText σ k c else insN σ (txtN c) p
    | none => insN σ (txtN c) p
  | none => insN σ (txtN c) p
section
variable {M : Amb} {d : Nat} {cl : List (Str × Loc)} {ml : List (Str × V)} {H : MH}
theorem w_place_for (F : Facts M.K) {σ : St} (hB : BH H σ) (hz : σ.stack.length ≤ 900) {Q : V → MH → Prop} (h : Q (.tup [vi (curP σ.stack), .int (-1)]) H) : CALL M (d + 2) cl ml H 522 [.cell .builder] Q := by
  refine CALL_go (at_place_for F) (b_place_for F) rfl rfl rfl ?_
  walk_at "m.run"
  refine w_current F hB (by omega) ?_
  walk_at "m.run"
  rcases List.eq_nil_or_concat σ.stack with e | ⟨l, n, e⟩
  · rw [e] at h
    refine ite_pos (by rw [e]; rfl) ?_
    walk_at "m.run"
    exact h
  · have e : σ.stack = l ++ [n] := e.trans (List.concat_eq_append ..)
    rw [e, curP_snoc] at h
    rw [e, lastI_snoc]
    walk_at "m.run"
    exact h
theorem w_make (hpu : M.pu = false) (F : Facts M.K) {σ : St} (hB : BH H σ) (hz : σ.nodes.length ≤ 900) {name : Str} (hn : name ≠ "template") {attrs : List V} (ha : attrs.length ≤ 900) {Q : V → MH → Prop}
    (h : ∀ H', BH H' (addN σ (elN name attrs)) → Keep Loc.isB H H' → Q (vi σ.nodes.length) H') : CALL M (d + 3) cl ml H 545 [.cell .builder, .str name, .tup attrs, .str "html"] Q := by
  refine CALL_go (at_make F) (b_make F) rfl rfl rfl ?_
  walk_at "m.run"
  refine w_element4 hpu F hB hz hn ha fun H' hB' k' => ?_
  walk_at "m.run"
  exact h H' hB' k'
theorem w_insert_element_body (hpu : M.pu = false) (F : Facts M.K) {σ : St} (hB : BH H σ) (hz : σ.nodes.length ≤ 880) (hs : σ.stack.length ≤ 890) (hw : ParOK σ.nodes) {x : Nd} (hp : σ.nodes[curP σ.stack]? = some x) (hkl : x.kids.length ≤ 900) {name : Str} (hn : name ≠ "template") {attrs : List V} (ha : attrs.length ≤ 900) {Q : V → MH → Prop}
    (h : ∀ H', BH H' (growN σ name attrs) → Keep Loc.isB H H' → Q (vi σ.nodes.length) H') :
    TS M (d + 3) (sco (tS 31)) cl [("space", .str "html"), ("attrs", .tup attrs), ("name", .str name), ("builder", .cell .builder)] H (bd (tS 31)) (backS Q) := by
  refine TS_go rfl rfl ?_
  walk_at "m.run"
  refine w_place_for F hB (by omega) ?_
  walk_at "m.run"
  refine w_make hpu F hB (by omega) hn ha fun H1 hB1 k1 => ?_
  walk_at "m.run"
  refine w_insert hpu F hB1 (by omega) hw hp hkl rfl fun H2 hB2 k2 => ?_
  walk_at "m.run"
  refine w_push hpu F hB2 (by show σ.stack.length ≤ 900; omega) fun H3 hB3 k3 => ?_
  walk_at "m.run"
  exact h H3 hB3 ((k1.trans k2).trans k3)
end
theorem BH.setText {H : MH} {σ : St} (hB : BH H σ) {k : Nat} {y : Nd} (hk : σ.nodes[k]? = some y) {c : Str} : BH (H.put .texts (.list ((σ.nodes.map fun n => V.str n.text).set k (.str (y.text ++ c))))) (setText σ k c) := by
  have key : ∀ f : Nd → V, (∀ (y : Nd) t, f { y with text := t } = f y) → (Mine.Internal.setText σ k c).nodes.map f = σ.nodes.map f := fun f hf => map_modify_same (fun y => hf y _) k σ.nodes
  have kl : (Mine.Internal.setText σ k c).nodes.length = σ.nodes.length := List.length_modify ..
  have gt : ∀ i, (Mine.Internal.setText σ k c).nodes[i]? = if k = i then σ.nodes[i]?.map (fun x => { x with text := x.text ++ c }) else σ.nodes[i]? := fun i => by
    show (σ.nodes.modify k _)[i]? = _
    rw [List.getElem?_modify]
    split
    · rfl
    · cases σ.nodes[i]? <;> rfl
  refine hB.put1 ?_ fun l hn hl => ?_
  · show some (Cell.list ((σ.nodes.modify k _).map _)) = _
    congr 2
    refine List.ext_getElem? fun i => ?_
    rw [List.getElem?_map, List.getElem?_modify, List.getElem?_set, List.length_map, List.getElem?_map]
    by_cases e : k = i
    · subst e
      have hg : σ.nodes[k]'(lt_of_get hk) = y := by rw [List.getElem?_eq_getElem (lt_of_get hk)] at hk; exact Option.some.inj hk
      simp [lt_of_get hk, hg]
    · simp [e]
  · cases l
    case kid i =>
      show Option.map _ _ = Option.map _ _
      rw [gt]; split
      · cases σ.nodes[i]? <;> rfl
      · rfl
    case att i =>
      show Option.map _ _ = Option.map _ _
      rw [gt]; split
      · cases σ.nodes[i]? <;> rfl
      · rfl
    all_goals first | (cases hl; done) | rfl | (exact absurd rfl hn) | (show some (Cell.list _) = some (Cell.list _); first | rw [key _ (fun _ _ => rfl)] | (show some (Cell.list ((List.range _).map _)) = some (Cell.list ((List.range _).map _)); rw [kl]))
section
variable {M : Amb} {d : Nat} {cl : List (Str × Loc)} {ml : List (Str × V)} {H : MH}
theorem w_insert_element2 (hpu : M.pu = false) (F : Facts M.K) {σ : St} (hB : BH H σ) (hz : σ.nodes.length ≤ 880) (hs : σ.stack.length ≤ 890) (hw : ParOK σ.nodes) {x : Nd} (hp : σ.nodes[curP σ.stack]? = some x) (hkl : x.kids.length ≤ 900) {name : Str} (hn : name ≠ "template") {Q : V → MH → Prop}
    (h : ∀ H', BH H' (growN σ name []) → Keep Loc.isB H H' → Q (vi σ.nodes.length) H') : CALL M (d + 4) cl ml H 554 [.cell .builder, .str name] Q :=
  CALL_fn (at_insert_element F) (b_insert_element2 F) rfl (w_insert_element_body hpu F hB hz hs hw hp hkl hn (Nat.zero_le _) h)
theorem w_insert_element3 (hpu : M.pu = false) (F : Facts M.K) {σ : St} (hB : BH H σ) (hz : σ.nodes.length ≤ 880) (hs : σ.stack.length ≤ 890) (hw : ParOK σ.nodes) {x : Nd} (hp : σ.nodes[curP σ.stack]? = some x) (hkl : x.kids.length ≤ 900) {name : Str} (hn : name ≠ "template") {attrs : List V} (ha : attrs.length ≤ 900) {Q : V → MH → Prop}
    (h : ∀ H', BH H' (growN σ name attrs) → Keep Loc.isB H H' → Q (vi σ.nodes.length) H') : CALL M (d + 4) cl ml H 554 [.cell .builder, .str name, .tup attrs] Q :=
  CALL_fn (at_insert_element F) (b_insert_element3 F) rfl (w_insert_element_body hpu F hB hz hs hw hp hkl hn ha h)
theorem w_associate (F : Facts M.K) {σ : St} (hB : BH H σ) (hz : σ.nodes.length ≤ 900) {p : Nat} {x : Nd} (hp : σ.nodes[p]? = some x) (hn : x.name = "frameset" ∨ x.name = "frame") {Q : V → MH → Prop}
    (h : Q .none H) : CALL M (d + 1) cl ml H 575 [.cell .builder, vi p] Q := by
  refine CALL_go (at_associate F) b_associate rfl rfl rfl ?_
  walk_at "m.run"
  by_cases e1 : (σ.form == -1) = true
  · walk_at "m.run"
    exact h
  · walk_at "m.run"
    by_cases e2 : (σ.form == σ.ctx) = true
    · walk_at "m.run"
      exact h
    · walk_at "m.run"
      have : (!(["button", "fieldset", "input", "object", "output", "select", "textarea", "img"] : List Str).any (· == x.name)) = true := by
        rcases hn with e | e <;> rw [e] <;> decide +kernel
      walk_at "m.run"
      exact h
theorem w_insert_sign (hpu : M.pu = false) (F : Facts M.K) {σ : St} (hB : BH H σ) (hz : σ.nodes.length ≤ 880) (hs : σ.stack.length ≤ 890) (hw : ParOK σ.nodes) {x : Nd} (hp : σ.nodes[curP σ.stack]? = some x) (hkl : x.kids.length ≤ 900) (hxk : x.kind ≠ "document")
    (hkid : ∀ k ∈ x.kids, ∃ y, σ.nodes[k]? = some y) {c : Str} (hc : c.length ≤ 10) (ht : ∀ (i : Nat) (y : Nd), σ.nodes[i]? = some y → y.text.length ≤ 900) {Q : V → MH → Prop}
    (h : ∀ H', BH H' (signN σ (curP σ.stack) x c) → Keep Loc.isB H H' → Q .none H') : CALL M (d + 3) cl ml H 529 [.cell .builder, .str c] Q := by
  refine CALL_go (at_insert_sign F) b_insert_sign rfl rfl rfl ?_
  walk_at "m.run"
  refine w_place_for F hB (by omega) ?_
  walk_at "m.run"
  refine w_last F hB (by omega) hp hkl ?_
  have hxk' : ¬ (x.kind == "document") = true := str_nb hxk
  have hpl := lt_of_get hp
  walk_at "m.run"
  rcases List.eq_nil_or_concat x.kids with e | ⟨l, k, e⟩
  · have hq : signN σ (curP σ.stack) x c = insN σ (txtN c) (curP σ.stack) := by unfold signN; rw [e]; rfl
    rw [hq] at h
    rw [e, lastI_nil]
    walk_at "m.run"
    refine w_text hpu F hB (by omega) fun H1 hB1 k1 => ?_
    walk_at "m.run"
    refine w_insert hpu F hB1 (by omega) hw hp hkl rfl fun H2 hB2 k2 => ?_
    walk_at "m.run"
    exact h H2 hB2 (k1.trans k2)
  · have e : x.kids = l ++ [k] := e.trans (List.concat_eq_append ..)
    obtain ⟨y, hy⟩ := hkid k (by rw [e]; simp)
    have hkl2 := lt_of_get hy
    have hty := ht k y hy
    rw [e, lastI_snoc]
    walk_at "m.run"
    by_cases e2 : y.kind = "text"
    · have hq : signN σ (curP σ.stack) x c = setText σ k c := by unfold signN; rw [e, List.getLast?_concat]; simp only [hy, if_pos e2]
      rw [hq] at h
      walk_at "m.run"
      refine OP_add_str (by omega) ?_
      walk_at "m.run"
      refine ⟨_, Stored.item (by walk_at "m.cell") (by omega) (by simp; omega) (by walk_at "m.le"), ?_⟩
      walk_at "m.run"
      exact h _ (hB.setText hy) (Keep.put rfl)
    · have hq : signN σ (curP σ.stack) x c = insN σ (txtN c) (curP σ.stack) := by unfold signN; rw [e, List.getLast?_concat]; simp only [hy, if_neg e2]
      rw [hq] at h
      walk_at "m.run"
      refine w_text hpu F hB (by omega) fun H1 hB1 k1 => ?_
      walk_at "m.run"
      refine w_insert hpu F hB1 (by omega) hw hp hkl rfl fun H2 hB2 k2 => ?_
      walk_at "m.run"
      exact h H2 hB2 (k1.trans k2)
theorem w_insert_comment2 (hpu : M.pu = false) (F : Facts M.K) {σ : St} (hB : BH H σ) (hz : σ.nodes.length ≤ 880) (hs : σ.stack.length ≤ 890) (hw : ParOK σ.nodes) {x : Nd} (hp : σ.nodes[curP σ.stack]? = some x) (hkl : x.kids.length ≤ 900) {c : Str} {Q : V → MH → Prop}
    (h : ∀ H', BH H' (insN σ (comN c) (curP σ.stack)) → Keep Loc.isB H H' → Q .none H') : CALL M (d + 3) cl ml H 537 [.cell .builder, .str c] Q := by
  refine CALL_go (at_insert_comment F) (b_insert_comment2 F) rfl rfl rfl ?_
  walk_at "m.run"
  refine w_place_for F hB (by omega) ?_
  walk_at "m.run"
  refine w_comment hpu F hB (by omega) fun H1 hB1 k1 => ?_
  walk_at "m.run"
  refine w_insert hpu F hB1 (by omega) hw hp hkl rfl fun H2 hB2 k2 => ?_
  walk_at "m.run"
  exact h H2 hB2 (k1.trans k2)
theorem w_insert_comment3 (hpu : M.pu = false) (F : Facts M.K) {σ : St} (hB : BH H σ) (hz : σ.nodes.length ≤ 880) (hw : ParOK σ.nodes) {p : Nat} {x : Nd} (hp : σ.nodes[p]? = some x) (hkl : x.kids.length ≤ 900) {c : Str} {Q : V → MH → Prop}
    (h : ∀ H', BH H' (insN σ (comN c) p) → Keep Loc.isB H H' → Q .none H') : CALL M (d + 3) cl ml H 537 [.cell .builder, .str c, vi p] Q := by
  refine CALL_go (at_insert_comment F) (b_insert_comment3 F) rfl rfl rfl ?_
  walk_at "m.run"
  refine w_comment hpu F hB (by omega) fun H1 hB1 k1 => ?_
  walk_at "m.run"
  refine w_insert hpu F hB1 (by omega) hw hp hkl rfl fun H2 hB2 k2 => ?_
  walk_at "m.run"
  exact h H2 hB2 (k1.trans k2)
end
noncomputable def spaces : List Str := ["\t", "\n", "\x0c", "\r", " "]
noncomputable def Tk.spc : Tk → Bool
  | .ch c => spaces.any (· == c)
  | _ => false
noncomputable def Tk.st (n : Str) : Tk → Bool
  | .start m _ _ => m == n
  | _ => false
noncomputable def Tk.en (n : Str) : Tk → Bool
  | .fin m => m == n
  | _ => false
theorem spc_pos {t : Tk} (h : t.spc = true) : ∃ c, t = .ch c ∧ spaces.any (· == c) = true := by
  cases t <;> first | exact ⟨_, rfl, h⟩ | cases h
theorem st_pos {t : Tk} {n : Str} (h : t.st n = true) : ∃ a s, t = .start n a s := by
  cases t <;> first | (have := eq_of_beq h; subst this; exact ⟨_, _, rfl⟩) | cases h
theorem en_pos {t : Tk} {n : Str} (h : t.en n = true) : t = .fin n := by
  cases t <;> first | (have := eq_of_beq h; subst this; rfl) | cases h
noncomputable def Tk.word : Tk → Str
  | .doc => "unexpected-doctype"
  | .start .. => "unexpected-start-tag"
  | .fin _ => "unexpected-end-tag"
  | _ => "unexpected-text"
noncomputable def errN (σ : St) (v : V) : St := { σ with errs := σ.errs ++ [v] }
noncomputable def refN (σ : St) (t : Tk) : St := errN σ (.tup [.str t.word, .str σ.mode])
noncomputable def stopN (σ : St) : St := { σ with stack := [], done := true }
section
variable {M : Amb} {d : Nat} {cl : List (Str × Loc)} {ml : List (Str × V)} {H : MH}
theorem w_is_space (F : Facts M.K) {c : Str} {Q : V → MH → Prop} (h : Q (.bool (spaces.any (· == c))) H) : CALL M (d + 1) cl ml H 151 [.str c] Q := by
  refine CALL_go (at_is_space F) b_is_space rfl rfl rfl ?_
  walk_at "m.run"
  exact h
theorem w_is_space_token (F : Facts M.K) {t : Tk} {Q : V → MH → Prop} (h : Q (.bool t.spc) H) : CALL M (d + 2) cl ml H 582 [tkV t] Q := by
  refine CALL_go (at_is_space_token F) b_is_space_token rfl rfl rfl ?_
  cases t <;> simp only [tkV] <;> walk_at "m.run"
  case ch c =>
    refine w_is_space F ?_
    exact h
  all_goals exact h
theorem w_is_start_of (F : Facts M.K) {t : Tk} {n : Str} {Q : V → MH → Prop} (h : Q (.bool (t.st n)) H) : CALL M (d + 1) cl ml H 589 [tkV t, .str n] Q := by
  refine CALL_go (at_is_start_of F) b_is_start_of rfl rfl rfl ?_
  cases t <;> simp only [tkV] <;> walk_at "m.run" <;> exact h
theorem w_is_end_of (F : Facts M.K) {t : Tk} {n : Str} {Q : V → MH → Prop} (h : Q (.bool (t.en n)) H) : CALL M (d + 1) cl ml H 596 [tkV t, .str n] Q := by
  refine CALL_go (at_is_end_of F) b_is_end_of rfl rfl rfl ?_
  cases t <;> simp only [tkV] <;> walk_at "m.run" <;> exact h
theorem w_refuse (hpu : M.pu = false) (F : Facts M.K) {σ : St} (hB : BH H σ) (hz : σ.errs.length ≤ 900) {t : Tk} {Q : V → MH → Prop} (h : ∀ H', BH H' (refN σ t) → Keep Loc.isB H H' → Q .none H') : CALL M (d + 2) cl ml H 603 [.cell .builder, tkV t] Q := by
  refine CALL_go (at_refuse F) b_refuse rfl rfl rfl ?_
  cases t <;> simp only [tkV] <;> walk_at "m.run" <;> refine w_error hpu F hB hz fun H' hB' k' => ?_ <;> walk_at "m.run" <;> exact h H' hB' k'
theorem w_is_at_root (F : Facts M.K) {σ : St} (hB : BH H σ) (hz : σ.stack.length ≤ 1000) {Q : V → MH → Prop} (h : Q (.bool (decide ((σ.stack.length : Int) ≤ 1))) H) : CALL M (d + 2) cl ml H 624 [.cell .builder] Q := by
  refine CALL_go (at_is_at_root F) b_is_at_root rfl rfl rfl ?_
  walk_at "m.run"
  refine w_many F hB hz ?_
  walk_at "m.run"
  exact h
theorem w_finish (hpu : M.pu = false) (F : Facts M.K) {σ : St} (hB : BH H σ) (hz : σ.stack.length ≤ 900) {Q : V → MH → Prop} (h : ∀ H', BH H' (stopN σ) → Keep Loc.isB H H' → Q .none H') : CALL M (d + 2) cl ml H 507 [.cell .builder] Q := by
  refine CALL_go (at_finish F) b_finish rfl rfl rfl ?_
  walk_at "m.run"
  refine T1_while' (α := List Nat) (fun l H' => BH H' { σ with stack := l } ∧ Keep Loc.isB H H' ∧ l.length ≤ 900) (fun _ => [("builder", .cell .builder)]) List.length σ.stack ⟨hB, Keep.refl _, hz⟩ ⟨rfl, trivial⟩ (fun _ _ _ s h => TX.sub s h) ?_
  rintro l H' ⟨hB', k', hl⟩
  walk_at "m.run"
  refine w_many F hB' (by show l.length ≤ 1000; omega) ?_
  walk_at "m.run"
  rcases List.eq_nil_or_concat l with e | ⟨l2, n, e⟩
  · subst e
    walk_at "m.run"
    refine h _ (hB'.bld (σ' := stopN σ) rfl rfl rfl) (k'.put' rfl)
  · have e : l = l2 ++ [n] := e.trans (List.concat_eq_append ..)
    subst e
    refine ite_pos (by simp <;> omega) ?_
    walk_at "m.run"
    refine w_pop (l := l2) (n := n) hpu F hB' hl rfl fun H2 hB2 k2 => ?_
    walk_at "m.run"
    refine ⟨l2, by simp, ⟨hB2, k'.trans k2, ?_⟩, ⟨rfl, trivial⟩⟩
    simp at hl; omega
end
theorem CALL.imp {M : Amb} {d : Nat} {cl : List (Str × Loc)} {ml : List (Str × V)} {H : MH} {a : Addr} {xs : List V} {Q Q' : V → MH → Prop} (h : CALL M d cl ml H a xs Q) (hq : ∀ v H', Q v H' → Q' v H') : CALL M d cl ml H a xs Q' := by
  intro A base h₀ outer fenv env L m mm s wd R xs' c r k
  exact h c r fun v v' H' wd' h' tk' q => k v v' H' wd' h' tk' (hq v H' q)
structure NdOK (N : Nat) (σ : St) (i : Nat) (x : Nd) : Prop where
  p1 : -1 ≤ x.par
  p2 : x.par < i
  kl : x.kids.length ≤ N
  tl : x.text.length ≤ N
  so : PyData.strOk x.text = true
  sn : PyData.strOk x.name = true
  ao : x.attrs = [] ∨ ∃ a, x.attrs = tAttrs a ∧ PyData.strOk a = true
  nod : x.kids.Nodup
  kid : ∀ k ∈ x.kids, ∃ y : Nd, σ.nodes[k]? = some y ∧ y.par = i ∧ (k : Int) ≠ σ.ctx ∧ (y.kind = "element" ∨ y.kind = "text" ∨ y.kind = "comment")
noncomputable def ErrOK (v : V) : Prop := ∃ dt : PyData, (∀ H, DV H v dt) ∧ dt.canLay0 = true ∧ dt.depth ≤ 10
noncomputable def modesL : List Str := ["after body", "in frameset", "after frameset", "after after body", "after after frameset", "in body"]
structure WF (N E : Nat) (σ : St) : Prop where
  zn : σ.nodes.length ≤ N
  zs : σ.stack.length ≤ N
  ze : σ.errs.length ≤ E
  er : ∀ v ∈ σ.errs, ErrOK v
  md : σ.mode ∈ modesL
  nd : ∀ (i : Nat) (x : Nd), σ.nodes[i]? = some x → NdOK N σ i x
  doc : ∃ x : Nd, σ.nodes[0]? = some x ∧ x.kind = "document" ∧ x.name = "" ∧ x.attrs = []
  stk : ∀ i ∈ σ.stack, ∃ x : Nd, σ.nodes[i]? = some x ∧ x.kind = "element" ∧ x.space = "html" ∧ (i : Int) ≠ σ.ctx
  ctx : σ.ctx = -1 ∨ ∃ (c : Nat) (x : Nd), σ.ctx = c ∧ σ.nodes[c]? = some x ∧ x.kind = "element" ∧ x.space = "html"
theorem WF.par {N E : Nat} {σ : St} (w : WF N E σ) : ParOK σ.nodes := fun i x h => ⟨(w.nd i x h).p1, (w.nd i x h).p2⟩
theorem WF.cur {N E : Nat} {σ : St} (w : WF N E σ) : ∃ x : Nd, σ.nodes[curP σ.stack]? = some x ∧ x.kids.length ≤ N := by
  rcases List.eq_nil_or_concat σ.stack with e | ⟨l, n, e⟩
  · obtain ⟨x, hx, _⟩ := w.doc
    rw [e]
    exact ⟨x, hx, (w.nd _ _ hx).kl⟩
  · have e : σ.stack = l ++ [n] := e.trans (List.concat_eq_append ..)
    obtain ⟨x, hx, _⟩ := w.stk n (by rw [e]; simp)
    rw [e, curP_snoc]
    exact ⟨x, hx, (w.nd _ _ hx).kl⟩
theorem WF.cur' {N E : Nat} {σ : St} (w : WF N E σ) (h : σ.stack ≠ []) : ∃ x : Nd, σ.nodes[curP σ.stack]? = some x ∧ x.kids.length ≤ N ∧ x.kind = "element" ∧ x.space = "html" ∧ ((curP σ.stack : Nat) : Int) ≠ σ.ctx ∧ ∃ l, σ.stack = l ++ [curP σ.stack] := by
  rcases List.eq_nil_or_concat σ.stack with e | ⟨l, n, e⟩
  · exact absurd e h
  · have e : σ.stack = l ++ [n] := e.trans (List.concat_eq_append ..)
    obtain ⟨x, hx, h1, h2, h3⟩ := w.stk n (by rw [e]; simp)
    rw [e, curP_snoc]
    exact ⟨x, hx, (w.nd _ _ hx).kl, h1, h2, h3, l, rfl⟩
noncomputable def adjI (σ : St) : Int := if ((σ.stack.length : Int) == 1) = true then (if (σ.ctx != -1) = true then σ.ctx else lastI σ.stack) else lastI σ.stack
theorem WF.adj {N E : Nat} {σ : St} (w : WF N E σ) : adjI σ = -1 ∨ ∃ (c : Nat) (x : Nd), adjI σ = c ∧ σ.nodes[c]? = some x ∧ x.space = "html" := by
  have hl : lastI σ.stack = -1 ∨ ∃ (c : Nat) (x : Nd), lastI σ.stack = c ∧ σ.nodes[c]? = some x ∧ x.space = "html" := by
    rcases List.eq_nil_or_concat σ.stack with e | ⟨l, n, e⟩
    · rw [e]; exact .inl rfl
    · have e : σ.stack = l ++ [n] := e.trans (List.concat_eq_append ..)
      obtain ⟨x, hx, h1, h2, _⟩ := w.stk n (by rw [e]; simp)
      rw [e, lastI_snoc]
      exact .inr ⟨n, x, rfl, hx, h2⟩
  unfold adjI
  split
  · split
    · rcases w.ctx with h | ⟨c, x, h1, h2, _, h3⟩
      · exact .inl h
      · exact .inr ⟨c, x, h1, h2, h3⟩
    · exact hl
  · exact hl
noncomputable def voidN (σ : St) (name : Str) (attrs : List V) : St := { insN σ (elN name attrs) (curP σ.stack) with ack := true }
section
variable {M : Amb} {d : Nat} {cl : List (Str × Loc)} {ml : List (Str × V)} {H : MH}
theorem w_name (F : Facts M.K) {σ : St} (hB : BH H σ) (hz : σ.stack.length ≤ 900) (hzn : σ.nodes.length ≤ 900) {l : List Nat} {n : Nat} (e : σ.stack = l ++ [n]) {x : Nd} (hx : σ.nodes[n]? = some x) (hs : x.space = "html") {Q : V → MH → Prop} (h : Q (.str x.name) H) : CALL M (d + 2) cl ml H 270 [.cell .stack] Q := by
  refine CALL_go (at_OpenStack_name F) b_OpenStack_name rfl rfl rfl ?_
  walk_at "m.run"
  refine w_current F hB (by omega) ?_
  rw [e, lastI_snoc]
  walk_at "m.run"
  exact h
theorem w_adjusted (F : Facts M.K) {σ : St} (hB : BH H σ) (hz : σ.stack.length ≤ 900) {Q : V → MH → Prop} (h : Q (.int (adjI σ)) H) : CALL M (d + 2) cl ml H 479 [.cell .builder] Q := by
  refine CALL_go (at_Builder_adjusted F) b_Builder_adjusted rfl rfl rfl ?_
  walk_at "m.run"
  refine w_many F hB (by omega) ?_
  walk_at "m.run"
  unfold adjI at h
  by_cases e1 : ((σ.stack.length : Int) == 1) = true
  · rw [if_pos e1] at h
    walk_at "m.run"
    by_cases e2 : (σ.ctx != -1) = true
    · rw [if_pos e2] at h
      walk_at "m.run"
      exact h
    · rw [if_neg e2] at h
      walk_at "m.run"
      refine w_current F hB (by omega) ?_
      walk_at "m.run"
      exact h
  · rw [if_neg e1] at h
    walk_at "m.run"
    refine w_current F hB (by omega) ?_
    walk_at "m.run"
    exact h
theorem w_is_foreign (F : Facts M.K) {N E : Nat} {σ : St} (hB : BH H σ) (w : WF N E σ) (hN : N ≤ 800) {Q : V → MH → Prop} (h : Q (.bool false) H) : CALL M (d + 3) cl ml H 486 [.cell .builder] Q := by
  refine CALL_go (at_Builder_is_foreign F) b_Builder_is_foreign rfl rfl rfl ?_
  have hz1 := w.zs
  have hz2 := w.zn
  walk_at "m.run"
  refine w_adjusted F hB (by omega) ?_
  walk_at "m.run"
  rcases w.adj with e | ⟨c, x, e, hx, hs⟩
  · rw [e]
    walk_at "m.run"
    exact h
  · rw [e]
    walk_at "m.run"
    rw [hs]
    exact h
theorem w_is_html_turn (F : Facts M.K) {N E : Nat} {σ : St} (hB : BH H σ) (w : WF N E σ) (hN : N ≤ 800) {t : Tk} {Q : V → MH → Prop} (h : Q (.bool true) H) : CALL M (d + 4) cl ml H 500 [.cell .builder, tkV t] Q := by
  refine CALL_go (at_is_html_turn F) b_is_html_turn rfl rfl rfl ?_
  walk_at "m.run"
  refine w_is_foreign F hB w hN ?_
  walk_at "m.run"
  exact h
theorem w_use (F : Facts M.K) {σ : St} (hB : BH H σ) {name : Str} {a : Addr} (hg : getE rulesD name = some (.glob a)) (hk : keepIn M.K (.ref a) = true) {t : V} {Q : V → MH → Prop}
    (h : ∀ cl ml, CALL M d cl ml H a [.cell .builder, t] fun _ H' => Q .none H') : CALL M (d + 1) cl ml H 458 [.cell .builder, .str name, t] Q := by
  refine CALL_go (at_Builder_use F) b_Builder_use rfl rfl rfl ?_
  walk_at "m.run"
  refine ite_neg (by rw [hg]; simp) ?_
  walk_at "m.run"
  refine OP_item_dict (by walk_at "m.cell") hg (fun _ _ => rfl) ?_
  walk_at "m.run"
  refine CALL.imp (h _ _) fun v H' q => ?_
  walk_at "m.run"
  exact q
theorem w_process (F : Facts M.K) {N E : Nat} {σ : St} (hB : BH H σ) (w : WF N E σ) (hN : N ≤ 800) {a : Addr} (hg : getE rulesD σ.mode = some (.glob a)) (hk : keepIn M.K (.ref a) = true) {t : Tk} {Q : V → MH → Prop}
    (h : ∀ cl ml, CALL M (d + 3) cl ml H a [.cell .builder, tkV t] fun _ H' => Q .none H') : CALL M (d + 5) cl ml H 465 [.cell .builder, tkV t] Q := by
  refine CALL_go (at_Builder_process F) b_Builder_process rfl rfl rfl ?_
  walk_at "m.run"
  refine w_is_html_turn F hB w hN ?_
  walk_at "m.run"
  refine w_use F hB hg hk fun cl ml => ?_
  refine CALL.imp (h _ _) fun v H' q => ?_
  walk_at "m.run"
  exact q
theorem insN_new {σ : St} {nd : Nd} {p : Nat} : (insN σ nd p).nodes[σ.nodes.length]? = some { nd with par := p } := by
  rw [insN_get, if_neg (by omega), if_pos rfl]
theorem insN_len {σ : St} {nd : Nd} {p : Nat} : (insN σ nd p).nodes.length = σ.nodes.length + 1 := by
  show (σ.nodes.modify p _ ++ [_]).length = _
  simp
theorem w_insert_token (hpu : M.pu = false) (F : Facts M.K) {N E : Nat} {σ : St} (hB : BH H σ) (w : WF N E σ) (hN : N ≤ 800) {n a : Str} {s : Bool} (hn : n = "frameset" ∨ n = "frame") {Q : V → MH → Prop}
    (h : ∀ H', BH H' (growN σ n (tAttrs a)) → Keep Loc.isB H H' → Q (vi σ.nodes.length) H') : CALL M (d + 5) cl ml H 561 [.cell .builder, tkV (.start n a s)] Q := by
  refine CALL_go (at_insert_token F) b_insert_token rfl rfl rfl ?_
  have hz1 := w.zs
  have hz2 := w.zn
  obtain ⟨x, hx, hxl⟩ := w.cur
  simp only [tkV]
  walk_at "m.run"
  refine w_insert_element3 hpu F hB (by omega) (by omega) w.par hx (by omega) (by rcases hn with e | e <;> rw [e] <;> decide) (Nat.le_of_ble_eq_true rfl) fun H1 hB1 k1 => ?_
  walk_at "m.run"
  refine w_associate (x := { elN n (tAttrs a) with par := curP σ.stack }) F hB1 (by show (insN σ _ _).nodes.length ≤ 900; rw [insN_len]; omega) insN_new hn ?_
  walk_at "m.run"
  exact h H1 hB1 k1
theorem w_insert_void (hpu : M.pu = false) (F : Facts M.K) {N E : Nat} {σ : St} (hB : BH H σ) (w : WF N E σ) (hN : N ≤ 800) {n a : Str} {s : Bool} (hn : n = "frameset" ∨ n = "frame") {Q : V → MH → Prop}
    (h : ∀ H', BH H' (voidN σ n (tAttrs a)) → Keep Loc.isB H H' → Q (vi σ.nodes.length) H') : CALL M (d + 6) cl ml H 568 [.cell .builder, tkV (.start n a s)] Q := by
  refine CALL_go (at_insert_void F) b_insert_void rfl rfl rfl ?_
  have hz1 := w.zs
  walk_at "m.run"
  refine w_insert_token hpu F hB w hN hn fun H1 hB1 k1 => ?_
  walk_at "m.run"
  refine w_pop hpu F hB1 (by show (σ.stack ++ [_]).length ≤ 900; simp; omega) rfl fun H2 hB2 k2 => ?_
  walk_at "m.run"
  exact h _ (hB2.bld (σ' := voidN σ n (tAttrs a)) rfl rfl rfl) ((k1.trans k2).put' rfl)
end
theorem str_len (x y : Str) : (x ++ y).length = x.length + y.length := by
  show (x.cps ++ y.cps).size = x.cps.size + y.cps.size
  exact Array.size_append
theorem NdOK.mono {N N' : Nat} {σ : St} {i : Nat} {x : Nd} (h : NdOK N σ i x) (a : N ≤ N') : NdOK N' σ i x := { h with kl := Nat.le_trans h.kl a, tl := Nat.le_trans h.tl a }
theorem WF.mono {N E N' E' : Nat} {σ : St} (w : WF N E σ) (a : N ≤ N') (b : E ≤ E') : WF N' E' σ :=
  { w with zn := Nat.le_trans w.zn a, zs := Nat.le_trans w.zs a, ze := Nat.le_trans w.ze b, nd := fun i x h => (w.nd i x h).mono a }
theorem NdOK.of {N : Nat} {σ σ' : St} {i : Nat} {x : Nd} (h : NdOK N σ i x) (e1 : σ'.nodes = σ.nodes) (e2 : σ'.ctx = σ.ctx) : NdOK N σ' i x := { h with kid := fun k hk => by rw [e1, e2]; exact h.kid k hk }
theorem strOk_nil : PyData.strOk ("" : Str) = true := by decide +kernel
theorem strOk_append {x y : Str} (h : PyData.strOk x = true) (g : PyData.strOk y = true) : PyData.strOk (x ++ y) = true := by
  show (x.cps ++ y.cps).all _ = true
  rw [Array.all_append, Bool.and_eq_true]
  exact ⟨h, g⟩
theorem WF.err {N E : Nat} {σ : St} (w : WF N E σ) {v : V} (hv : ErrOK v) : WF N (E + 1) (errN σ v) :=
  { er := fun u hu => by
      rcases List.mem_append.mp hu with hu | hu
      · exact w.er u hu
      · rw [List.mem_singleton.mp hu]; exact hv
    md := w.md, zn := w.zn, zs := w.zs, ze := by show (σ.errs ++ [v]).length ≤ E + 1; have := w.ze; simp; omega, nd := fun i x h => (w.nd i x h).of rfl rfl, doc := w.doc, stk := w.stk, ctx := w.ctx }
theorem WF.mode {N E : Nat} {σ : St} (w : WF N E σ) {m : Str} (hm : m ∈ modesL) : WF N E { σ with mode := m } :=
  { er := w.er, md := hm, zn := w.zn, zs := w.zs, ze := w.ze, nd := fun i x h => (w.nd i x h).of rfl rfl, doc := w.doc, stk := w.stk, ctx := w.ctx }
theorem WF.ack {N E : Nat} {σ : St} (w : WF N E σ) (m : Bool) : WF N E { σ with ack := m } :=
  { er := w.er, md := w.md, zn := w.zn, zs := w.zs, ze := w.ze, nd := fun i x h => (w.nd i x h).of rfl rfl, doc := w.doc, stk := w.stk, ctx := w.ctx }
theorem WF.stk' {N E : Nat} {σ : St} (w : WF N E σ) {l : List Nat} (h : ∀ i ∈ l, i ∈ σ.stack) (hl : l.length ≤ N) (dn : Bool) : WF N E { σ with stack := l, done := dn } :=
  { er := w.er, md := w.md, zn := w.zn, zs := hl, ze := w.ze, nd := fun i x h => (w.nd i x h).of rfl rfl, doc := w.doc, stk := fun i hi => w.stk i (h i hi), ctx := w.ctx }
theorem WF.stop {N E : Nat} {σ : St} (w : WF N E σ) : WF N E (stopN σ) := w.stk' (l := []) (fun _ h => nomatch h) (Nat.zero_le _) true
theorem insN_old {σ : St} {nd : Nd} {p i : Nat} {x : Nd} (h : σ.nodes[i]? = some x) : ∃ ks, (insN σ nd p).nodes[i]? = some { x with kids := ks } := by
  rw [insN_get, if_pos (lt_of_get h)]
  split
  · rw [h]; exact ⟨_, rfl⟩
  · rw [h]; exact ⟨x.kids, rfl⟩
theorem WF.ins {N E : Nat} {σ : St} (w : WF N E σ) {nd : Nd} {p : Nat} {x : Nd} (hp : σ.nodes[p]? = some x) (h1 : nd.kids = []) (h2 : nd.text.length ≤ N + 1) (h3 : nd.attrs = [] ∨ ∃ a, nd.attrs = tAttrs a ∧ PyData.strOk a = true) (h5 : PyData.strOk nd.text = true) (h6 : PyData.strOk nd.name = true) (h4 : nd.kind = "element" ∨ nd.kind = "text" ∨ nd.kind = "comment") : WF (N + 1) E (insN σ nd p) where
  zn := by have := w.zn; rw [insN_len]; omega
  zs := Nat.le_succ_of_le w.zs
  ze := w.ze
  er := w.er
  md := w.md
  nd i y hy := by
    have hpl := lt_of_get hp
    have hc : (σ.nodes.length : Int) ≠ σ.ctx := by
      rcases w.ctx with e | ⟨c, z, e, hz, _⟩
      · rw [e]; omega
      · have := lt_of_get hz; omega
    rw [insN_get] at hy
    split at hy
    · rename_i hi
      split at hy
      · rename_i e
        subst e
        rw [hp] at hy; cases hy
        have o := w.nd p x hp
        refine { p1 := o.p1, p2 := o.p2, kl := ?_, tl := Nat.le_succ_of_le o.tl, so := o.so, sn := o.sn, ao := o.ao, nod := ?_, kid := ?_ }
        · show (x.kids ++ [_]).length ≤ _; have := o.kl; simp; omega
        · show (x.kids ++ [_]).Nodup
          rw [List.nodup_append]
          refine ⟨o.nod, by simp, fun a ha b hb => ?_⟩
          rw [List.mem_singleton.mp hb]
          obtain ⟨z, hz, _⟩ := o.kid a ha
          have := lt_of_get hz
          omega
        · intro k hk
          rcases List.mem_append.mp hk with hk | hk
          · obtain ⟨z, hz, z1, z2, z3⟩ := o.kid k hk
            obtain ⟨ks, g⟩ := insN_old (nd := nd) (p := p) hz
            exact ⟨_, g, z1, z2, z3⟩
          · rw [List.mem_singleton.mp hk]
            exact ⟨_, insN_new, rfl, hc, h4⟩
      · have o := w.nd i y hy
        refine { p1 := o.p1, p2 := o.p2, kl := Nat.le_succ_of_le o.kl, tl := Nat.le_succ_of_le o.tl, so := o.so, sn := o.sn, ao := o.ao, nod := o.nod, kid := fun k hk => ?_ }
        obtain ⟨z, hz, z1, z2, z3⟩ := o.kid k hk
        obtain ⟨ks, g⟩ := insN_old (nd := nd) (p := p) hz
        exact ⟨_, g, z1, z2, z3⟩
    · split at hy
      · rename_i e
        subst e
        cases hy
        refine { p1 := by show (-1 : Int) ≤ (p : Int); omega, p2 := by show (p : Int) < _; omega, kl := by show nd.kids.length ≤ _; rw [h1]; simp, tl := h2, so := h5, sn := h6, ao := h3, nod := by show nd.kids.Nodup; rw [h1]; simp, kid := fun k hk => ?_ }
        have hk : k ∈ nd.kids := hk
        rw [h1] at hk; cases hk
      · cases hy
  doc := by
    obtain ⟨z, hz, a, b, c⟩ := w.doc
    obtain ⟨ks, g⟩ := insN_old (nd := nd) (p := p) hz
    exact ⟨_, g, a, b, c⟩
  stk i hi := by
    obtain ⟨z, hz, a⟩ := w.stk i hi
    obtain ⟨ks, g⟩ := insN_old (nd := nd) (p := p) hz
    exact ⟨_, g, a⟩
  ctx := by
    rcases w.ctx with e | ⟨c, z, e, hz, a⟩
    · exact .inl e
    · obtain ⟨ks, g⟩ := insN_old (nd := nd) (p := p) hz
      exact .inr ⟨c, _, e, g, a⟩
theorem WF.grow {N E : Nat} {σ : St} (w : WF N E σ) {n : Str} (hn : PyData.strOk n = true) {a : List V} (ha : a = [] ∨ ∃ b, a = tAttrs b ∧ PyData.strOk b = true) : WF (N + 1) E (growN σ n a) := by
  obtain ⟨x, hx, _⟩ := w.cur
  have w' := w.ins (nd := elN n a) hx rfl (Nat.zero_le _) ha strOk_nil hn (.inl rfl)
  refine { er := w'.er, md := w'.md, zn := w'.zn, zs := ?_, ze := w'.ze, nd := fun i x h => (w'.nd i x h).of rfl rfl, doc := w'.doc, stk := fun i hi => ?_, ctx := w'.ctx }
  · show (σ.stack ++ [_]).length ≤ _; have := w.zs; simp; omega
  · rcases List.mem_append.mp hi with hi | hi
    · exact w'.stk i hi
    · rw [List.mem_singleton.mp hi]
      refine ⟨_, insN_new, rfl, rfl, ?_⟩
      show (σ.nodes.length : Int) ≠ σ.ctx
      rcases w.ctx with e | ⟨c, z, e, hz, _⟩
      · rw [e]; omega
      · have := lt_of_get hz; omega
theorem setText_get {σ : St} {k i : Nat} {c : Str} : (setText σ k c).nodes[i]? = if k = i then σ.nodes[i]?.map (fun x => { x with text := x.text ++ c }) else σ.nodes[i]? := by
  show (σ.nodes.modify k _)[i]? = _
  rw [List.getElem?_modify]
  split
  · rfl
  · cases σ.nodes[i]? <;> rfl
theorem setText_old {σ : St} {k i : Nat} {c : Str} {x : Nd} (h : σ.nodes[i]? = some x) : ∃ t, (setText σ k c).nodes[i]? = some { x with text := t } ∧ t.length ≤ x.text.length + c.length ∧ (PyData.strOk x.text = true → PyData.strOk c = true → PyData.strOk t = true) := by
  rw [setText_get, h]
  split
  · exact ⟨_, rfl, by rw [str_len]; omega, fun h hc => strOk_append h hc⟩
  · exact ⟨x.text, rfl, by omega, fun h _ => h⟩
theorem WF.setText {N E : Nat} {σ : St} (w : WF N E σ) (k : Nat) {c : Str} (hc : c.length ≤ 1) (ho : PyData.strOk c = true) : WF (N + 1) E (setText σ k c) where
  zn := by have := w.zn; show (σ.nodes.modify k _).length ≤ _; simp; omega
  zs := Nat.le_succ_of_le w.zs
  ze := w.ze
  er := w.er
  md := w.md
  nd i y hy := by
    cases q : σ.nodes[i]? with
    | none => rw [setText_get, q] at hy; simp at hy
    | some x =>
      obtain ⟨t, g, ht, hs⟩ := setText_old (k := k) (c := c) q
      rw [g] at hy; cases hy
      have o := w.nd i x q
      refine { p1 := o.p1, p2 := o.p2, kl := Nat.le_succ_of_le o.kl, tl := ?_, so := hs o.so ho, sn := o.sn, ao := o.ao, nod := o.nod, kid := fun j hj => ?_ }
      · have := o.tl; show t.length ≤ _; omega
      · obtain ⟨z, hz, z1⟩ := o.kid j hj
        obtain ⟨t, g, _⟩ := setText_old (k := k) (c := c) hz
        exact ⟨_, g, z1⟩
  doc := by
    obtain ⟨z, hz, a⟩ := w.doc
    obtain ⟨t, g, _⟩ := setText_old (k := k) (c := c) hz
    exact ⟨_, g, a⟩
  stk i hi := by
    obtain ⟨z, hz, a⟩ := w.stk i hi
    obtain ⟨t, g, _⟩ := setText_old (k := k) (c := c) hz
    exact ⟨_, g, a⟩
  ctx := by
    rcases w.ctx with e | ⟨j, z, e, hz, a⟩
    · exact .inl e
    · obtain ⟨t, g, _⟩ := setText_old (k := k) (c := c) hz
      exact .inr ⟨j, _, e, g, a⟩
noncomputable def sigN (σ : St) (c : Str) : St := match σ.nodes[curP σ.stack]? with
  | some x => signN σ (curP σ.stack) x c
  | none => σ
theorem WF.sign {N E : Nat} {σ : St} (w : WF N E σ) {c : Str} (hc : c.length ≤ 1) (ho : PyData.strOk c = true) : WF (N + 1) E (sigN σ c) := by
  obtain ⟨x, hx, _⟩ := w.cur
  have i := w.ins (nd := txtN c) hx rfl (by show c.length ≤ _; omega) (.inl rfl) ho strOk_nil (.inr (.inl rfl))
  unfold sigN
  rw [hx]
  show WF _ _ (signN _ _ _ _)
  unfold signN
  split
  · split
    · split
      · exact w.setText _ hc ho
      · exact i
    · exact i
  · exact i
noncomputable def startsL : List Str := ["frameset", "frame", "html", "noframes", "p", "head"]
noncomputable def endsL : List Str := ["frameset", "html", "p", "body", "frame", "noframes"]
noncomputable def signsL : List Str := [" ", "x", "\n", "\t", "\x0c", "\x0d", "\x00", "\u00a0", "\x0b"]
noncomputable def Tk.ok : Tk → Prop
  | .start n a _ => n ∈ startsL ∧ PyData.strOk a = true
  | .fin n => n ∈ endsL
  | .ch c => c ∈ signsL
  | .com t => PyData.strOk t = true ∧ t.length ≤ 5
  | _ => True
theorem all_of {α : Type} {l : List α} {p : α → Bool} (h : l.all p = true) {x : α} (hx : x ∈ l) : p x = true := List.all_eq_true.mp h x hx
theorem start_ok {n : Str} (h : n ∈ startsL) : PyData.strOk n = true ∧ n ≠ "template" := by
  have := all_of (p := fun n => PyData.strOk n && n != "template") (by decide +kernel : startsL.all _ = true) h
  simp only [Bool.and_eq_true, bne_iff_ne] at this
  exact this
theorem end_ok {n : Str} (h : n ∈ endsL) : PyData.strOk n = true := all_of (p := fun n => PyData.strOk n) (by decide +kernel) h
theorem mode_ok {n : Str} (h : n ∈ modesL) : PyData.strOk n = true := all_of (p := fun n => PyData.strOk n) (by decide +kernel) h
theorem sign_ok {n : Str} (h : n ∈ signsL) : PyData.strOk n = true ∧ n.length ≤ 1 := by
  have := all_of (p := fun n => PyData.strOk n && decide (n.length ≤ 1)) (by decide +kernel : signsL.all _ = true) h
  simp only [Bool.and_eq_true, decide_eq_true_eq] at this
  exact this
theorem ErrOK.pair {a b : Str} (ha : PyData.strOk a = true) (hb : PyData.strOk b = true) : ErrOK (.tup [.str a, .str b]) :=
  ⟨.tuple [.str a, .str b], fun _ => .tup (.cons (.str _) (.cons (.str _) .nil)), by simp [PyData.canLay0, PyData.canLayAll0, ha, hb], by simp [PyData.depth, PyData.depthAll]⟩
theorem tk_data {t : Tk} (ht : t.ok) : ∃ dt : PyData, (∀ H, DV H (tkV t) dt) ∧ dt.canLay0 = true ∧ dt.depth ≤ 4 := by
  have k : ∀ x : Str, PyData.strOk x = true → (PyData.str x).canLay0 = true := fun x h => by simp [PyData.canLay0, h]
  have c : ∀ s : String, PyData.strOk (Str.ofString s) = true → PyData.strOk (Str.ofString s) = true := fun _ h => h
  cases t with
  | start n a s =>
    refine ⟨.tuple [.str "start", .str n, .tuple [.tuple [.str "n", .str a]], .bool s], fun _ => .tup (.cons (.str _) (.cons (.str _) (.cons (.tup (.cons (.tup (.cons (.str _) (.cons (.str _) .nil))) .nil)) (.cons (.bool _) .nil)))), ?_, by simp [PyData.depth, PyData.depthAll]⟩
    simp [PyData.canLay0, PyData.canLayAll0, (start_ok ht.1).1, ht.2]
    decide +kernel
  | fin n =>
    refine ⟨.tuple [.str "end", .str n, .tuple [], .bool false], fun _ => .tup (.cons (.str _) (.cons (.str _) (.cons (.tup .nil) (.cons (.bool _) .nil)))), ?_, by simp [PyData.depth, PyData.depthAll]⟩
    simp [PyData.canLay0, PyData.canLayAll0, end_ok ht]
    decide +kernel
  | ch n =>
    refine ⟨.tuple [.str "char", .str n], fun _ => .tup (.cons (.str _) (.cons (.str _) .nil)), ?_, by simp [PyData.depth, PyData.depthAll]⟩
    simp [PyData.canLay0, PyData.canLayAll0, (sign_ok ht).1]
    decide +kernel
  | com n =>
    refine ⟨.tuple [.str "comment", .str n], fun _ => .tup (.cons (.str _) (.cons (.str _) .nil)), ?_, by simp [PyData.depth, PyData.depthAll]⟩
    simp [PyData.canLay0, PyData.canLayAll0, ht.1]
    decide +kernel
  | doc => exact ⟨.tuple [.str "doctype", .str "html", .none, .none, .bool false], fun _ => .tup (.cons (.str _) (.cons (.str _) (.cons .none (.cons .none (.cons (.bool _) .nil))))), by decide +kernel, by simp [PyData.depth, PyData.depthAll]⟩
  | eof => exact ⟨.tuple [.str "eof"], fun _ => .tup (.cons (.str _) .nil), by decide +kernel, by simp [PyData.depth, PyData.depthAll]⟩
theorem ErrOK.tok {a : Str} (ha : PyData.strOk a = true) {t : Tk} (ht : t.ok) : ErrOK (.tup [.str a, tkV t]) := by
  obtain ⟨dt, h1, h2, h3⟩ := tk_data ht
  refine ⟨.tuple [.str a, dt], fun H => .tup (.cons (.str _) (.cons (h1 H) .nil)), by simp [PyData.canLay0, PyData.canLayAll0, ha, h2], ?_⟩
  simp only [PyData.depth, PyData.depthAll]; omega
theorem word_ok (t : Tk) : PyData.strOk t.word = true := by cases t <;> simp only [Tk.word] <;> decide +kernel
theorem WF.ref {N E : Nat} {σ : St} (w : WF N E σ) (t : Tk) : WF N (E + 1) (refN σ t) := w.err (.pair (word_ok t) (mode_ok w.md))
noncomputable def curName (σ : St) : Str := match σ.nodes[curP σ.stack]? with
  | some x => x.name
  | none => ""
noncomputable def popN (σ : St) : St := { σ with stack := σ.stack.dropLast }
noncomputable def abhN (σ : St) (t : Tk) : St := if (σ.ctx != -1) = true then refN σ t else { σ with mode := "after after body" }
noncomputable def bodyN1 (σ : St) : Tk → St
  | .ch c => sigN σ c
  | .eof => stopN σ
  | .start n a _ => if n = "p" then growN σ "p" (tAttrs a) else σ
  | .fin n => if n = "p" then (if curName σ = "p" then popN σ else σ) else if n = "body" then { σ with mode := "after body" } else if n = "html" then abhN { σ with mode := "after body" } (.fin n) else σ
  | _ => σ
noncomputable def noteN (σ : St) (a : Str) (t : Tk) : St := errN σ (.tup [.str a, tkV t])
noncomputable def bodyN (σ : St) (t : Tk) : St := bodyN1 (noteN σ σ.mode t) t
noncomputable def headN (σ : St) (t : Tk) : St := match t with
  | .start n a _ => insN (noteN σ "head" t) (elN n (tAttrs a)) (curP σ.stack)
  | _ => σ
theorem WF.note {N E : Nat} {σ : St} (w : WF N E σ) {a : Str} (ha : PyData.strOk a = true) {t : Tk} (ht : t.ok) : WF N (E + 1) (noteN σ a t) := w.err (.tok ha ht)
theorem WF.abh {N E : Nat} {σ : St} (w : WF N E σ) (t : Tk) : WF N (E + 1) (abhN σ t) := by
  unfold abhN
  split
  · exact w.ref t
  · exact (w.mode (m := "after after body") (by decide +kernel)).mono (Nat.le_refl _) (Nat.le_succ _)
theorem WF.popN {N E : Nat} {σ : St} (w : WF N E σ) : WF N E (popN σ) := by
  have := w.stk' (l := σ.stack.dropLast) (fun i hi => (List.dropLast_sublist _).subset hi) (by have := w.zs; simp; omega) σ.done
  exact this
theorem WF.body1 {N E : Nat} {σ : St} (w : WF N E σ) {t : Tk} (ht : t.ok) : WF (N + 1) (E + 1) (bodyN1 σ t) := by
  cases t with
  | ch c => exact (w.sign (sign_ok ht).2 (sign_ok ht).1).mono (Nat.le_refl _) (Nat.le_succ _)
  | eof => exact w.stop.mono (Nat.le_succ _) (Nat.le_succ _)
  | start n a s =>
    show WF _ _ (if _ then _ else _)
    split
    · exact (w.grow (n := "p") (by decide +kernel) (.inr ⟨a, rfl, ht.2⟩)).mono (Nat.le_refl _) (Nat.le_succ _)
    · exact w.mono (Nat.le_succ _) (Nat.le_succ _)
  | fin n =>
    show WF _ _ (if _ then (if _ then _ else _) else if _ then _ else if _ then _ else _)
    split
    · split
      · exact w.popN.mono (Nat.le_succ _) (Nat.le_succ _)
      · exact w.mono (Nat.le_succ _) (Nat.le_succ _)
    · split
      · exact (w.mode (m := "after body") (by decide +kernel)).mono (Nat.le_succ _) (Nat.le_succ _)
      · split
        · exact ((w.mode (m := "after body") (by decide +kernel)).abh _).mono (Nat.le_succ _) (Nat.le_refl _)
        · exact w.mono (Nat.le_succ _) (Nat.le_succ _)
  | com t => exact w.mono (Nat.le_succ _) (Nat.le_succ _)
  | doc => exact w.mono (Nat.le_succ _) (Nat.le_succ _)
theorem WF.body {N E : Nat} {σ : St} (w : WF N E σ) {t : Tk} (ht : t.ok) : WF (N + 1) (E + 2) (bodyN σ t) := (w.note (mode_ok w.md) ht).body1 ht
theorem WF.head {N E : Nat} {σ : St} (w : WF N E σ) {t : Tk} (ht : t.ok) : WF (N + 1) (E + 1) (headN σ t) := by
  cases t with
  | start n a s =>
    obtain ⟨x, hx, _⟩ := w.cur
    exact (w.note (a := "head") (by decide +kernel) (t := .start n a s) ht).ins (nd := elN n (tAttrs a)) hx rfl (Nat.zero_le _) (.inr ⟨a, rfl, ht.2⟩) strOk_nil (start_ok ht.1).1 (.inl rfl)
  | _ => exact w.mono (Nat.le_succ _) (Nat.le_succ _)
section
variable {M : Amb} {d : Nat} {cl : List (Str × Loc)} {ml : List (Str × V)} {H : MH}
theorem w_sign (hpu : M.pu = false) (F : Facts M.K) {N E : Nat} {σ : St} (hB : BH H σ) (w : WF N E σ) (hN : N ≤ 800) (hne : σ.stack ≠ []) {c : Str} (hc : c.length ≤ 10) {Q : V → MH → Prop}
    (h : ∀ H', BH H' (sigN σ c) → Keep Loc.isB H H' → Q .none H') : CALL M (d + 3) cl ml H 529 [.cell .builder, .str c] Q := by
  have h1 := w.zn
  have h2 := w.zs
  obtain ⟨x, hx, hkl, hk, _⟩ := w.cur' hne
  have e : sigN σ c = signN σ (curP σ.stack) x c := by unfold sigN; rw [hx]
  rw [e] at h
  refine w_insert_sign hpu F hB (by omega) (by omega) w.par hx (by omega) (by rw [hk]; decide) (fun k hk => ?_) hc (fun i y hy => ?_) h
  · obtain ⟨y, hy, _⟩ := (w.nd _ _ hx).kid k hk; exact ⟨y, hy⟩
  · have := (w.nd i y hy).tl; omega
theorem w_abh (hpu : M.pu = false) (F : Facts M.K) {N E : Nat} {σ : St} (hB : BH H σ) (w : WF N E σ) (hN : N ≤ 800) (hE : E ≤ 800) {Q : V → MH → Prop}
    (h : ∀ H', BH H' (abhN σ (.fin "html")) → Keep Loc.isB H H' → Q .none H') : CALL M (d + 6) cl ml H 617 [.cell .builder, tkV (.fin "html")] Q := by
  refine CALL_go (at_after_body F) b_after_body rfl rfl rfl ?_
  have h3 := w.ze
  unfold abhN at h
  walk_at "m.run"
  refine w_is_space_token F ?_
  walk_at "m.run"
  refine w_is_start_of F ?_
  simp only [tkV]
  walk_at "m.run"
  refine w_is_end_of (t := .fin "html") F ?_
  walk_at "m.run"
  by_cases e : (σ.ctx != -1) = true
  · rw [if_pos e] at h
    walk_at "m.run"
    refine w_refuse (t := .fin "html") hpu F hB (by omega) fun H1 hB1 k1 => ?_
    walk_at "m.run"
    exact h H1 hB1 k1
  · rw [if_neg e] at h
    walk_at "m.run"
    refine w_to hpu F hB fun H1 hB1 k1 => ?_
    walk_at "m.run"
    exact h H1 hB1 k1
end
theorem getLast_dropLast {l : List Nat} (h : l ≠ []) : ∃ n, l = l.dropLast ++ [n] := ⟨l.getLast h, (List.dropLast_concat_getLast h).symm⟩
section
variable {M : Amb} {d : Nat} {cl : List (Str × Loc)} {ml : List (Str × V)} {H : MH}
theorem w_law_body (hpu : M.pu = false) (F : Facts M.K) {N E : Nat} {σ : St} (hB : BH H σ) (w : WF N E σ) (hN : N ≤ 790) (hE : E ≤ 790) (hne : σ.stack ≠ []) {t : Tk} (ht : t.ok) {Q : V → MH → Prop}
    (h : ∀ H', BH H' (bodyN σ t) → Keep Loc.isB H H' → Q .none H') : CALL M (d + 9) cl ml H 708 [.cell .builder, tkV t] Q := by
  refine CALL_go (at_law_body F) b_law_body rfl rfl rfl ?_
  have h3 := w.ze
  have h1 := w.zn
  have h2 := w.zs
  have w1 := w.note (mode_ok w.md) ht
  have hB1 : BH (H.put .errors (.list (σ.errs ++ [.tup [.str σ.mode, tkV t]]))) (noteN σ σ.mode t) := hB.errs _
  have k1 : Keep Loc.isB H (H.put .errors (.list (σ.errs ++ [.tup [.str σ.mode, tkV t]]))) := Keep.put rfl
  walk_at "m.run"
  generalize H.put .errors (.list (σ.errs ++ [.tup [.str σ.mode, tkV t]])) = H1 at *
  cases t with
  | ch c =>
    simp only [tkV]
    walk_at "m.run"
    refine w_sign hpu F hB1 w1 (by omega) hne (by have := (sign_ok ht).2; omega) fun H2 hB2 k2 => ?_
    walk_at "m.run"
    exact h H2 hB2 (k1.trans k2)
  | eof =>
    simp only [tkV]
    walk_at "m.run"
    refine w_finish hpu F hB1 (by show σ.stack.length ≤ 900; omega) fun H2 hB2 k2 => ?_
    walk_at "m.run"
    exact h H2 hB2 (k1.trans k2)
  | start n a s =>
    simp only [tkV]
    have hno := (start_ok ht.1).1
    walk_at "m.run"
    by_cases e : n = "p"
    · have hq : bodyN σ (.start n a s) = growN (noteN σ σ.mode (.start n a s)) "p" (tAttrs a) := if_pos e
      rw [hq] at h
      obtain ⟨x, hx, hkl⟩ := w1.cur
      walk_at "m.run"
      refine w_insert_element3 hpu F hB1 (by have := w1.zn; omega) (by have := w1.zs; omega) w1.par hx (by omega) (by decide) (Nat.le_of_ble_eq_true rfl) fun H2 hB2 k2 => ?_
      walk_at "m.run"
      exact h H2 hB2 (k1.trans k2)
    · have hq : bodyN σ (.start n a s) = noteN σ σ.mode (.start n a s) := if_neg e
      rw [hq] at h
      walk_at "m.run"
      exact h H1 hB1 k1
  | fin n =>
    simp only [tkV]
    have hno := end_ok ht
    walk_at "m.run"
    by_cases e : n = "p"
    · have hq : bodyN σ (.fin n) = if curName (noteN σ σ.mode (.fin n)) = "p" then popN (noteN σ σ.mode (.fin n)) else noteN σ σ.mode (.fin n) := if_pos e
      rw [hq] at h
      obtain ⟨x, hx, hkl, _, hs, _, l, hl⟩ := w1.cur' hne
      have hcn : curName (noteN σ σ.mode (.fin n)) = x.name := by unfold curName; rw [hx]
      rw [hcn] at h
      walk_at "m.run"
      refine w_name F hB1 (by have := w1.zs; omega) (by have := w1.zn; omega) hl hx hs ?_
      walk_at "m.run"
      by_cases e2 : x.name = "p"
      · rw [if_pos e2] at h
        walk_at "m.run"
        refine w_pop hpu F hB1 (by have := w1.zs; omega) hl fun H2 hB2 k2 => ?_
        walk_at "m.run"
        refine h H2 ?_ (k1.trans k2)
        have e3 : popN (noteN σ σ.mode (.fin n)) = { noteN σ σ.mode (.fin n) with stack := l } := by unfold popN; rw [hl, List.dropLast_concat]
        rw [e3]; exact hB2
      · rw [if_neg e2] at h
        walk_at "m.run"
        exact h H1 hB1 k1
    · walk_at "m.run"
      by_cases e2 : n = "body"
      · have hq : bodyN σ (.fin n) = { noteN σ σ.mode (.fin n) with mode := "after body" } := (if_neg e).trans (if_pos e2)
        rw [hq] at h
        walk_at "m.run"
        refine w_to hpu F hB1 fun H2 hB2 k2 => ?_
        walk_at "m.run"
        exact h H2 hB2 (k1.trans k2)
      · walk_at "m.run"
        by_cases e3 : n = "html"
        · subst e3
          have hq : bodyN σ (.fin "html") = abhN { noteN σ σ.mode (.fin "html") with mode := "after body" } (.fin "html") := by unfold bodyN bodyN1; dsimp only; rw [if_neg e, if_neg e2, if_pos rfl]
          rw [hq] at h
          walk_at "m.run"
          refine w_to hpu F hB1 fun H2 hB2 k2 => ?_
          walk_at "m.run"
          have w2 := w1.mode (m := "after body") (by decide +kernel)
          refine w_process (t := .fin "html") (a := 617) F hB2 w2 (by omega) rfl (Facts.kp F rfl) fun cl ml => ?_
          refine w_abh hpu F hB2 w2 (by omega) (by omega) fun H3 hB3 k3 => ?_
          walk_at "m.run"
          exact h H3 hB3 ((k1.trans k2).trans k3)
        · have hq : bodyN σ (.fin n) = noteN σ σ.mode (.fin n) := (if_neg e).trans ((if_neg e2).trans (if_neg e3))
          rw [hq] at h
          walk_at "m.run"
          exact h H1 hB1 k1
  | com c =>
    simp only [tkV]
    have hno := ht.1
    walk_at "m.run"
    exact h H1 hB1 k1
  | doc =>
    simp only [tkV]
    walk_at "m.run"
    exact h H1 hB1 k1
theorem w_law_head (hpu : M.pu = false) (F : Facts M.K) {N E : Nat} {σ : St} (hB : BH H σ) (w : WF N E σ) (hN : N ≤ 790) (hE : E ≤ 790) {n a : Str} {s : Bool} (ht : (Tk.start n a s).ok) {Q : V → MH → Prop}
    (h : ∀ H', BH H' (headN σ (.start n a s)) → Keep Loc.isB H H' → Q .none H') : CALL M (d + 9) cl ml H 715 [.cell .builder, tkV (.start n a s)] Q := by
  refine CALL_go (at_law_head F) b_law_head rfl rfl rfl ?_
  have h3 := w.ze
  have h1 := w.zn
  have h2 := w.zs
  have w1 := w.note (a := "head") (by decide +kernel) ht
  have hB1 : BH (H.put .errors (.list (σ.errs ++ [.tup [.str "head", tkV (.start n a s)]]))) (noteN σ "head" (.start n a s)) := hB.errs _
  have k1 : Keep Loc.isB H (H.put .errors (.list (σ.errs ++ [.tup [.str "head", tkV (.start n a s)]]))) := Keep.put rfl
  simp only [tkV] at hB1 k1 ⊢
  walk_at "m.run"
  generalize H.put .errors (.list (σ.errs ++ [.tup [.str "head", .tup [.str "start", .str n, .tup (tAttrs a), .bool s]]])) = H1 at *
  obtain ⟨x, hx, hkl⟩ := w1.cur
  refine w_insert_element3 hpu F hB1 (by have := w1.zn; omega) (by have := w1.zs; omega) w1.par hx (by omega) (start_ok ht.1).2 (Nat.le_of_ble_eq_true rfl) fun H2 hB2 k2 => ?_
  walk_at "m.run"
  refine w_pop hpu F hB2 (by show (σ.stack ++ [_]).length ≤ 900; simp; omega) rfl fun H3 hB3 k3 => ?_
  walk_at "m.run"
  exact h H3 hB3 ((k1.trans k2).trans k3)
end
noncomputable def backN (σ : St) (t : Tk) : St := bodyN { refN σ t with mode := "in body" } t
noncomputable def afterBodyN (σ : St) : Tk → St
  | .ch c => if spaces.any (· == c) = true then bodyN σ (.ch c) else backN σ (.ch c)
  | .start n a s => if n = "html" then bodyN σ (.start n a s) else backN σ (.start n a s)
  | .com c => insN σ (comN c) (σ.stack.headD 0)
  | .doc => refN σ .doc
  | .eof => stopN σ
  | .fin n => if n = "html" then abhN σ (.fin n) else backN σ (.fin n)
noncomputable def leaveN (σ : St) (t : Tk) : St :=
  if decide ((σ.stack.length : Int) ≤ 1) = true then refN σ t
  else if (σ.ctx == -1) = true then (if (curName (popN σ) != "frameset") = true then { popN σ with mode := "after frameset" } else popN σ) else popN σ
noncomputable def inFramesetN (σ : St) : Tk → St
  | .ch c => if spaces.any (· == c) = true then sigN σ c else refN σ (.ch c)
  | .com c => insN σ (comN c) (curP σ.stack)
  | .start n a s => if n = "html" then bodyN σ (.start n a s) else if n = "frameset" then growN σ n (tAttrs a) else if n = "frame" then voidN σ n (tAttrs a) else if n = "noframes" then headN σ (.start n a s) else refN σ (.start n a s)
  | .fin n => if n = "frameset" then leaveN σ (.fin n) else refN σ (.fin n)
  | .eof => if decide ((σ.stack.length : Int) ≤ 1) = true then stopN σ else stopN (errN σ (.tup [.str "open-elements", .str σ.mode]))
  | .doc => refN σ .doc
noncomputable def afterFramesetN (σ : St) : Tk → St
  | .ch c => if spaces.any (· == c) = true then sigN σ c else refN σ (.ch c)
  | .com c => insN σ (comN c) (curP σ.stack)
  | .start n a s => if n = "html" then bodyN σ (.start n a s) else if n = "noframes" then headN σ (.start n a s) else refN σ (.start n a s)
  | .fin n => if n = "html" then { σ with mode := "after after frameset" } else refN σ (.fin n)
  | .eof => stopN σ
  | .doc => refN σ .doc
noncomputable def afterAfterBodyN (σ : St) : Tk → St
  | .ch c => if spaces.any (· == c) = true then bodyN σ (.ch c) else backN σ (.ch c)
  | .com c => insN σ (comN c) 0
  | .start n a s => if n = "html" then bodyN σ (.start n a s) else backN σ (.start n a s)
  | .fin n => backN σ (.fin n)
  | .eof => stopN σ
  | .doc => bodyN σ .doc
noncomputable def afterAfterFramesetN (σ : St) : Tk → St
  | .ch c => if spaces.any (· == c) = true then bodyN σ (.ch c) else refN σ (.ch c)
  | .com c => insN σ (comN c) 0
  | .start n a s => if n = "html" then bodyN σ (.start n a s) else if n = "noframes" then headN σ (.start n a s) else refN σ (.start n a s)
  | .fin n => refN σ (.fin n)
  | .eof => stopN σ
  | .doc => bodyN σ .doc
noncomputable def runN (σ : St) (t : Tk) : St :=
  if σ.mode = "after body" then afterBodyN σ t
  else if σ.mode = "in frameset" then inFramesetN σ t
  else if σ.mode = "after frameset" then afterFramesetN σ t
  else if σ.mode = "after after body" then afterAfterBodyN σ t
  else if σ.mode = "after after frameset" then afterAfterFramesetN σ t
  else bodyN σ t
section
variable {N E : Nat} {σ : St}
theorem WF.com (w : WF N E σ) (hN : 5 ≤ N) {p : Nat} {x : Nd} (hp : σ.nodes[p]? = some x) {c : Str} (hc : (Tk.com c).ok) : WF (N + 1) E (insN σ (comN c) p) :=
  w.ins (nd := comN c) hp rfl (by have := hc.2; show c.length ≤ _; omega) (.inl rfl) hc.1 strOk_nil (.inr (.inr rfl))
theorem WF.void (w : WF N E σ) {n : Str} (hn : PyData.strOk n = true) {a : Str} (ha : PyData.strOk a = true) : WF (N + 1) E (voidN σ n (tAttrs a)) := by
  obtain ⟨x, hx, _⟩ := w.cur
  exact (w.ins (nd := elN n (tAttrs a)) hx rfl (Nat.zero_le _) (.inr ⟨a, rfl, ha⟩) strOk_nil hn (.inl rfl)).ack true
theorem WF.back (w : WF N E σ) {t : Tk} (ht : t.ok) : WF (N + 1) (E + 3) (backN σ t) := ((w.ref t).mode (m := "in body") (by decide +kernel)).body ht
theorem WF.leave (w : WF N E σ) (t : Tk) : WF N (E + 1) (leaveN σ t) := by
  unfold leaveN
  split
  · exact w.ref t
  · split
    · split
      · exact (w.popN.mode (m := "after frameset") (by decide +kernel)).mono (Nat.le_refl _) (Nat.le_succ _)
      · exact w.popN.mono (Nat.le_refl _) (Nat.le_succ _)
    · exact w.popN.mono (Nat.le_refl _) (Nat.le_succ _)
theorem WF.head0 (w : WF N E σ) (hne : σ.stack ≠ []) : ∃ x : Nd, σ.nodes[σ.stack.headD 0]? = some x ∧ x.kids.length ≤ N := by
  cases e : σ.stack with
  | nil => exact absurd e hne
  | cons i r =>
    obtain ⟨x, hx, _⟩ := w.stk i (by rw [e]; exact .head _)
    exact ⟨x, hx, (w.nd _ _ hx).kl⟩
theorem WF.run (w : WF N E σ) (hN : 5 ≤ N) (hne : σ.stack ≠ []) {t : Tk} (ht : t.ok) : WF (N + 1) (E + 3) (runN σ t) := by
  have e1 : ∀ {τ : St}, WF (N + 1) E τ → WF (N + 1) (E + 3) τ := fun h => h.mono (Nat.le_refl _) (by omega)
  have e2 : ∀ {τ : St}, WF N (E + 1) τ → WF (N + 1) (E + 3) τ := fun h => h.mono (by omega) (by omega)
  have e3 : ∀ {τ : St}, WF (N + 1) (E + 2) τ → WF (N + 1) (E + 3) τ := fun h => h.mono (Nat.le_refl _) (by omega)
  have e4 : ∀ {τ : St}, WF N E τ → WF (N + 1) (E + 3) τ := fun h => h.mono (by omega) (by omega)
  have e5 : ∀ {τ : St}, WF (N + 1) (E + 1) τ → WF (N + 1) (E + 3) τ := fun h => h.mono (by omega) (by omega)
  have eb := e3 (w.body ht)
  have ek := w.back ht
  have er := e2 (w.ref t)
  obtain ⟨xc, hxc, _⟩ := w.cur
  obtain ⟨xh, hxh, _⟩ := w.head0 hne
  obtain ⟨xd, hxd, _⟩ := w.doc
  unfold runN
  split
  · cases t <;> simp only [afterBodyN]
    · split <;> assumption
    · split
      · exact e5 ((w.abh _).mono (Nat.le_succ _) (Nat.le_refl _))
      · exact ek
    · split <;> assumption
    · exact e1 (w.com hN hxh ht)
    · exact er
    · exact e4 w.stop
  split
  · cases t <;> simp only [inFramesetN]
    · split
      · exact eb
      · split
        · exact e1 (w.grow (start_ok ht.1).1 (.inr ⟨_, rfl, ht.2⟩))
        · split
          · exact e1 (w.void (start_ok ht.1).1 ht.2)
          · split
            · exact e5 (w.head ht)
            · exact er
    · split
      · exact e2 (w.leave _)
      · exact er
    · split
      · exact e1 (w.sign (sign_ok ht).2 (sign_ok ht).1)
      · exact er
    · exact e1 (w.com hN hxc ht)
    · exact er
    · split
      · exact e4 w.stop
      · exact e2 (w.err (.pair (by decide +kernel) (mode_ok w.md))).stop
  split
  · cases t <;> simp only [afterFramesetN]
    · split
      · exact eb
      · split
        · exact e5 (w.head ht)
        · exact er
    · split
      · exact e4 (w.mode (by decide +kernel))
      · exact er
    · split
      · exact e1 (w.sign (sign_ok ht).2 (sign_ok ht).1)
      · exact er
    · exact e1 (w.com hN hxc ht)
    · exact er
    · exact e4 w.stop
  split
  · cases t <;> simp only [afterAfterBodyN]
    · split <;> assumption
    · exact ek
    · split <;> assumption
    · exact e1 (w.com hN hxd ht)
    · exact eb
    · exact e4 w.stop
  split
  · cases t <;> simp only [afterAfterFramesetN]
    · split
      · exact eb
      · split
        · exact e5 (w.head ht)
        · exact er
    · exact er
    · split <;> assumption
    · exact e1 (w.com hN hxd ht)
    · exact eb
    · exact e4 w.stop
  · exact eb
end
section
variable {M : Amb} {d : Nat} {cl : List (Str × Loc)} {ml : List (Str × V)} {H : MH}
variable (hpu : M.pu = false) (F : Facts M.K) {N E : Nat} {σ : St} (hB : BH H σ) (w : WF N E σ) (hN : N ≤ 700) (hE : E ≤ 700) (hne : σ.stack ≠ [])
include hpu F hB w hN hE hne
theorem w_use_body {t : Tk} (ht : t.ok) {Q : V → MH → Prop} (h : ∀ H', BH H' (bodyN σ t) → Keep Loc.isB H H' → Q .none H') : CALL M (d + 10) cl ml H 458 [.cell .builder, .str "in body", tkV t] Q := by
  refine w_use (name := "in body") (a := 708) F hB rfl (Facts.kp F rfl) fun cl ml => ?_
  exact w_law_body hpu F hB w (by omega) (by omega) hne ht h
theorem w_use_head {n a : Str} {s : Bool} (ht : (Tk.start n a s).ok) {Q : V → MH → Prop} (h : ∀ H', BH H' (headN σ (.start n a s)) → Keep Loc.isB H H' → Q .none H') : CALL M (d + 10) cl ml H 458 [.cell .builder, .str "in head", tkV (.start n a s)] Q := by
  refine w_use (name := "in head") (a := 715) F hB rfl (Facts.kp F rfl) fun cl ml => ?_
  exact w_law_head hpu F hB w (by omega) (by omega) ht h
theorem w_back {t : Tk} (ht : t.ok) {Q : V → MH → Prop} (h : ∀ H', BH H' (backN σ t) → Keep Loc.isB H H' → Q .none H') : CALL M (d + 12) cl ml H 610 [.cell .builder, tkV t] Q := by
  refine CALL_go (at_back_to_body F) b_back_to_body rfl rfl rfl ?_
  have h3 := w.ze
  walk_at "m.run"
  refine w_refuse hpu F hB (by omega) fun H1 hB1 k1 => ?_
  walk_at "m.run"
  refine w_to hpu F hB1 fun H2 hB2 k2 => ?_
  walk_at "m.run"
  have w2 := (w.ref t).mode (m := "in body") (by decide +kernel)
  refine w_process (a := 708) F hB2 w2 (by omega) rfl (Facts.kp F rfl) fun cl ml => ?_
  refine w_law_body hpu F hB2 w2 (by omega) (by omega) hne ht fun H3 hB3 k3 => ?_
  walk_at "m.run"
  exact h H3 hB3 ((k1.trans k2).trans k3)
theorem w_after_body {t : Tk} (ht : t.ok) {Q : V → MH → Prop} (h : ∀ H', BH H' (afterBodyN σ t) → Keep Loc.isB H H' → Q .none H') : CALL M (d + 13) cl ml H 617 [.cell .builder, tkV t] Q := by
  by_cases q : ∃ n, t = .fin n ∧ n = "html"
  · obtain ⟨_, rfl, rfl⟩ := q
    have hq : afterBodyN σ (.fin "html") = abhN σ (.fin "html") := by unfold afterBodyN; dsimp only; rw [if_pos rfl]
    rw [hq] at h
    exact w_abh hpu F hB w (by omega) (by omega) h
  refine CALL_go (at_after_body F) b_after_body rfl rfl rfl ?_
  have h1 := w.zn
  have h2 := w.zs
  have h3 := w.ze
  walk_at "m.run"
  refine w_is_space_token F ?_
  cases t with
  | ch c =>
    by_cases e : spaces.any (· == c) = true
    · have hq : afterBodyN σ (.ch c) = bodyN σ (.ch c) := if_pos e
      rw [hq] at h
      walk_at "m.run"
      refine w_use_body hpu F hB w hN hE hne ht fun H1 hB1 k1 => ?_
      walk_at "m.run"
      exact h H1 hB1 k1
    · have hq : afterBodyN σ (.ch c) = backN σ (.ch c) := if_neg e
      rw [hq] at h
      walk_at "m.run"
      refine w_is_start_of F ?_
      simp only [tkV]
      walk_at "m.run"
      refine w_is_end_of (t := .ch c) F ?_
      walk_at "m.run"
      refine w_back (t := .ch c) hpu F hB w hN hE hne ht fun H1 hB1 k1 => ?_
      walk_at "m.run"
      exact h H1 hB1 k1
  | start n a s =>
    walk_at "m.run"
    refine w_is_start_of F ?_
    by_cases e : n = "html"
    · have hq : afterBodyN σ (.start n a s) = bodyN σ (.start n a s) := if_pos e
      rw [hq] at h
      walk_at "m.run"
      refine w_use_body hpu F hB w hN hE hne ht fun H1 hB1 k1 => ?_
      walk_at "m.run"
      exact h H1 hB1 k1
    · have hq : afterBodyN σ (.start n a s) = backN σ (.start n a s) := if_neg e
      rw [hq] at h
      simp only [tkV]
      walk_at "m.run"
      refine w_is_end_of (t := .start n a s) F ?_
      walk_at "m.run"
      refine w_back (t := .start n a s) hpu F hB w hN hE hne ht fun H1 hB1 k1 => ?_
      walk_at "m.run"
      exact h H1 hB1 k1
  | fin n =>
    have e : n ≠ "html" := fun e => q ⟨n, rfl, e⟩
    have hq : afterBodyN σ (.fin n) = backN σ (.fin n) := if_neg e
    rw [hq] at h
    walk_at "m.run"
    refine w_is_start_of F ?_
    simp only [tkV]
    walk_at "m.run"
    refine w_is_end_of (t := .fin n) F ?_
    walk_at "m.run"
    refine w_back (t := .fin n) hpu F hB w hN hE hne ht fun H1 hB1 k1 => ?_
    walk_at "m.run"
    exact h H1 hB1 k1
  | com c =>
    walk_at "m.run"
    refine w_is_start_of F ?_
    simp only [tkV]
    walk_at "m.run"
    obtain ⟨x, hx, hxl⟩ := w.head0 hne
    have hit : σ.stack.map vi = vi (σ.stack.headD 0) :: (σ.stack.tail.map vi) := by
      cases q : σ.stack with
      | nil => exact absurd q hne
      | cons i r => rfl
    refine OP_item_list (x := vi (σ.stack.headD 0)) (by walk_at "m.cell") (by decide) (by decide) (by rw [hit]; rfl) (fun _ _ => rfl) ?_
    walk_at "m.run"
    refine w_insert_comment3 hpu F hB (by omega) w.par hx (by omega) fun H1 hB1 k1 => ?_
    walk_at "m.run"
    exact h H1 hB1 k1
  | doc =>
    walk_at "m.run"
    refine w_is_start_of F ?_
    simp only [tkV]
    walk_at "m.run"
    refine w_refuse (t := .doc) hpu F hB (by omega) fun H1 hB1 k1 => ?_
    walk_at "m.run"
    exact h H1 hB1 k1
  | eof =>
    walk_at "m.run"
    refine w_is_start_of F ?_
    simp only [tkV]
    walk_at "m.run"
    refine w_is_end_of (t := .eof) F ?_
    walk_at "m.run"
    refine w_finish hpu F hB (by omega) fun H1 hB1 k1 => ?_
    walk_at "m.run"
    exact h H1 hB1 k1
end
section
variable {M : Amb} {d : Nat} {cl : List (Str × Loc)} {ml : List (Str × V)} {H : MH}
variable (hpu : M.pu = false) (F : Facts M.K) {N E : Nat} {σ : St} (hB : BH H σ) (w : WF N E σ) (hN : N ≤ 700) (hE : E ≤ 700) (hne : σ.stack ≠ [])
include hpu F hB w hN hE hne
theorem w_close {t : Tk} {Q : V → MH → Prop} (h : ∀ H', BH H' (leaveN σ t) → Keep Loc.isB H H' → Q .none H') : CALL M (d + 3) cl ml H 631 [.cell .builder, tkV t] Q := by
  refine CALL_go (at_close_frameset F) b_close_frameset rfl rfl rfl ?_
  have h1 := w.zn
  have h2 := w.zs
  have h3 := w.ze
  unfold leaveN at h
  walk_at "m.run"
  refine w_is_at_root F hB (by omega) ?_
  by_cases e : decide ((σ.stack.length : Int) ≤ 1) = true
  · rw [if_pos e] at h
    walk_at "m.run"
    refine w_refuse hpu F hB (by omega) fun H1 hB1 k1 => ?_
    walk_at "m.run"
    exact h H1 hB1 k1
  · rw [if_neg e] at h
    walk_at "m.run"
    obtain ⟨n, hl⟩ := getLast_dropLast hne
    refine w_pop hpu F hB (by omega) hl fun H1 hB1 k1 => ?_
    walk_at "m.run"
    have hB1 : BH H1 (popN σ) := hB1
    by_cases e2 : (σ.ctx == -1) = true
    · rw [if_pos e2] at h
      walk_at "m.run"
      have hne1 : (popN σ).stack ≠ [] := by
        intro q
        have q : σ.stack.dropLast = [] := q
        rw [q] at hl
        rw [hl] at e
        exact e (by simp)
      obtain ⟨x, hx, hkl, _, hs, _, l, hl2⟩ := w.popN.cur' hne1
      have hcn : curName (popN σ) = x.name := by unfold curName; rw [hx]
      rw [hcn] at h
      refine w_name F hB1 (by have := w.popN.zs; omega) (by have := w.popN.zn; omega) hl2 hx hs ?_
      walk_at "m.run"
      by_cases e3 : (x.name != "frameset") = true
      · rw [if_pos e3] at h
        walk_at "m.run"
        refine w_to hpu F hB1 fun H2 hB2 k2 => ?_
        walk_at "m.run"
        exact h H2 hB2 (k1.trans k2)
      · rw [if_neg e3] at h
        walk_at "m.run"
        exact h H1 hB1 k1
    · rw [if_neg e2] at h
      walk_at "m.run"
      exact h H1 hB1 k1
theorem w_in_frameset {t : Tk} (ht : t.ok) {Q : V → MH → Prop} (h : ∀ H', BH H' (inFramesetN σ t) → Keep Loc.isB H H' → Q .none H') : CALL M (d + 13) cl ml H 638 [.cell .builder, tkV t] Q := by
  refine CALL_go (at_in_frameset F) b_in_frameset rfl rfl rfl ?_
  have h1 := w.zn
  have h2 := w.zs
  have h3 := w.ze
  walk_at "m.run"
  refine w_is_space_token F ?_
  by_cases a0 : t.spc = true
  · obtain ⟨c, rfl, e⟩ := spc_pos a0
    have hq : inFramesetN σ (.ch c) = sigN σ c := if_pos e
    rw [hq] at h
    simp only [tkV]
    walk_at "m.run"
    refine w_sign hpu F hB w (by omega) hne (by have := (sign_ok ht).2; omega) fun H1 hB1 k1 => ?_
    walk_at "m.run"
    exact h H1 hB1 k1
  walk_at "m.run"
  by_cases a1 : t.kind = "comment"
  · obtain ⟨c, rfl⟩ := kind_com a1
    simp only [tkV]
    walk_at "m.run"
    obtain ⟨x, hx, hxl⟩ := w.cur
    refine w_insert_comment2 hpu F hB (by omega) (by omega) w.par hx (by omega) fun H1 hB1 k1 => ?_
    walk_at "m.run"
    exact h H1 hB1 k1
  walk_at "m.run"
  refine w_is_start_of F ?_
  by_cases a2 : t.st "html" = true
  · obtain ⟨a, s, rfl⟩ := st_pos a2
    have hq : inFramesetN σ (.start "html" a s) = bodyN σ (.start "html" a s) := rfl
    rw [hq] at h
    walk_at "m.run"
    refine w_use_body (t := .start "html" a s) hpu F hB w hN hE hne ht fun H1 hB1 k1 => ?_
    walk_at "m.run"
    exact h H1 hB1 k1
  walk_at "m.run"
  refine w_is_start_of F ?_
  by_cases a3 : t.st "frameset" = true
  · obtain ⟨a, s, rfl⟩ := st_pos a3
    have hq : inFramesetN σ (.start "frameset" a s) = growN σ "frameset" (tAttrs a) := rfl
    rw [hq] at h
    walk_at "m.run"
    refine w_insert_token (s := s) hpu F hB w (by omega) (.inl rfl) fun H1 hB1 k1 => ?_
    walk_at "m.run"
    exact h H1 hB1 k1
  walk_at "m.run"
  refine w_is_end_of F ?_
  by_cases a4 : t.en "frameset" = true
  · obtain rfl := en_pos a4
    have hq : inFramesetN σ (.fin "frameset") = leaveN σ (.fin "frameset") := rfl
    rw [hq] at h
    walk_at "m.run"
    refine w_close (t := .fin "frameset") hpu F hB w hN hE hne fun H1 hB1 k1 => ?_
    walk_at "m.run"
    exact h H1 hB1 k1
  walk_at "m.run"
  refine w_is_start_of F ?_
  by_cases a5 : t.st "frame" = true
  · obtain ⟨a, s, rfl⟩ := st_pos a5
    have hq : inFramesetN σ (.start "frame" a s) = voidN σ "frame" (tAttrs a) := rfl
    rw [hq] at h
    walk_at "m.run"
    refine w_insert_void (s := s) hpu F hB w (by omega) (.inr rfl) fun H1 hB1 k1 => ?_
    walk_at "m.run"
    exact h H1 hB1 k1
  walk_at "m.run"
  refine w_is_start_of F ?_
  by_cases a6 : t.st "noframes" = true
  · obtain ⟨a, s, rfl⟩ := st_pos a6
    have hq : inFramesetN σ (.start "noframes" a s) = headN σ (.start "noframes" a s) := rfl
    rw [hq] at h
    walk_at "m.run"
    refine w_use_head (n := "noframes") (a := a) (s := s) hpu F hB w hN hE hne ht fun H1 hB1 k1 => ?_
    walk_at "m.run"
    exact h H1 hB1 k1
  walk_at "m.run"
  by_cases a7 : t.kind = "eof"
  · obtain rfl := kind_eof a7
    walk_at "m.run"
    refine w_is_at_root F hB (by omega) ?_
    by_cases e : decide ((σ.stack.length : Int) ≤ 1) = true
    · have hq : inFramesetN σ .eof = stopN σ := if_pos e
      rw [hq] at h
      rw [e]
      walk_at "m.run"
      refine w_finish hpu F hB (by omega) fun H1 hB1 k1 => ?_
      walk_at "m.run"
      exact h H1 hB1 k1
    · have hq : inFramesetN σ .eof = stopN (errN σ (.tup [.str "open-elements", .str σ.mode])) := if_neg e
      rw [hq] at h
      rw [Bool.eq_false_iff.mpr e]
      walk_at "m.run"
      refine w_error hpu F hB (by omega) fun H1 hB1 k1 => ?_
      walk_at "m.run"
      refine w_finish hpu F hB1 (by show σ.stack.length ≤ 900; omega) fun H2 hB2 k2 => ?_
      walk_at "m.run"
      exact h H2 hB2 (k1.trans k2)
  have hq : inFramesetN σ t = refN σ t := by
    cases t with
    | ch c => exact if_neg a0
    | start n a s => exact (if_neg fun e => a2 (str_eb e)).trans ((if_neg fun e => a3 (str_eb e)).trans ((if_neg fun e => a5 (str_eb e)).trans (if_neg fun e => a6 (str_eb e))))
    | fin n => exact if_neg fun e => a4 (str_eb e)
    | com c => exact absurd rfl a1
    | doc => rfl
    | eof => exact absurd rfl a7
  rw [hq] at h
  walk_at "m.run"
  refine w_refuse hpu F hB (by omega) fun H1 hB1 k1 => ?_
  walk_at "m.run"
  exact h H1 hB1 k1
end
noncomputable def Tk.ofBody : Tk → Bool
  | .doc => true
  | .ch c => spaces.any (· == c)
  | .start n _ _ => n == "html"
  | _ => false
section
variable {M : Amb} {d : Nat} {cl : List (Str × Loc)} {ml : List (Str × V)} {H : MH}
theorem w_is_of_body (F : Facts M.K) {t : Tk} {Q : V → MH → Prop} (h : Q (.bool t.ofBody) H) : CALL M (d + 3) cl ml H 652 [tkV t] Q := by
  refine CALL_go (at_is_of_body F) b_is_of_body rfl rfl rfl ?_
  cases t with
  | doc =>
    simp only [tkV]
    walk_at "m.run"
    exact h
  | ch c =>
    simp only [tkV]
    walk_at "m.run"
    refine w_is_space_token (t := .ch c) F ?_
    by_cases e : spaces.any (· == c) = true
    · have e2 : Tk.ofBody (.ch c) = true := e
      rw [e2] at h
      have e3 : Tk.spc (.ch c) = true := e
      rw [e3]
      walk_at "m.run"
      exact h
    · have e2 : Tk.ofBody (.ch c) = false := Bool.eq_false_iff.mpr e
      rw [e2] at h
      have e3 : Tk.spc (.ch c) = false := Bool.eq_false_iff.mpr e
      rw [e3]
      walk_at "m.run"
      refine w_is_start_of (t := .ch c) F ?_
      walk_at "m.run"
      exact h
  | start n a s =>
    simp only [tkV]
    walk_at "m.run"
    refine w_is_space_token (t := .start n a s) F ?_
    walk_at "m.run"
    refine w_is_start_of (t := .start n a s) F ?_
    walk_at "m.run"
    exact h
  | fin n =>
    simp only [tkV]
    walk_at "m.run"
    refine w_is_space_token (t := .fin n) F ?_
    walk_at "m.run"
    refine w_is_start_of (t := .fin n) F ?_
    walk_at "m.run"
    exact h
  | com c =>
    simp only [tkV]
    walk_at "m.run"
    refine w_is_space_token (t := .com c) F ?_
    walk_at "m.run"
    refine w_is_start_of (t := .com c) F ?_
    walk_at "m.run"
    exact h
  | eof =>
    simp only [tkV]
    walk_at "m.run"
    refine w_is_space_token (t := .eof) F ?_
    walk_at "m.run"
    refine w_is_start_of (t := .eof) F ?_
    walk_at "m.run"
    exact h
variable (hpu : M.pu = false) (F : Facts M.K) {N E : Nat} {σ : St} (hB : BH H σ) (w : WF N E σ) (hN : N ≤ 700) (hE : E ≤ 700) (hne : σ.stack ≠ [])
include hpu F hB w hN hE hne
theorem w_after_frameset {t : Tk} (ht : t.ok) {Q : V → MH → Prop} (h : ∀ H', BH H' (afterFramesetN σ t) → Keep Loc.isB H H' → Q .none H') : CALL M (d + 13) cl ml H 645 [.cell .builder, tkV t] Q := by
  refine CALL_go (at_after_frameset F) b_after_frameset rfl rfl rfl ?_
  have h1 := w.zn
  have h2 := w.zs
  have h3 := w.ze
  obtain ⟨xc, hxc, hxcl⟩ := w.cur
  obtain ⟨xd, hxd, _⟩ := w.doc
  have hxdl := (w.nd _ _ hxd).kl
  cases t with
  | ch c =>
    simp only [tkV]
    walk_at "m.run"
    refine w_is_space_token (t := .ch c) F ?_
    by_cases e0 : spaces.any (· == c) = true
    · have hq : afterFramesetN σ (.ch c) = sigN σ c := if_pos e0
      rw [hq] at h
      walk_at "m.run"
      refine w_sign hpu F hB w (by omega) hne (by have := (sign_ok ht).2; omega) fun H1 hB1 k1 => ?_
      walk_at "m.run"
      exact h H1 hB1 k1
    · walk_at "m.run"
      refine w_is_start_of (t := .ch c) F ?_
      walk_at "m.run"
      refine w_is_end_of (t := .ch c) F ?_
      walk_at "m.run"
      refine w_is_start_of (t := .ch c) F ?_
      have hq : afterFramesetN σ (.ch c) = refN σ (.ch c) := if_neg e0
      rw [hq] at h
      walk_at "m.run"
      refine w_refuse (t := .ch c) hpu F hB (by omega) fun H1 hB1 k1 => ?_
      walk_at "m.run"
      exact h H1 hB1 k1
  | start n a s =>
    simp only [tkV]
    walk_at "m.run"
    refine w_is_space_token (t := .start n a s) F ?_
    walk_at "m.run"
    refine w_is_start_of (t := .start n a s) F ?_
    by_cases e0 : n = "html"
    · have hq : afterFramesetN σ (.start n a s) = bodyN σ (.start n a s) := if_pos e0
      rw [hq] at h
      walk_at "m.run"
      refine w_use_body (t := .start n a s) hpu F hB w hN hE hne ht fun H1 hB1 k1 => ?_
      walk_at "m.run"
      exact h H1 hB1 k1
    · walk_at "m.run"
      refine w_is_end_of (t := .start n a s) F ?_
      walk_at "m.run"
      refine w_is_start_of (t := .start n a s) F ?_
      by_cases e1 : n = "noframes"
      · have hq : afterFramesetN σ (.start n a s) = headN σ (.start n a s) := (if_neg e0).trans (if_pos e1)
        rw [hq] at h
        walk_at "m.run"
        refine w_use_head (n := n) (a := a) (s := s) hpu F hB w hN hE hne ht fun H1 hB1 k1 => ?_
        walk_at "m.run"
        exact h H1 hB1 k1
      · have hq : afterFramesetN σ (.start n a s) = refN σ (.start n a s) := (if_neg e0).trans (if_neg e1)
        rw [hq] at h
        walk_at "m.run"
        refine w_refuse (t := .start n a s) hpu F hB (by omega) fun H1 hB1 k1 => ?_
        walk_at "m.run"
        exact h H1 hB1 k1
  | fin n =>
    simp only [tkV]
    walk_at "m.run"
    refine w_is_space_token (t := .fin n) F ?_
    walk_at "m.run"
    refine w_is_start_of (t := .fin n) F ?_
    walk_at "m.run"
    refine w_is_end_of (t := .fin n) F ?_
    by_cases e0 : n = "html"
    · have hq : afterFramesetN σ (.fin n) = { σ with mode := "after after frameset" } := if_pos e0
      rw [hq] at h
      walk_at "m.run"
      refine w_to hpu F hB fun H1 hB1 k1 => ?_
      walk_at "m.run"
      exact h H1 hB1 k1
    · walk_at "m.run"
      refine w_is_start_of (t := .fin n) F ?_
      have hq : afterFramesetN σ (.fin n) = refN σ (.fin n) := if_neg e0
      rw [hq] at h
      walk_at "m.run"
      refine w_refuse (t := .fin n) hpu F hB (by omega) fun H1 hB1 k1 => ?_
      walk_at "m.run"
      exact h H1 hB1 k1
  | com c =>
    simp only [tkV]
    walk_at "m.run"
    refine w_is_space_token (t := .com c) F ?_
    have hq : afterFramesetN σ (.com c) = insN σ (comN c) (curP σ.stack) := rfl
    rw [hq] at h
    walk_at "m.run"
    refine w_insert_comment2 hpu F hB (by omega) (by omega) w.par hxc (by omega) fun H1 hB1 k1 => ?_
    walk_at "m.run"
    exact h H1 hB1 k1
  | doc =>
    simp only [tkV]
    walk_at "m.run"
    refine w_is_space_token (t := .doc) F ?_
    walk_at "m.run"
    refine w_is_start_of (t := .doc) F ?_
    walk_at "m.run"
    refine w_is_end_of (t := .doc) F ?_
    walk_at "m.run"
    refine w_is_start_of (t := .doc) F ?_
    have hq : afterFramesetN σ (.doc) = refN σ (.doc) := rfl
    rw [hq] at h
    walk_at "m.run"
    refine w_refuse (t := .doc) hpu F hB (by omega) fun H1 hB1 k1 => ?_
    walk_at "m.run"
    exact h H1 hB1 k1
  | eof =>
    simp only [tkV]
    walk_at "m.run"
    refine w_is_space_token (t := .eof) F ?_
    walk_at "m.run"
    refine w_is_start_of (t := .eof) F ?_
    walk_at "m.run"
    refine w_is_end_of (t := .eof) F ?_
    walk_at "m.run"
    refine w_is_start_of (t := .eof) F ?_
    have hq : afterFramesetN σ (.eof) = stopN σ := rfl
    rw [hq] at h
    walk_at "m.run"
    refine w_finish hpu F hB (by omega) fun H1 hB1 k1 => ?_
    walk_at "m.run"
    exact h H1 hB1 k1
theorem w_after_after_body {t : Tk} (ht : t.ok) {Q : V → MH → Prop} (h : ∀ H', BH H' (afterAfterBodyN σ t) → Keep Loc.isB H H' → Q .none H') : CALL M (d + 13) cl ml H 659 [.cell .builder, tkV t] Q := by
  refine CALL_go (at_after_after_body F) b_after_after_body rfl rfl rfl ?_
  have h1 := w.zn
  have h2 := w.zs
  have h3 := w.ze
  obtain ⟨xc, hxc, hxcl⟩ := w.cur
  obtain ⟨xd, hxd, _⟩ := w.doc
  have hxdl := (w.nd _ _ hxd).kl
  cases t with
  | ch c =>
    simp only [tkV]
    walk_at "m.run"
    refine w_is_of_body (t := .ch c) F ?_
    by_cases e0 : spaces.any (· == c) = true
    · have hq : afterAfterBodyN σ (.ch c) = bodyN σ (.ch c) := if_pos e0
      rw [hq] at h
      walk_at "m.run"
      refine w_use_body (t := .ch c) hpu F hB w hN hE hne ht fun H1 hB1 k1 => ?_
      walk_at "m.run"
      exact h H1 hB1 k1
    · have hq : afterAfterBodyN σ (.ch c) = backN σ (.ch c) := if_neg e0
      rw [hq] at h
      walk_at "m.run"
      refine w_back (t := .ch c) hpu F hB w hN hE hne ht fun H1 hB1 k1 => ?_
      walk_at "m.run"
      exact h H1 hB1 k1
  | start n a s =>
    simp only [tkV]
    walk_at "m.run"
    refine w_is_of_body (t := .start n a s) F ?_
    by_cases e0 : n = "html"
    · have hq : afterAfterBodyN σ (.start n a s) = bodyN σ (.start n a s) := if_pos e0
      rw [hq] at h
      walk_at "m.run"
      refine w_use_body (t := .start n a s) hpu F hB w hN hE hne ht fun H1 hB1 k1 => ?_
      walk_at "m.run"
      exact h H1 hB1 k1
    · have hq : afterAfterBodyN σ (.start n a s) = backN σ (.start n a s) := if_neg e0
      rw [hq] at h
      walk_at "m.run"
      refine w_back (t := .start n a s) hpu F hB w hN hE hne ht fun H1 hB1 k1 => ?_
      walk_at "m.run"
      exact h H1 hB1 k1
  | fin n =>
    simp only [tkV]
    walk_at "m.run"
    refine w_is_of_body (t := .fin n) F ?_
    have hq : afterAfterBodyN σ (.fin n) = backN σ (.fin n) := rfl
    rw [hq] at h
    walk_at "m.run"
    refine w_back (t := .fin n) hpu F hB w hN hE hne ht fun H1 hB1 k1 => ?_
    walk_at "m.run"
    exact h H1 hB1 k1
  | com c =>
    simp only [tkV]
    have hq : afterAfterBodyN σ (.com c) = insN σ (comN c) 0 := rfl
    rw [hq] at h
    walk_at "m.run"
    refine w_insert_comment3 (p := 0) hpu F hB (by omega) w.par hxd (by omega) fun H1 hB1 k1 => ?_
    walk_at "m.run"
    exact h H1 hB1 k1
  | doc =>
    simp only [tkV]
    walk_at "m.run"
    refine w_is_of_body (t := .doc) F ?_
    have hq : afterAfterBodyN σ (.doc) = bodyN σ (.doc) := rfl
    rw [hq] at h
    walk_at "m.run"
    refine w_use_body (t := .doc) hpu F hB w hN hE hne ht fun H1 hB1 k1 => ?_
    walk_at "m.run"
    exact h H1 hB1 k1
  | eof =>
    simp only [tkV]
    walk_at "m.run"
    refine w_is_of_body (t := .eof) F ?_
    have hq : afterAfterBodyN σ (.eof) = stopN σ := rfl
    rw [hq] at h
    walk_at "m.run"
    refine w_finish hpu F hB (by omega) fun H1 hB1 k1 => ?_
    walk_at "m.run"
    exact h H1 hB1 k1
theorem w_after_after_frameset {t : Tk} (ht : t.ok) {Q : V → MH → Prop} (h : ∀ H', BH H' (afterAfterFramesetN σ t) → Keep Loc.isB H H' → Q .none H') : CALL M (d + 13) cl ml H 666 [.cell .builder, tkV t] Q := by
  refine CALL_go (at_after_after_frameset F) b_after_after_frameset rfl rfl rfl ?_
  have h1 := w.zn
  have h2 := w.zs
  have h3 := w.ze
  obtain ⟨xc, hxc, hxcl⟩ := w.cur
  obtain ⟨xd, hxd, _⟩ := w.doc
  have hxdl := (w.nd _ _ hxd).kl
  cases t with
  | ch c =>
    simp only [tkV]
    walk_at "m.run"
    refine w_is_of_body (t := .ch c) F ?_
    by_cases e0 : spaces.any (· == c) = true
    · have hq : afterAfterFramesetN σ (.ch c) = bodyN σ (.ch c) := if_pos e0
      rw [hq] at h
      walk_at "m.run"
      refine w_use_body (t := .ch c) hpu F hB w hN hE hne ht fun H1 hB1 k1 => ?_
      walk_at "m.run"
      exact h H1 hB1 k1
    · walk_at "m.run"
      refine w_is_start_of (t := .ch c) F ?_
      have hq : afterAfterFramesetN σ (.ch c) = refN σ (.ch c) := if_neg e0
      rw [hq] at h
      walk_at "m.run"
      refine w_refuse (t := .ch c) hpu F hB (by omega) fun H1 hB1 k1 => ?_
      walk_at "m.run"
      exact h H1 hB1 k1
  | start n a s =>
    simp only [tkV]
    walk_at "m.run"
    refine w_is_of_body (t := .start n a s) F ?_
    by_cases e0 : n = "html"
    · have hq : afterAfterFramesetN σ (.start n a s) = bodyN σ (.start n a s) := if_pos e0
      rw [hq] at h
      walk_at "m.run"
      refine w_use_body (t := .start n a s) hpu F hB w hN hE hne ht fun H1 hB1 k1 => ?_
      walk_at "m.run"
      exact h H1 hB1 k1
    · walk_at "m.run"
      refine w_is_start_of (t := .start n a s) F ?_
      by_cases e1 : n = "noframes"
      · have hq : afterAfterFramesetN σ (.start n a s) = headN σ (.start n a s) := (if_neg e0).trans (if_pos e1)
        rw [hq] at h
        walk_at "m.run"
        refine w_use_head (n := n) (a := a) (s := s) hpu F hB w hN hE hne ht fun H1 hB1 k1 => ?_
        walk_at "m.run"
        exact h H1 hB1 k1
      · have hq : afterAfterFramesetN σ (.start n a s) = refN σ (.start n a s) := (if_neg e0).trans (if_neg e1)
        rw [hq] at h
        walk_at "m.run"
        refine w_refuse (t := .start n a s) hpu F hB (by omega) fun H1 hB1 k1 => ?_
        walk_at "m.run"
        exact h H1 hB1 k1
  | fin n =>
    simp only [tkV]
    walk_at "m.run"
    refine w_is_of_body (t := .fin n) F ?_
    walk_at "m.run"
    refine w_is_start_of (t := .fin n) F ?_
    have hq : afterAfterFramesetN σ (.fin n) = refN σ (.fin n) := rfl
    rw [hq] at h
    walk_at "m.run"
    refine w_refuse (t := .fin n) hpu F hB (by omega) fun H1 hB1 k1 => ?_
    walk_at "m.run"
    exact h H1 hB1 k1
  | com c =>
    simp only [tkV]
    have hq : afterAfterFramesetN σ (.com c) = insN σ (comN c) 0 := rfl
    rw [hq] at h
    walk_at "m.run"
    refine w_insert_comment3 (p := 0) hpu F hB (by omega) w.par hxd (by omega) fun H1 hB1 k1 => ?_
    walk_at "m.run"
    exact h H1 hB1 k1
  | doc =>
    simp only [tkV]
    walk_at "m.run"
    refine w_is_of_body (t := .doc) F ?_
    have hq : afterAfterFramesetN σ (.doc) = bodyN σ (.doc) := rfl
    rw [hq] at h
    walk_at "m.run"
    refine w_use_body (t := .doc) hpu F hB w hN hE hne ht fun H1 hB1 k1 => ?_
    walk_at "m.run"
    exact h H1 hB1 k1
  | eof =>
    simp only [tkV]
    walk_at "m.run"
    refine w_is_of_body (t := .eof) F ?_
    have hq : afterAfterFramesetN σ (.eof) = stopN σ := rfl
    rw [hq] at h
    walk_at "m.run"
    refine w_finish hpu F hB (by omega) fun H1 hB1 k1 => ?_
    walk_at "m.run"
    exact h H1 hB1 k1
end
noncomputable def slashW : Str := "non-void-html-element-start-tag-with-trailing-solidus"
noncomputable def feedN (σ : St) (t : Tk) : St :=
  match t with
  | .start _ _ s => if (s && !(runN { σ with ack := false } t).ack) = true then errN (runN { σ with ack := false } t) (.tup [.str slashW, .str (runN { σ with ack := false } t).mode]) else runN { σ with ack := false } t
  | _ => runN { σ with ack := false } t
section
variable {M : Amb} {d : Nat} {cl : List (Str × Loc)} {ml : List (Str × V)} {H : MH}
variable (hpu : M.pu = false) (F : Facts M.K) {N E : Nat} {σ : St} (hB : BH H σ) (w : WF N E σ) (hN : N ≤ 700) (hE : E ≤ 700)
include hpu F hB w hN hE
theorem w_run (hne : σ.stack ≠ []) {t : Tk} (ht : t.ok) {Q : V → MH → Prop} (h : ∀ H', BH H' (runN σ t) → Keep Loc.isB H H' → Q .none H') : CALL M (d + 15) cl ml H 465 [.cell .builder, tkV t] Q := by
  unfold runN at h
  by_cases e1 : σ.mode = "after body"
  · rw [if_pos e1] at h
    exact w_process (a := 617) F hB w (by omega) (by rw [e1]; rfl) (Facts.kp F rfl) fun cl ml => w_after_body hpu F hB w hN hE hne ht h
  rw [if_neg e1] at h
  by_cases e2 : σ.mode = "in frameset"
  · rw [if_pos e2] at h
    exact w_process (a := 638) F hB w (by omega) (by rw [e2]; rfl) (Facts.kp F rfl) fun cl ml => w_in_frameset hpu F hB w hN hE hne ht h
  rw [if_neg e2] at h
  by_cases e3 : σ.mode = "after frameset"
  · rw [if_pos e3] at h
    exact w_process (a := 645) F hB w (by omega) (by rw [e3]; rfl) (Facts.kp F rfl) fun cl ml => w_after_frameset hpu F hB w hN hE hne ht h
  rw [if_neg e3] at h
  by_cases e4 : σ.mode = "after after body"
  · rw [if_pos e4] at h
    exact w_process (a := 659) F hB w (by omega) (by rw [e4]; rfl) (Facts.kp F rfl) fun cl ml => w_after_after_body hpu F hB w hN hE hne ht h
  rw [if_neg e4] at h
  by_cases e5 : σ.mode = "after after frameset"
  · rw [if_pos e5] at h
    exact w_process (a := 666) F hB w (by omega) (by rw [e5]; rfl) (Facts.kp F rfl) fun cl ml => w_after_after_frameset hpu F hB w hN hE hne ht h
  rw [if_neg e5] at h
  have e6 : σ.mode = "in body" := by
    have := w.md
    simp only [modesL, List.mem_cons, List.not_mem_nil, or_false] at this
    rcases this with e | e | e | e | e | e
    · exact absurd e e1
    · exact absurd e e2
    · exact absurd e e3
    · exact absurd e e4
    · exact absurd e e5
    · exact e
  exact w_process (a := 708) F hB w (by omega) (by rw [e6]; rfl) (Facts.kp F rfl) fun cl ml => w_law_body hpu F hB w (by omega) (by omega) hne ht h
theorem w_feed (h5 : 5 ≤ N) (hne : σ.done = false → σ.stack ≠ []) {t : Tk} (ht : t.ok) {Q : V → MH → Prop} (h : ∀ H', BH H' (if σ.done = true then σ else feedN σ t) → Keep Loc.isB H H' → Q .none H') : CALL M (d + 16) cl ml H 472 [.cell .builder, tkV t] Q := by
  refine CALL_go (at_Builder_feed F) b_Builder_feed rfl rfl rfl ?_
  walk_at "m.run"
  cases hd : σ.done with
  | true =>
    rw [hd, if_pos rfl] at h
    walk_at "m.run"
    exact h H hB (Keep.refl _)
  | false =>
    rw [hd, if_neg (by decide)] at h
    have hne := hne hd
    have hq : bflds σ = bflds { σ with done := false } := by rw [← hd]
    walk_at "m.run"
    have hB1 : BH (H.put .builder (.inst 489 (bflds { σ with ack := false }))) { σ with ack := false } := hB.bld rfl rfl rfl
    have k1 : Keep Loc.isB H (H.put .builder (.inst 489 (bflds { σ with ack := false }))) := Keep.put rfl
    have w1 := w.ack false
    have key : ∀ Q : V → MH → Prop, (∀ H', BH H' (runN { σ with ack := false } t) → Keep Loc.isB H H' → Q .none H') → ∀ cl ml, CALL M (d + 15) cl ml (H.put .builder (.inst 489 (bflds { σ with ack := false }))) 465 [.cell .builder, tkV t] Q :=
      fun Q hQ cl ml => w_run hpu F hB1 w1 hN hE hne ht fun H1 hB2 k2 => hQ H1 hB2 (k1.trans k2)
    refine key _ (fun H1 hB2 k2 => ?_) _ _
    cases t with
    | start n a s =>
      simp only [tkV]
      walk_at "m.run"
      cases hs : s with
      | false =>
        have hq : feedN σ (.start n a s) = runN { σ with ack := false } (.start n a s) := by unfold feedN; dsimp only; rw [hs, if_neg (by simp)]
        rw [hq] at h
        walk_at "m.run"
        exact h H1 hB2 k2
      | true =>
        walk_at "m.run"
        cases hk : (runN { σ with ack := false } (.start n a s)).ack with
        | true =>
          have hq : feedN σ (.start n a s) = runN { σ with ack := false } (.start n a s) := by unfold feedN; dsimp only; rw [hk, hs, if_neg (by decide)]
          rw [hq] at h
          walk_at "m.run"
          exact h H1 hB2 k2
        | false =>
          have hq : feedN σ (.start n a s) = errN (runN { σ with ack := false } (.start n a s)) (.tup [.str slashW, .str (runN { σ with ack := false } (.start n a s)).mode]) := by unfold feedN; dsimp only; rw [hk, hs, if_pos (by decide)]
          rw [hq] at h
          walk_at "m.run"
          refine w_error hpu F hB2 (by have := (w1.run h5 hne ht).ze; omega) fun H2 hB3 k3 => ?_
          walk_at "m.run"
          exact h H2 hB3 (k2.trans k3)
    | fin n =>
      simp only [tkV]
      walk_at "m.run"
      exact h H1 hB2 k2
    | ch c =>
      simp only [tkV]
      walk_at "m.run"
      exact h H1 hB2 k2
    | com c =>
      simp only [tkV]
      walk_at "m.run"
      exact h H1 hB2 k2
    | doc =>
      simp only [tkV]
      walk_at "m.run"
      exact h H1 hB2 k2
    | eof =>
      simp only [tkV]
      walk_at "m.run"
      exact h H1 hB2 k2
end
theorem nx_le1 (a : Nat) : max a (a + 1) ≤ a + 1 := Nat.max_le.mpr ⟨Nat.le_succ _, Nat.le_refl _⟩
theorem lt_bump (a b : Nat) : b < max a (b + 1) := Nat.le_max_right _ _
theorem LK.node {k : Nat} {H : MH} {σ : St} (h : LK k H σ) {p : Nat} {x : Nd} (hp : isEl σ p = some x) : H.c (.lnode p) = some (.list [.str x.name, .cell (.latt p), .cell (.lkid p)]) := h.at (by show Option.map _ _ = _; rw [hp]; rfl) rfl
theorem LK.kid {k : Nat} {H : MH} {σ : St} (h : LK k H σ) {p : Nat} {x : Nd} (hp : isEl σ p = some x) : H.c (.lkid p) = some (.list (x.kids.map (kidV σ.nodes))) := h.at (by show Option.map _ _ = _; rw [hp]; rfl) rfl
theorem LK.same {k k' : Nat} {H H' : MH} {σ σ' : St} (L : LK k H σ) (e1 : σ'.nodes = σ.nodes) (e2 : σ'.ctx = σ.ctx) (lt : k' < H'.nx) (pa : H'.c (.tmp k') = some (.list (σ'.stack.map lnV)))
    (hs : H'.c .state = some (.dict (stD (.tmp k') σ'))) (hn : H'.c .notes = some (.list σ'.errs)) (ho : ∀ l, l.isL = true → l ≠ .state → l ≠ .notes → H'.c l = H.c l) : LK k' H' σ' := by
  refine ⟨lt, pa, fun l hl => ?_⟩
  have ie : ∀ i, isEl σ' i = isEl σ i := fun i => by unfold isEl; rw [e1, e2]
  cases l
  case state => exact hs
  case notes => exact hn
  case lnode i => rw [ho _ hl (by first | exact Loc.ne_tag rfl | (intro e; cases e)) (by first | exact Loc.ne_tag rfl | (intro e; cases e)), L.ls _ hl]; show Option.map _ _ = Option.map _ _; rw [ie]
  case latt i => rw [ho _ hl (by first | exact Loc.ne_tag rfl | (intro e; cases e)) (by first | exact Loc.ne_tag rfl | (intro e; cases e)), L.ls _ hl]; show Option.map _ _ = Option.map _ _; rw [ie]
  case lkid i => rw [ho _ hl (by first | exact Loc.ne_tag rfl | (intro e; cases e)) (by first | exact Loc.ne_tag rfl | (intro e; cases e)), L.ls _ hl]; show Option.map _ _ = Option.map _ _; rw [ie, e1]
  all_goals (cases hl; done)
theorem putE_mode {a b c dd e f x : V} : putE [("page", a), ("path", b), ("mode", c), ("notes", dd), ("is_done", e), ("is_part", f)] "mode" x = ([("page", a), ("path", b), ("mode", x), ("notes", dd), ("is_done", e), ("is_part", f)] : List (Str × V)) := rfl
theorem putE_path {a b c dd e f x : V} : putE [("page", a), ("path", b), ("mode", c), ("notes", dd), ("is_done", e), ("is_part", f)] "path" x = ([("page", a), ("path", x), ("mode", c), ("notes", dd), ("is_done", e), ("is_part", f)] : List (Str × V)) := rfl
theorem putE_done {a b c dd e f x : V} : putE [("page", a), ("path", b), ("mode", c), ("notes", dd), ("is_done", e), ("is_part", f)] "is_done" x = ([("page", a), ("path", b), ("mode", c), ("notes", dd), ("is_done", x), ("is_part", f)] : List (Str × V)) := rfl
theorem LK.mode {k : Nat} {H : MH} {σ : St} (L : LK k H σ) (m : Str) : LK k (H.put .state (.dict (putE (stD (.tmp k) σ) "mode" (.str m)))) { σ with mode := m } :=
  L.same rfl rfl L.lt (put_other (by first | exact Loc.ne_tag rfl | (intro e; cases e)) L.pa) (by rw [put_same]; exact congrArg (fun z => some (Cell.dict z)) putE_mode) (put_other (by first | exact Loc.ne_tag rfl | (intro e; cases e)) L.notes) fun l _ a _ => put_other a rfl
theorem LK.err {k : Nat} {H : MH} {σ : St} (L : LK k H σ) (v : V) : LK k (H.put .notes (.list (σ.errs ++ [v]))) (errN σ v) :=
  L.same rfl rfl L.lt (put_other (by first | exact Loc.ne_tag rfl | (intro e; cases e)) L.pa) (put_other (by first | exact Loc.ne_tag rfl | (intro e; cases e)) L.state) put_same fun l _ _ b => put_other b rfl
theorem LK.path {k j : Nat} {H H1 : MH} {σ : St} (L : LK k H σ) {st : List Nat} (k1 : Keep Loc.isL H H1) (k2 : ∀ l, l.isL = true → H1.c l = H.c l) (hj : j < H1.nx) (hp : H1.c (.tmp j) = some (.list (st.map lnV))) :
    LK j (H1.put .state (.dict (putE (stD (.tmp k) σ) "path" (.cell (.tmp j))))) { σ with stack := st } :=
  L.same rfl rfl hj (put_other (by first | exact Loc.ne_tag rfl | (intro e; cases e)) hp) (by rw [put_same]; exact congrArg (fun z => some (Cell.dict z)) putE_path) (put_other (by first | exact Loc.ne_tag rfl | (intro e; cases e)) ((k2 _ rfl).trans L.notes)) fun l hl a _ => put_other a (k2 l hl)
theorem LK.done {k : Nat} {H : MH} {σ : St} (L : LK k H σ) (b : Bool) : LK k (H.put .state (.dict (putE (stD (.tmp k) σ) "is_done" (.bool b)))) { σ with done := b } :=
  L.same rfl rfl L.lt (put_other (by first | exact Loc.ne_tag rfl | (intro e; cases e)) L.pa) (by rw [put_same]; exact congrArg (fun z => some (Cell.dict z)) putE_done) (put_other (by first | exact Loc.ne_tag rfl | (intro e; cases e)) L.notes) fun l _ a _ => put_other a rfl
theorem kidV_eq {ns ns' : List Nd} {i : Nat} {x x' : Nd} (h : ns[i]? = some x) (h' : ns'[i]? = some x') (e1 : x'.kind = x.kind) (e2 : x'.text = x.text) : kidV ns' i = kidV ns i := by
  unfold kidV; rw [h, h']; simp only [e1, e2]
theorem isEl_ins {σ : St} {nd : Nd} {p i : Nat} (hi : i < σ.nodes.length) : isEl (insN σ nd p) i = (isEl σ i).map fun x => if p = i then { x with kids := x.kids ++ [σ.nodes.length] } else x := by
  unfold isEl
  rw [insN_get, if_pos hi, List.getElem?_eq_getElem hi]
  show (match (if p = i then _ else _ : Option Nd) with | some n => if (_ ∧ (i : Int) ≠ σ.ctx) then _ else _ | none => _) = _
  by_cases e : p = i
  · simp only [if_pos e, Option.map_some]
    split <;> rfl
  · simp only [if_neg e]
    split <;> rfl
noncomputable def KidOK (σ : St) : Prop := ∀ (i : Nat) (y : Nd), σ.nodes[i]? = some y → ∀ j ∈ y.kids, j < σ.nodes.length
theorem WF.kd {N E : Nat} {σ : St} (w : WF N E σ) : KidOK σ := fun i y hy j hj => let ⟨_, hz, _⟩ := (w.nd i y hy).kid j hj; lt_of_get hz
theorem WF.nc {N E : Nat} {σ : St} (w : WF N E σ) : (σ.nodes.length : Int) ≠ σ.ctx := by
  rcases w.ctx with e | ⟨c, z, e, hz, _⟩
  · rw [e]; omega
  · have := lt_of_get hz; omega
theorem LK.ins {k : Nat} {H H' : MH} {σ : St} (kd : KidOK σ) (L : LK k H σ) {nd x : Nd} {p : Nat} (hp : isEl σ p = some x) (hpl : p < σ.nodes.length)
    (h1 : H'.c (.lkid p) = some (.list (x.kids.map (kidV σ.nodes) ++ [kidV (insN σ nd p).nodes σ.nodes.length])))
    (h2 : H'.c (.lnode σ.nodes.length) = lh (.tmp k) (insN σ nd p) (.lnode σ.nodes.length)) (h3 : H'.c (.latt σ.nodes.length) = lh (.tmp k) (insN σ nd p) (.latt σ.nodes.length)) (h4 : H'.c (.lkid σ.nodes.length) = lh (.tmp k) (insN σ nd p) (.lkid σ.nodes.length))
    (lt : k < H'.nx) (pa : H'.c (.tmp k) = H.c (.tmp k)) (ho : ∀ l, l.isL = true → l ≠ .lkid p → l ≠ .lnode σ.nodes.length → l ≠ .latt σ.nodes.length → l ≠ .lkid σ.nodes.length → H'.c l = H.c l) : LK k H' (insN σ nd p) := by
  have kv : ∀ j, j < σ.nodes.length → kidV (insN σ nd p).nodes j = kidV σ.nodes j := fun j hj => by
    have g : σ.nodes[j]? = some σ.nodes[j] := List.getElem?_eq_getElem hj
    obtain ⟨ks, g'⟩ := insN_old (nd := nd) (p := p) g
    exact kidV_eq g g' rfl rfl
  have kvs : ∀ i (y : Nd), isEl σ i = some y → y.kids.map (kidV (insN σ nd p).nodes) = y.kids.map (kidV σ.nodes) := fun i y hy => by
    have hy : σ.nodes[i]? = some y := by
      unfold isEl at hy
      split at hy
      · split at hy
        · rename_i q _; rw [q]; exact hy
        · cases hy
      · cases hy
    refine List.map_congr_left fun j hj => ?_
    exact kv j (kd i y hy j hj)
  have big : ∀ i, ¬ i < σ.nodes.length → i ≠ σ.nodes.length → isEl (insN σ nd p) i = none ∧ isEl σ i = none := fun i a b => by
    unfold isEl
    rw [insN_get, if_neg a, if_neg b, List.getElem?_eq_none (by omega)]
    exact ⟨rfl, rfl⟩
  refine ⟨lt, pa.trans L.pa, fun l hl => ?_⟩
  cases l
  case state => exact (ho _ hl (by first | exact Loc.ne_tag rfl | (intro e; cases e)) (by first | exact Loc.ne_tag rfl | (intro e; cases e)) (by first | exact Loc.ne_tag rfl | (intro e; cases e)) (by first | exact Loc.ne_tag rfl | (intro e; cases e))).trans (L.ls _ hl)
  case notes => exact (ho _ hl (by first | exact Loc.ne_tag rfl | (intro e; cases e)) (by first | exact Loc.ne_tag rfl | (intro e; cases e)) (by first | exact Loc.ne_tag rfl | (intro e; cases e)) (by first | exact Loc.ne_tag rfl | (intro e; cases e))).trans (L.ls _ hl)
  case lnode i =>
    by_cases q : i = σ.nodes.length
    · subst q; exact h2
    rw [ho _ hl (by first | exact Loc.ne_tag rfl | (intro e; cases e)) (fun e => q (Loc.lnode.inj e)) (by first | exact Loc.ne_tag rfl | (intro e; cases e)) (by first | exact Loc.ne_tag rfl | (intro e; cases e)), L.ls _ hl]
    show Option.map _ _ = Option.map _ _
    by_cases hi : i < σ.nodes.length
    · rw [isEl_ins hi]
      cases isEl σ i with
      | none => rfl
      | some y => simp only [Option.map_some]; split <;> rfl
    · rw [(big i hi q).1, (big i hi q).2]
  case latt i =>
    by_cases q : i = σ.nodes.length
    · subst q; exact h3
    rw [ho _ hl (by first | exact Loc.ne_tag rfl | (intro e; cases e)) (by first | exact Loc.ne_tag rfl | (intro e; cases e)) (fun e => q (Loc.latt.inj e)) (by first | exact Loc.ne_tag rfl | (intro e; cases e)), L.ls _ hl]
    show Option.map _ _ = Option.map _ _
    by_cases hi : i < σ.nodes.length
    · rw [isEl_ins hi]
      cases isEl σ i with
      | none => rfl
      | some y => simp only [Option.map_some]; split <;> rfl
    · rw [(big i hi q).1, (big i hi q).2]
  case lkid i =>
    by_cases q : i = σ.nodes.length
    · subst q; exact h4
    by_cases e : i = p
    · subst e
      rw [h1]
      show _ = Option.map _ _
      rw [isEl_ins hpl, hp]
      simp only [Option.map_some, if_pos]
      rw [List.map_append, kvs i x hp]; rfl
    · rw [ho _ hl (fun z => e (Loc.lkid.inj z)) (by first | exact Loc.ne_tag rfl | (intro e; cases e)) (by first | exact Loc.ne_tag rfl | (intro e; cases e)) (fun e => q (Loc.lkid.inj e)), L.ls _ hl]
      show Option.map _ _ = Option.map _ _
      by_cases hi : i < σ.nodes.length
      · rw [isEl_ins hi]
        cases g : isEl σ i with
        | none => rfl
        | some y => simp only [Option.map_some]; rw [if_neg (fun z => e z.symm), kvs i y g]
      · rw [(big i hi q).1, (big i hi q).2]; rfl
  all_goals (cases hl; done)
theorem isEl_get {σ : St} {i : Nat} {y : Nd} (hy : isEl σ i = some y) : σ.nodes[i]? = some y ∧ (y.kind = "element" ∨ y.kind = "document") ∧ (i : Int) ≠ σ.ctx := by
  unfold isEl at hy
  split at hy
  · split at hy
    · rename_i q c; cases hy; exact ⟨q, c⟩
    · cases hy
  · cases hy
theorem isEl_of {σ : St} {i : Nat} {y : Nd} (h1 : σ.nodes[i]? = some y) (h2 : y.kind = "element" ∨ y.kind = "document") (h3 : (i : Int) ≠ σ.ctx) : isEl σ i = some y := by
  unfold isEl; rw [h1]; exact if_pos ⟨h2, h3⟩
theorem LK.setText {N E k : Nat} {H : MH} {σ : St} (w : WF N E σ) (L : LK k H σ) {x y : Nd} {p j : Nat} {l : List Nat} (hp : isEl σ p = some x) (hk : x.kids = l ++ [j]) (hj : σ.nodes[j]? = some y) (hy : y.kind = "text") (c : Str) :
    LK k (H.put (.lkid p) (.list (l.map (kidV σ.nodes) ++ [.str (y.text ++ c)]))) (setText σ j c) := by
  have gp := isEl_get hp
  have o := w.nd p x gp.1
  have par : ∀ i (z : Nd), σ.nodes[i]? = some z → j ∈ z.kids → i = p := fun i z hz hm => by
    obtain ⟨u, hu, hu2, _⟩ := (w.nd i z hz).kid j hm
    obtain ⟨v, hv, hv2, _⟩ := o.kid j (by rw [hk]; simp)
    rw [hj] at hu hv; cases hu; cases hv
    have : (i : Int) = p := hu2.symm.trans hv2
    omega
  have kv : ∀ i, i ≠ j → kidV (Mine.Internal.setText σ j c).nodes i = kidV σ.nodes i := fun i hi => by
    unfold kidV; rw [setText_get, if_neg (fun e => hi e.symm)]
  have kj : kidV (Mine.Internal.setText σ j c).nodes j = .str (y.text ++ c) := by
    unfold kidV; rw [setText_get, if_pos rfl, hj]; simp only [Option.map_some, if_pos hy]
  have ie : ∀ i, isEl (Mine.Internal.setText σ j c) i = isEl σ i := fun i => by
    unfold isEl
    rw [setText_get]
    show (match (_ : Option Nd) with | some n => if (_ ∧ (i : Int) ≠ σ.ctx) then _ else _ | none => _) = _
    by_cases e : j = i
    · subst e
      rw [if_pos rfl, hj]
      simp only [Option.map_some, hy]
      rw [if_neg (by rintro ⟨h | h, _⟩ <;> revert h <;> decide +kernel), if_neg (by rintro ⟨h | h, _⟩ <;> revert h <;> decide +kernel)]
    · (rw [if_neg e]) <;> (cases σ.nodes[i]? <;> rfl)
  refine ⟨L.lt, put_other (by first | exact Loc.ne_tag rfl | (intro e; cases e)) L.pa, fun l' hl => ?_⟩
  cases l'
  case state => exact (put_other (by first | exact Loc.ne_tag rfl | (intro e; cases e)) rfl).trans (L.ls _ hl)
  case notes => exact (put_other (by first | exact Loc.ne_tag rfl | (intro e; cases e)) rfl).trans (L.ls _ hl)
  case lnode i => rw [put_other (by first | exact Loc.ne_tag rfl | (intro e; cases e)) (L.ls _ hl)]; show Option.map _ _ = Option.map _ _; rw [ie]
  case latt i => rw [put_other (by first | exact Loc.ne_tag rfl | (intro e; cases e)) (L.ls _ hl)]; show Option.map _ _ = Option.map _ _; rw [ie]
  case lkid i =>
    by_cases e : i = p
    · subst e
      rw [put_same]
      show _ = Option.map _ _
      rw [ie, hp]
      simp only [Option.map_some]
      rw [hk, List.map_append, List.map_cons, List.map_nil, kj]
      congr 3
      refine List.map_congr_left fun a ha => (kv a fun z => ?_).symm
      have nd := o.nod
      rw [hk, List.nodup_append] at nd
      exact nd.2.2 a ha j (by simp) z
    · rw [put_other (fun z => e (Loc.lkid.inj z)) (L.ls _ hl)]
      show Option.map _ _ = Option.map _ _
      rw [ie]
      cases g : isEl σ i with
      | none => rfl
      | some z =>
        simp only [Option.map_some]
        congr 2
        refine List.map_congr_left fun a ha => (kv a fun q => ?_).symm
        subst q
        exact e (par i z (isEl_get g).1 ha)
  all_goals (cases hl; done)
noncomputable def spaces2 : List Str := ["\r", "\n", "\x0c", "\t", " "]
noncomputable def Tk.sort : Tk → Str
  | .ch c => if spaces2.any (· == c) = true then "space" else "sign"
  | .start n _ _ => ("start" : Str) ++ " " ++ n
  | .fin n => ("end" : Str) ++ " " ++ n
  | .com _ => "comment"
  | .doc => "doctype"
  | .eof => "eof"
theorem start_len {n : Str} (h : n ∈ startsL) : n.length ≤ 10 := of_decide_eq_true (all_of (p := fun n => decide (n.length ≤ 10)) (by decide +kernel : startsL.all _ = true) h)
theorem end_len {n : Str} (h : n ∈ endsL) : n.length ≤ 10 := of_decide_eq_true (all_of (p := fun n => decide (n.length ≤ 10)) (by decide +kernel : endsL.all _ = true) h)
section
variable {M : Amb} {d : Nat} {cl : List (Str × Loc)} {ml : List (Str × V)} {H : MH}
theorem w_law_sort (F : Facts M.K) {t : Tk} (ht : t.ok) {Q : V → MH → Prop} (h : Q (.str t.sort) H) : CALL M (d + 1) cl ml H 722 [tkV t] Q := by
  refine CALL_go (at_law_sort F) b_law_sort rfl rfl rfl ?_
  cases t with
  | ch c =>
    simp only [tkV]
    by_cases e : spaces2.any (· == c) = true
    · have hq : Tk.sort (.ch c) = "space" := if_pos e
      rw [hq] at h
      walk_at "m.run"
      exact h
    · have hq : Tk.sort (.ch c) = "sign" := if_neg e
      rw [hq] at h
      walk_at "m.run"
      exact h
  | start n a s =>
    have hl := start_len ht.1
    simp only [tkV]
    walk_at "m.run"
    refine OP_add_str (by decide) ?_
    walk_at "m.run"
    refine OP_add_str (by rw [str_len]; have : (Str.ofString "start").length = 5 := by decide
                          have : (Str.ofString " ").length = 1 := by decide
                          omega) ?_
    walk_at "m.run"
    exact h
  | fin n =>
    have hl := end_len ht
    simp only [tkV]
    walk_at "m.run"
    refine OP_add_str (by decide) ?_
    walk_at "m.run"
    refine OP_add_str (by rw [str_len]; have : (Str.ofString "end").length = 3 := by decide
                          have : (Str.ofString " ").length = 1 := by decide
                          omega) ?_
    walk_at "m.run"
    exact h
  | com c =>
    simp only [tkV]
    walk_at "m.run"
    exact h
  | doc =>
    simp only [tkV]
    walk_at "m.run"
    exact h
  | eof =>
    simp only [tkV]
    walk_at "m.run"
    exact h
theorem w_law_stop (hpu : M.pu = false) (F : Facts M.K) {k : Nat} {σ : St} (L : LK k H σ) {Q : V → MH → Prop} (h : ∀ H' k', LK k' H' (stopN σ) → Keep Loc.isL H H' → Q .none H') : CALL M (d + 1) cl ml H 743 [.cell .state] Q := by
  refine CALL_go (at_law_stop F) b_law_stop rfl rfl rfl ?_
  walk_at "m.run"
  refine TE_list (l := .tmp H.nx) (fun _ => rfl) ?_
  walk_at "m.run"
  refine ⟨by walk_at "m.free", ?_⟩
  walk_at "m.run"
  refine ⟨_, Stored.dict (by walk_at "m.cell") (Nat.le_of_ble_eq_true rfl), ?_⟩
  have L1 := L.path (j := H.nx) (H1 := H.add (.tmp H.nx) (.list [])) (st := []) (by walk_at "m.keep") (fun l hl => add_other (fun e => by subst e; cases hl) rfl) (lt_bump _ _) add_same
  have k1 : Keep Loc.isL H ((H.add (.tmp H.nx) (.list [])).put .state (.dict (putE (stD (.tmp k) σ) "path" (.cell (.tmp H.nx))))) := by walk_at "m.keep"
  generalize (H.add (.tmp H.nx) (.list [])).put .state (.dict (putE (stD (.tmp k) σ) "path" (.cell (.tmp H.nx)))) = H1 at *
  walk_at "m.run"
  refine ⟨_, Stored.dict (by walk_at "m.cell") (Nat.le_of_ble_eq_true rfl), ?_⟩
  walk_at "m.run"
  exact h _ _ (L1.done true) (k1.put' rfl)
end
theorem LK.atmp {k j : Nat} {H : MH} {σ : St} {x : Cell} (L : LK k H σ) (hj : H.nx ≤ j) : LK k (H.add (.tmp j) x) σ :=
  L.same rfl rfl (Nat.lt_of_lt_of_le L.lt (le_bump (.tmp j) H.nx)) (add_other (fun e => by have := L.lt; cases e; omega) L.pa) (add_other (by first | exact Loc.ne_tag rfl | (intro e; cases e)) L.state) (add_other (by first | exact Loc.ne_tag rfl | (intro e; cases e)) L.notes) fun l hl _ _ => add_other (fun e => by subst e; cases hl) rfl
theorem LK.none_at {k : Nat} {H : MH} {σ : St} (L : LK k H σ) : H.c (.lnode σ.nodes.length) = none ∧ H.c (.latt σ.nodes.length) = none ∧ H.c (.lkid σ.nodes.length) = none := by
  have e : isEl σ σ.nodes.length = none := by unfold isEl; rw [List.getElem?_eq_none (Nat.le_refl _)]
  refine ⟨(L.ls _ rfl).trans ?_, (L.ls _ rfl).trans ?_, (L.ls _ rfl).trans ?_⟩ <;> (show Option.map _ _ = _; rw [e]; rfl)
noncomputable def Tk.refu : Tk → Prop
  | .com _ => False
  | .eof => False
  | _ => True
section
variable {M : Amb} {d : Nat} {cl : List (Str × Loc)} {ml : List (Str × V)} {H : MH}
theorem w_law_refuse (hpu : M.pu = false) (F : Facts M.K) {k : Nat} {σ : St} (L : LK k H σ) (hz : σ.errs.length ≤ 900) {t : Tk} (hr : t.refu) {Q : V → MH → Prop} (h : ∀ H', LK k H' (refN σ t) → Keep Loc.isL H H' → Q .none H') : CALL M (d + 1) cl ml H 757 [.cell .state, tkV t] Q := by
  refine CALL_go (at_law_refuse F) b_law_refuse rfl rfl rfl ?_
  walk_at "m.run"
  refine TE_dict (l := .tmp H.nx) rfl rfl rfl (by simp) (by decide) ?_
  walk_at "m.run"
  refine ⟨by decide +kernel, by walk_at "m.free", ?_⟩
  have L1 : LK k (H.add (.tmp H.nx) (.dict [("char", .str "unexpected-text"), ("doctype", .str "unexpected-doctype")])) σ :=
    L.atmp (Nat.le_refl _)
  have k1 : Keep Loc.isL H (H.add (.tmp H.nx) (.dict [("char", .str "unexpected-text"), ("doctype", .str "unexpected-doctype")])) := by walk_at "m.keep"
  have hw : (H.add (.tmp H.nx) (.dict [("char", .str "unexpected-text"), ("doctype", .str "unexpected-doctype")])).c (.tmp H.nx) = some (.dict [("char", .str "unexpected-text"), ("doctype", .str "unexpected-doctype")]) := add_same
  generalize H.add (.tmp H.nx) (.dict [("char", .str "unexpected-text"), ("doctype", .str "unexpected-doctype")]) = H1 at *
  cases t with
  | com c => exact hr.elim
  | eof => exact hr.elim
  | ch c =>
    simp only [tkV]
    walk_at "m.run"
    refine OP_add_str (by decide) ?_
    walk_at "m.run"
    refine OP_add_str (by decide +kernel) ?_
    walk_at "m.run"
    exact h _ (L1.err _) (k1.put' rfl)
  | doc =>
    simp only [tkV]
    walk_at "m.run"
    refine OP_add_str (by decide) ?_
    walk_at "m.run"
    refine OP_add_str (by decide +kernel) ?_
    walk_at "m.run"
    exact h _ (L1.err _) (k1.put' rfl)
  | start n a s =>
    simp only [tkV]
    walk_at "m.run"
    refine OP_add_str (by decide) ?_
    walk_at "m.run"
    refine OP_add_str (by decide +kernel) ?_
    walk_at "m.run"
    exact h _ (L1.err _) (k1.put' rfl)
  | fin n =>
    simp only [tkV]
    walk_at "m.run"
    refine OP_add_str (by decide) ?_
    walk_at "m.run"
    refine OP_add_str (by decide +kernel) ?_
    walk_at "m.run"
    exact h _ (L1.err _) (k1.put' rfl)
end
theorem LK.leaf {N E k : Nat} {H : MH} {σ : St} (w : WF N E σ) (L : LK k H σ) {nd x : Nd} {p : Nat} (hp : isEl σ p = some x) (hk : nd.kind ≠ "element") (hk2 : nd.kind ≠ "document") {v : V} (hv : ∀ ns : List Nd, ∀ i, ns[i]? = some { nd with par := p } → kidV ns i = v) :
    LK k (H.put (.lkid p) (.list (x.kids.map (kidV σ.nodes) ++ [v]))) (insN σ nd p) := by
  have hpl := lt_of_get (isEl_get hp).1
  have e : isEl (insN σ nd p) σ.nodes.length = none := by
    unfold isEl
    rw [insN_new]
    exact if_neg fun h => h.1.elim hk hk2
  have n0 := L.none_at
  refine L.ins w.kd hp hpl ?_ ?_ ?_ ?_ L.lt (put_other (by first | exact Loc.ne_tag rfl | (intro e; cases e)) rfl) fun l _ a _ _ _ => put_other a rfl
  · rw [put_same, hv _ _ insN_new]
  · rw [put_other (by first | exact Loc.ne_tag rfl | (intro e; cases e)) n0.1]; show none = Option.map _ _; rw [e]; rfl
  · rw [put_other (by first | exact Loc.ne_tag rfl | (intro e; cases e)) n0.2.1]; show none = Option.map _ _; rw [e]; rfl
  · rw [put_other (fun e => by cases e; omega) n0.2.2]; show none = Option.map _ _; rw [e]; rfl
section
variable {M : Amb} {d : Nat} {cl : List (Str × Loc)} {ml : List (Str × V)} {H : MH}
theorem w_law_put (hpu : M.pu = false) (F : Facts M.K) {N E k : Nat} {σ : St} (w : WF N E σ) (hN : N ≤ 800) (L : LK k H σ) {x : Nd} {p : Nat} (hp : isEl σ p = some x) {c : Str} (hc : c.length ≤ 10) {Q : V → MH → Prop} (h : ∀ H', LK k H' (signN σ p x c) → Keep Loc.isL H H' → Q .none H') : CALL M (d + 1) cl ml H 729 [lnV p, .str c] Q := by
  refine CALL_go (at_law_put F) b_law_put rfl rfl rfl ?_
  have hnode := L.node hp
  have hkid := L.kid hp
  have o := w.nd p x (isEl_get hp).1
  have hkl := o.kl
  have hleaf : LK k (H.put (.lkid p) (.list (x.kids.map (kidV σ.nodes) ++ [.str c]))) (insN σ (txtN c) p) := L.leaf w hp (by show ("text" : Str) ≠ "element"; decide) (by show ("text" : Str) ≠ "document"; decide) fun ns i e => by unfold kidV; rw [e]; exact if_pos rfl
  walk_at "m.run"
  rcases List.eq_nil_or_concat x.kids with e | ⟨l, j, e⟩
  · have hq : signN σ p x c = insN σ (txtN c) p := by unfold signN; rw [e]; rfl
    rw [hq] at h
    refine ite_neg (by rw [e]; simp) ?_
    walk_at "m.run"
    exact h _ hleaf (Keep.put rfl)
  · have e : x.kids = l ++ [j] := e.trans (List.concat_eq_append ..)
    obtain ⟨y, hy, _, hyc, hyk⟩ := o.kid j (by rw [e]; simp)
    refine ite_pos (by rw [e]; simp <;> omega) ?_
    have hlast : (x.kids.map (kidV σ.nodes)).getLast? = some (kidV σ.nodes j) := by rw [e]; simp
    walk_at "m.run"
    by_cases e2 : y.kind = "text"
    · have hq : signN σ p x c = setText σ j c := by unfold signN; rw [e, List.getLast?_concat]; simp only [hy, if_pos e2]
      rw [hq] at h
      have hkv : kidV σ.nodes j = .str y.text := by unfold kidV; rw [hy]; exact if_pos e2
      have hty := (w.nd j y hy).tl
      rw [hkv] at hlast ⊢
      refine B_isstr (b := true) rfl (by intro l e; cases e) ?_
      walk_at "m.run"
      refine OP_add_str (by omega) ?_
      walk_at "m.run"
      have hkid2 : H.c (.lkid p) = some (.list (l.map (kidV σ.nodes) ++ [.str y.text])) := by rw [hkid, e, List.map_append, List.map_cons, List.map_nil, hkv]
      refine ⟨_, Stored.last hkid2, ?_⟩
      walk_at "m.run"
      exact h _ (L.setText w hp e hy e2 c) (Keep.put rfl)
    · have hq : signN σ p x c = insN σ (txtN c) p := by unfold signN; rw [e, List.getLast?_concat]; simp only [hy, if_neg e2]
      rw [hq] at h
      refine B_isstr (b := false) ?_ ?_ ?_
      · unfold kidV; rw [hy]; simp only [if_neg e2]; split <;> rfl
      · intro l' hl'
        rcases hyk with q | q | q
        · have hj := isEl_of hy (.inl q) hyc
          unfold kidV at hl'
          rw [hy] at hl'
          simp only [if_neg e2] at hl'
          split at hl'
          · cases hl'
          · cases hl'; exact ⟨_, L.node hj⟩
        · exact absurd q e2
        · unfold kidV at hl'
          rw [hy] at hl'
          simp only [if_neg e2, if_pos q] at hl'
          cases hl'
      walk_at "m.run"
      exact h _ hleaf (Keep.put rfl)
theorem w_law_grow0 (hpu : M.pu = false) (F : Facts M.K) {N k : Nat} {σ : St} (h2 : σ.stack.length ≤ N) (kd : KidOK σ) (hc : (σ.nodes.length : Int) ≠ σ.ctx) (hN : N ≤ 800) (L : LK k H σ) {x : Nd} (hp : isEl σ (curP σ.stack) = some x) (hkl : x.kids.length ≤ N) {name : Str} {attrs : List V} (ha : attrs.length ≤ 900) {keeps : Bool} {Q : V → MH → Prop}
    (h : ∀ H' k', LK k' H' (if keeps = true then growN σ name attrs else insN σ (elN name attrs) (curP σ.stack)) → Keep Loc.isL H H' → Q .none H') : CALL M (d + 1) cl ml H 736 [.cell .state, .str name, .tup attrs, .bool keeps] Q := by
  refine CALL_go (at_law_grow F) b_law_grow rfl rfl rfl ?_
  have n0 := L.none_at
  have hnode := L.node hp
  have hkid := L.kid hp
  have hpl := lt_of_get (isEl_get hp).1
  walk_at "m.run"
  refine TE_list (l := .lnode σ.nodes.length) (fun _ => rfl) ?_
  walk_at "m.run"
  refine B_list_copy (l := .latt σ.nodes.length) (free_of n0.2.1 (fun _ => nofun)) (by omega) ?_
  walk_at "m.run"
  refine TE_list (l := .lkid σ.nodes.length) (fun _ => rfl) ?_
  walk_at "m.run"
  refine ⟨free_of (add_other (by first | exact Loc.ne_tag rfl | (intro e; cases e)) n0.2.2) (fun _ => nofun), ?_⟩
  walk_at "m.run"
  refine ⟨free_of (add_other (by first | exact Loc.ne_tag rfl | (intro e; cases e)) (add_other (by first | exact Loc.ne_tag rfl | (intro e; cases e)) n0.1)) (fun _ => nofun), ?_⟩
  -- the new node's cells
  have c1 : (((H.add (.latt σ.nodes.length) (.list attrs)).add (.lkid σ.nodes.length) (.list [])).add (.lnode σ.nodes.length) (.list [.str name, .cell (.latt σ.nodes.length), .cell (.lkid σ.nodes.length)])).c (.lnode σ.nodes.length) = some (.list [.str name, .cell (.latt σ.nodes.length), .cell (.lkid σ.nodes.length)]) := add_same
  have c2 : (((H.add (.latt σ.nodes.length) (.list attrs)).add (.lkid σ.nodes.length) (.list [])).add (.lnode σ.nodes.length) (.list [.str name, .cell (.latt σ.nodes.length), .cell (.lkid σ.nodes.length)])).c (.latt σ.nodes.length) = some (.list attrs) := add_other (by first | exact Loc.ne_tag rfl | (intro e; cases e)) (add_other (by first | exact Loc.ne_tag rfl | (intro e; cases e)) add_same)
  have c3 : (((H.add (.latt σ.nodes.length) (.list attrs)).add (.lkid σ.nodes.length) (.list [])).add (.lnode σ.nodes.length) (.list [.str name, .cell (.latt σ.nodes.length), .cell (.lkid σ.nodes.length)])).c (.lkid σ.nodes.length) = some (.list []) := add_other (by first | exact Loc.ne_tag rfl | (intro e; cases e)) add_same
  have c4 : ∀ l, l ≠ .lnode σ.nodes.length → l ≠ .latt σ.nodes.length → l ≠ .lkid σ.nodes.length → (((H.add (.latt σ.nodes.length) (.list attrs)).add (.lkid σ.nodes.length) (.list [])).add (.lnode σ.nodes.length) (.list [.str name, .cell (.latt σ.nodes.length), .cell (.lkid σ.nodes.length)])).c l = H.c l := fun l a b c => add_other a (add_other c (add_other b rfl))
  have c5 : (((H.add (.latt σ.nodes.length) (.list attrs)).add (.lkid σ.nodes.length) (.list [])).add (.lnode σ.nodes.length) (.list [.str name, .cell (.latt σ.nodes.length), .cell (.lkid σ.nodes.length)])).nx = H.nx := rfl
  have c6 : Keep Loc.isL H (((H.add (.latt σ.nodes.length) (.list attrs)).add (.lkid σ.nodes.length) (.list [])).add (.lnode σ.nodes.length) (.list [.str name, .cell (.latt σ.nodes.length), .cell (.lkid σ.nodes.length)])) := by walk_at "m.keep"
  generalize ((H.add (.latt σ.nodes.length) (.list attrs)).add (.lkid σ.nodes.length) (.list [])).add (.lnode σ.nodes.length) (.list [.str name, .cell (.latt σ.nodes.length), .cell (.lkid σ.nodes.length)]) = H1 at *
  have hst : H1.c .state = some (.dict (stD (.tmp k) σ)) := (c4 _ (by first | exact Loc.ne_tag rfl | (intro e; cases e)) (by first | exact Loc.ne_tag rfl | (intro e; cases e)) (by first | exact Loc.ne_tag rfl | (intro e; cases e))).trans L.state
  have hpa : H1.c (.tmp k) = some (.list (σ.stack.map lnV)) := (c4 _ (by first | exact Loc.ne_tag rfl | (intro e; cases e)) (by first | exact Loc.ne_tag rfl | (intro e; cases e)) (by first | exact Loc.ne_tag rfl | (intro e; cases e))).trans L.pa
  have hnode : H1.c (.lnode (curP σ.stack)) = some (.list [.str x.name, .cell (.latt (curP σ.stack)), .cell (.lkid (curP σ.stack))]) := (c4 _ (fun e => by have := Loc.lnode.inj e; omega) (by first | exact Loc.ne_tag rfl | (intro e; cases e)) (by first | exact Loc.ne_tag rfl | (intro e; cases e))).trans hnode
  have hkid : H1.c (.lkid (curP σ.stack)) = some (.list (x.kids.map (kidV σ.nodes))) := (c4 _ (by first | exact Loc.ne_tag rfl | (intro e; cases e)) (by first | exact Loc.ne_tag rfl | (intro e; cases e)) (fun e => by have := Loc.lkid.inj e; omega)).trans hkid
  -- the last open element takes it
  have L2 : LK k (H1.put (.lkid (curP σ.stack)) (.list (x.kids.map (kidV σ.nodes) ++ [lnV σ.nodes.length]))) (insN σ (elN name attrs) (curP σ.stack)) := by
    have ie : isEl (insN σ (elN name attrs) (curP σ.stack)) σ.nodes.length = some { elN name attrs with par := curP σ.stack } := isEl_of insN_new (.inl rfl) hc
    refine L.ins kd hp hpl ?_ ?_ ?_ ?_ ?_ ?_ ?_
    · rw [put_same]
      have : kidV (insN σ (elN name attrs) (curP σ.stack)).nodes σ.nodes.length = lnV σ.nodes.length := by
        unfold kidV; rw [insN_new]; exact (if_neg (by show ¬ ("element" : Str) = "text"; decide)).trans (if_neg (by show ¬ ("element" : Str) = "comment"; decide))
      rw [this]
    · rw [put_other (by first | exact Loc.ne_tag rfl | (intro e; cases e)) c1]; show _ = Option.map _ _; rw [ie]; rfl
    · rw [put_other (by first | exact Loc.ne_tag rfl | (intro e; cases e)) c2]; show _ = Option.map _ _; rw [ie]; rfl
    · rw [put_other (fun e => by have := Loc.lkid.inj e; omega) c3]; show _ = Option.map _ _; rw [ie]; rfl
    · show k < H1.nx; rw [c5]; exact L.lt
    · rw [put_other (by first | exact Loc.ne_tag rfl | (intro e; cases e)) hpa, L.pa]
    · intro l _ a b c dd
      rw [put_other a rfl, c4 l b c dd]
  have k2 : Keep Loc.isL H (H1.put (.lkid (curP σ.stack)) (.list (x.kids.map (kidV σ.nodes) ++ [lnV σ.nodes.length]))) := c6.put' rfl
  walk_at "m.run"
  rcases List.eq_nil_or_concat σ.stack with e | ⟨l, n, e⟩
  · refine ite_neg (by rw [e]; simp) ?_
    have hcp : curP σ.stack = 0 := by rw [e]; rfl
    walk_at "m.run"
    rw [show V.cell (Loc.lnode 0) = lnV (curP σ.stack) from by rw [hcp]]
    walk_at "m.run"
    revert L2 k2
    generalize H1.put (.lkid (curP σ.stack)) (.list (x.kids.map (kidV σ.nodes) ++ [lnV σ.nodes.length])) = H2
    intro L2 k2
    cases keeps with
    | false =>
      walk_at "m.run"
      exact h _ _ L2 k2
    | true =>
      walk_at "m.run"
      refine TE_list (l := .tmp H2.nx) (fun _ => rfl) ?_
      walk_at "m.run"
      refine ⟨by walk_at "m.free", ?_⟩
      walk_at "m.run"
      refine OP_cat (l := .tmp (H2.nx + 1)) (xs := σ.stack.map lnV) (ys := [lnV σ.nodes.length]) (add_other (fun e => by have := L2.lt; have := Loc.tmp.inj e; omega) L2.pa) add_same (free_tmp (nx_le1 _)) (by simp; omega) ?_
      walk_at "m.run"
      refine ⟨_, Stored.dict (add_other (by first | exact Loc.ne_tag rfl | (intro e; cases e)) (add_other (by first | exact Loc.ne_tag rfl | (intro e; cases e)) L2.state)) (Nat.le_of_ble_eq_true rfl), ?_⟩
      have k4 : Keep Loc.isL H ((H2.add (.tmp H2.nx) (.list [lnV σ.nodes.length])).add (.tmp (H2.nx + 1)) (.list (σ.stack.map lnV ++ [lnV σ.nodes.length]))) := (k2.tmp' (Nat.le_refl _)).tmp' (nx_le1 _)
      have L4 := L2.path (j := H2.nx + 1) (H1 := (H2.add (.tmp H2.nx) (.list [lnV σ.nodes.length])).add (.tmp (H2.nx + 1)) (.list (σ.stack.map lnV ++ [lnV σ.nodes.length]))) (st := σ.stack ++ [σ.nodes.length]) ((Keep.refl _).tmp' (Nat.le_refl _) |>.tmp' (nx_le1 _))
        (fun l hl => add_other (fun e => by subst e; cases hl) (add_other (fun e => by subst e; cases hl) rfl)) (lt_bump _ _) (by rw [add_same, List.map_append]; rfl)
      walk_at "m.run"
      exact h _ _ L4 (k4.put' rfl)
  · have e : σ.stack = l ++ [n] := e.trans (List.concat_eq_append ..)
    refine ite_pos (by rw [e]; simp <;> omega) ?_
    have hcp : curP σ.stack = n := by rw [e, curP_snoc]
    have hlast : (σ.stack.map lnV).getLast? = some (lnV (curP σ.stack)) := by rw [hcp, e]; simp
    walk_at "m.run"
    revert L2 k2
    generalize H1.put (.lkid (curP σ.stack)) (.list (x.kids.map (kidV σ.nodes) ++ [lnV σ.nodes.length])) = H2
    intro L2 k2
    cases keeps with
    | false =>
      walk_at "m.run"
      exact h _ _ L2 k2
    | true =>
      walk_at "m.run"
      refine TE_list (l := .tmp H2.nx) (fun _ => rfl) ?_
      walk_at "m.run"
      refine ⟨by walk_at "m.free", ?_⟩
      walk_at "m.run"
      refine OP_cat (l := .tmp (H2.nx + 1)) (xs := σ.stack.map lnV) (ys := [lnV σ.nodes.length]) (add_other (fun e => by have := L2.lt; have := Loc.tmp.inj e; omega) L2.pa) add_same (free_tmp (nx_le1 _)) (by simp; omega) ?_
      walk_at "m.run"
      refine ⟨_, Stored.dict (add_other (by first | exact Loc.ne_tag rfl | (intro e; cases e)) (add_other (by first | exact Loc.ne_tag rfl | (intro e; cases e)) L2.state)) (Nat.le_of_ble_eq_true rfl), ?_⟩
      have k4 : Keep Loc.isL H ((H2.add (.tmp H2.nx) (.list [lnV σ.nodes.length])).add (.tmp (H2.nx + 1)) (.list (σ.stack.map lnV ++ [lnV σ.nodes.length]))) := (k2.tmp' (Nat.le_refl _)).tmp' (nx_le1 _)
      have L4 := L2.path (j := H2.nx + 1) (H1 := (H2.add (.tmp H2.nx) (.list [lnV σ.nodes.length])).add (.tmp (H2.nx + 1)) (.list (σ.stack.map lnV ++ [lnV σ.nodes.length]))) (st := σ.stack ++ [σ.nodes.length]) ((Keep.refl _).tmp' (Nat.le_refl _) |>.tmp' (nx_le1 _))
        (fun l hl => add_other (fun e => by subst e; cases hl) (add_other (fun e => by subst e; cases hl) rfl)) (lt_bump _ _) (by rw [add_same, List.map_append]; rfl)
      walk_at "m.run"
      exact h _ _ L4 (k4.put' rfl)
theorem w_law_grow (hpu : M.pu = false) (F : Facts M.K) {N E k : Nat} {σ : St} (w : WF N E σ) (hN : N ≤ 800) (L : LK k H σ) {x : Nd} (hp : isEl σ (curP σ.stack) = some x) {name : Str} {attrs : List V} (ha : attrs.length ≤ 900) {keeps : Bool} {Q : V → MH → Prop}
    (h : ∀ H' k', LK k' H' (if keeps = true then growN σ name attrs else insN σ (elN name attrs) (curP σ.stack)) → Keep Loc.isL H H' → Q .none H') : CALL M (d + 1) cl ml H 736 [.cell .state, .str name, .tup attrs, .bool keeps] Q :=
  w_law_grow0 hpu F w.zs w.kd w.nc hN L hp (w.nd _ x (isEl_get hp).1).kl ha h
end
section
variable {M : Amb} {d : Nat} {sc : Scope} {cl : List (Str × Loc)} {ml : List (Str × V)} {H : MH}
theorem TE_butlast2 {value upper : Expr} {p pos : Pos} {l : Loc} {Q : V → MH → Prop}
    (h : TE M d sc cl ml H value fun o H1 => TE M d sc cl ml H1 upper fun i H2 => ∃ l₁ xs, o = .cell l₁ ∧ i = .int (-1) ∧ H2.c l₁ = some (.list xs) ∧ xs.length ≤ 1000 ∧ H2.free l ∧ Q (.cell l) (H2.add l (.list xs.dropLast))) :
    TE M d sc cl ml H (.Subscript value (.Slice none (some upper) none p) pos) Q := by
  intro A base h₀ outer fenv env L m mm s wd Qm hs c k
  refine Subscript_ (h hs c fun o o' H1 w1 h1 t1 q1 x1 r1 c1 => wpAny_Slice (evalPart_none_step (evalPart_some_step (q1 hs c1 fun i i' H2 w2 h2 t2 q2 x2 r2 c2 => ?_))))
  obtain ⟨l₁, xs, rfl, rfl, hc, hz, hf, hq⟩ := q2
  obtain ⟨a, vs, n, rfl, e1, e2, e3, e4, e5⟩ := isList_of c2 hc (r1.ext _ x2)
  obtain ⟨t9, rfl⟩ : ∃ t, i' = .int (-1) t := by cases r2; exact ⟨_, rfl⟩
  rw [evalPart_none]
  have hp : slicePick vs.toArray none (some (-1)) none = vs.dropLast.toArray := by
    rw [kms_pick_eq]
    unfold kms_pick kms_lo kms_hi
    simp [List.dropLast_eq_take]
  have rd : VRs M.K w2 xs.dropLast vs.dropLast := by
    rw [List.dropLast_eq_take, List.dropLast_eq_take, e5]; exact e3.take _ _
  have F2 := c2.F.push { cls := .type "slice", data := .fields #[Value.none, Value.int (-1) t9, Value.none] }
  have N2 := News.push F2 (c2.N.grown fun _ _ e => Heap.get?_push_of_some _ e) (listOf vs.dropLast.toArray 0)
  rw [Heap.size_push] at N2
  obtain ⟨E, R, C⟩ := new_list (tk := t2) (n := 0) c2 hf rd (F2.push _) N2 fun p hp => Nat.lt_succ_of_lt (Heap.lt_size (c2.N p hp).1)
  refine wpAny_pure (tail_any (T := "list") (e4.push _).typeIs slot_list_getitem.lookup (wpAny_getItem_list_slice (e4.push _) (Heap.IsSliceOf.new ..) .none (.int _ _) .none (by simp) ?_ (by rw [List.size_toArray, e5]; exact Nat.le_trans hz (by decide))) rfl)
  rw [hp, Heap.size_push]
  exact k _ _ _ _ _ t2 hq ((x1.trans x2).trans E) R C
end
theorem WF.curEl {N E : Nat} {σ : St} (w : WF N E σ) (h : σ.stack ≠ []) : ∃ x : Nd, isEl σ (curP σ.stack) = some x := by
  obtain ⟨x, hx, _, h1, _, h3, _⟩ := w.cur' h
  exact ⟨x, isEl_of hx (.inl h1) h3⟩
theorem last_cur {l : List Nat} (h : l ≠ []) : (l.map lnV).getLast? = some (lnV (curP l)) := by
  obtain ⟨n, e⟩ := getLast_dropLast h
  rw [e, curP_snoc]; simp
section
variable {M : Amb} {d : Nat} {cl : List (Str × Loc)} {ml : List (Str × V)} {H : MH}
theorem w_law_leave (hpu : M.pu = false) (F : Facts M.K) {N E k : Nat} {σ : St} (w : WF N E σ) (hN : N ≤ 800) (hE : E ≤ 800) (L : LK k H σ) (hne : σ.stack ≠ []) {t : Tk} (hr : t.refu) {Q : V → MH → Prop}
    (h : ∀ H' k', LK k' H' (leaveN σ t) → Keep Loc.isL H H' → Q .none H') : CALL M (d + 2) cl ml H 764 [.cell .state, tkV t] Q := by
  refine CALL_go (at_law_leave F) b_law_leave rfl rfl rfl ?_
  have h2 := w.zs
  have h3 := w.ze
  unfold leaveN at h
  walk_at "m.run"
  by_cases e : decide ((σ.stack.length : Int) ≤ 1) = true
  · rw [if_pos e] at h
    have hl1 : σ.stack.length = 1 := by
      have := List.length_pos_iff.mpr hne
      have := of_decide_eq_true e
      omega
    refine ite_pos (by simp [hl1]) ?_
    walk_at "m.run"
    refine w_law_refuse hpu F L (by omega) hr fun H1 L1 k1 => ?_
    walk_at "m.run"
    exact h _ _ L1 k1
  · rw [if_neg e] at h
    have hl1 : ¬ σ.stack.length = 1 := fun q => e (by rw [q]; rfl)
    refine ite_neg (by simp <;> omega) ?_
    walk_at "m.run"
    refine TE_butlast2 (l := .tmp H.nx) ?_
    walk_at "m.run"
    refine ⟨.tmp k, σ.stack.map lnV, rfl, rfl, L.pa, by rw [List.length_map]; omega, by walk_at "m.free", ?_⟩
    rw [show (σ.stack.map lnV).dropLast = (σ.stack.dropLast).map lnV from (List.map_dropLast).symm]
    walk_at "m.run"
    refine ⟨_, Stored.dict (by walk_at "m.cell") (Nat.le_of_ble_eq_true rfl), ?_⟩
    have L1 : LK H.nx _ (popN σ) := L.path (j := H.nx) (H1 := H.add (.tmp H.nx) (.list (σ.stack.dropLast.map lnV))) (st := σ.stack.dropLast) ((Keep.refl _).tmp' (Nat.le_refl _)) (fun l hl => add_other (fun e => by subst e; cases hl) rfl) (lt_bump _ _) add_same
    have k1 : Keep Loc.isL H ((H.add (.tmp H.nx) (.list (σ.stack.dropLast.map lnV))).put .state (.dict (putE (stD (.tmp k) σ) "path" (.cell (.tmp H.nx))))) := ((Keep.refl _).tmp' (Nat.le_refl _)).put' rfl
    generalize (H.add (.tmp H.nx) (.list (σ.stack.dropLast.map lnV))).put .state (.dict (putE (stD (.tmp k) σ) "path" (.cell (.tmp H.nx)))) = H1 at *
    have hne1 : (popN σ).stack ≠ [] := by
      intro q
      have q : σ.stack.dropLast = [] := q
      have : σ.stack.length - 1 = 0 := by rw [← List.length_dropLast, q]; rfl
      have := List.length_pos_iff.mpr hne
      omega
    have h4 := w.popN.zs
    walk_at "m.run"
    by_cases e2 : (σ.ctx == -1) = true
    · rw [if_pos e2] at h
      have e2' : (σ.ctx != -1) = false := by rw [bne, e2]; rfl
      refine ite_pos (by show (!(σ.ctx != -1)) = true; rw [e2']; rfl) ?_
      obtain ⟨x, hx⟩ := w.popN.curEl hne1
      have hcn : curName (popN σ) = x.name := by unfold curName; rw [(isEl_get hx).1]
      rw [hcn] at h
      have hlast := last_cur hne1
      have hnode := L1.node hx
      walk_at "m.run"
      by_cases e3 : (x.name != "frameset") = true
      · rw [if_pos e3] at h
        walk_at "m.run"
        refine ⟨_, Stored.dict (by walk_at "m.cell") (Nat.le_of_ble_eq_true rfl), ?_⟩
        walk_at "m.run"
        exact h _ _ (L1.mode "after frameset") (k1.put' rfl)
      · rw [if_neg e3] at h
        walk_at "m.run"
        exact h _ _ L1 k1
    · rw [if_neg e2] at h
      have e2' : (σ.ctx != -1) = true := by rw [bne, Bool.eq_false_iff.mpr e2]; rfl
      refine ite_neg (by show ¬ (!(σ.ctx != -1)) = true; rw [e2']; decide) ?_
      walk_at "m.run"
      exact h _ _ L1 k1
end
noncomputable def toV (r : List (Str × Str)) : List (Str × V) := r.map fun p => (p.1, .str p.2)
noncomputable def rAB : List (Str × Str) := [("", "back"), ("space", "body"), ("start html", "body"), ("comment", "root"), ("doctype", "refuse"), ("end html", "after"), ("eof", "done")]
noncomputable def rIF : List (Str × Str) := [("", "refuse"), ("space", "here"), ("comment", "here"), ("start html", "body"), ("start frameset", "grow"), ("end frameset", "leave"), ("start frame", "void"), ("start noframes", "head"), ("eof", "stop")]
noncomputable def rAF : List (Str × Str) := [("", "refuse"), ("space", "here"), ("comment", "here"), ("start html", "body"), ("end html", "after"), ("start noframes", "head"), ("eof", "done")]
noncomputable def rAAB : List (Str × Str) := [("", "back"), ("comment", "document"), ("doctype", "body"), ("space", "body"), ("start html", "body"), ("eof", "done")]
noncomputable def rAAF : List (Str × Str) := [("", "refuse"), ("comment", "document"), ("doctype", "body"), ("space", "body"), ("start html", "body"), ("start noframes", "head"), ("eof", "done")]
noncomputable def rowT : List (Str × List (Str × Str)) := [("after body", rAB), ("in frameset", rIF), ("after frameset", rAF), ("after after body", rAAB), ("after after frameset", rAAF)]
structure RInv (H₀ H : MH) (r : Nat) (ps : List (Str × Nat × List (Str × Str))) : Prop where
  lt : r < H.nx
  ge : H₀.nx ≤ r
  rc : H.c (.tmp r) = some (.dict (ps.map fun p => (p.1, .cell (.tmp p.2.1))))
  rows : ∀ p ∈ ps, H.c (.tmp p.2.1) = some (.dict (toV p.2.2)) ∧ p.2.1 < H.nx ∧ p.2.1 ≠ r
  ot : ∀ l, (∀ j, l = .tmp j → j < H₀.nx) → H.c l = H₀.c l
theorem RInv.start (H : MH) : RInv H (H.add (.tmp H.nx) (.dict [])) H.nx [] :=
  ⟨lt_bump _ _, Nat.le_refl _, add_same, fun _ h => (nomatch h), fun l h => add_other (fun e => by have := h _ e; omega) rfl⟩
theorem RInv.step {H₀ H : MH} {r : Nat} {ps : List (Str × Nat × List (Str × Str))} (R : RInv H₀ H r ps) {name : Str} {row : List (Str × Str)} {es : List (Str × V)} (hes : es = toV row) (hn : (ps.any fun p => decide (p.1 = name)) = false) :
    RInv H₀ ((H.add (.tmp H.nx) (.dict es)).put (.tmp r) (.dict (putE (ps.map fun p => (p.1, V.cell (.tmp p.2.1))) name (.cell (.tmp H.nx))))) r (ps ++ [(name, H.nx, row)]) := by
  subst hes
  have hr := R.lt
  refine ⟨by show r < max _ _; omega, R.ge, ?_, fun p hp => ?_, fun l h => ?_⟩
  · rw [put_same]
    congr 2
    unfold putE
    rw [if_neg, List.map_append]
    · rfl
    · rw [List.any_map]
      show ¬ (ps.any fun p => decide (p.1 = name)) = true
      rw [hn]; decide
  · rcases List.mem_append.mp hp with hp | hp
    · obtain ⟨a, b, c⟩ := R.rows p hp
      refine ⟨?_, by show _ < max _ _; omega, c⟩
      rw [put_other (fun e => c (Loc.tmp.inj e)) (add_other (fun e => by have := Loc.tmp.inj e; omega) a)]
    · rw [List.mem_singleton.mp hp]
      refine ⟨?_, lt_bump _ _, by show H.nx ≠ r; omega⟩
      rw [put_other (fun e => by have := Loc.tmp.inj e; omega) add_same]
  · have g := R.ge
    rw [put_other (fun e => by have := h _ e; omega) (add_other (fun e => by have := h _ e; omega) rfl)]
    exact R.ot l h
section
variable {M : Amb} {d : Nat} {cl : List (Str × Loc)} {ml : List (Str × V)} {H : MH}
theorem w_law_rows (hpu : M.pu = false) (F : Facts M.K) {Q : V → MH → Prop} (h : ∀ H' r a b c e f, RInv H H' r [("after body", a, rAB), ("in frameset", b, rIF), ("after frameset", c, rAF), ("after after body", e, rAAB), ("after after frameset", f, rAAF)] → Q (.cell (.tmp r)) H') : CALL M (d + 1) cl ml H 694 [] Q := by
  refine CALL_go (at_law_rows F) b_law_rows rfl rfl rfl ?_
  walk_at "m.run"
  refine TE_dict_nil (l := .tmp H.nx) (by walk_at "m.free") ?_
  have R := RInv.start H
  revert R
  generalize H.add (.tmp H.nx) (.dict []) = H0
  intro R
  walk_at "m.run"
  refine TE_dict (l := .tmp H0.nx) rfl rfl rfl (by simp) (by decide) ?_
  walk_at "m.run"
  refine ⟨by decide +kernel, by walk_at "m.free", ?_⟩
  walk_at "m.run"
  refine ⟨_, Stored.dict (add_other (fun e => by have := Loc.tmp.inj e; have := R.lt; omega) R.rc) (Nat.le_of_ble_eq_true rfl), ?_⟩
  replace R := R.step (name := "after body") (row := rAB) (es := [("", .str "back"), ("space", .str "body"), ("start html", .str "body"), ("comment", .str "root"), ("doctype", .str "refuse"), ("end html", .str "after"), ("eof", .str "done")]) rfl rfl
  revert R
  generalize MH.put (H0.add _ _) _ _ = H1
  intro R
  walk_at "m.run"
  refine TE_dict (l := .tmp H1.nx) rfl rfl rfl (by simp) (by decide) ?_
  walk_at "m.run"
  refine ⟨by decide +kernel, by walk_at "m.free", ?_⟩
  walk_at "m.run"
  refine ⟨_, Stored.dict (add_other (fun e => by have := Loc.tmp.inj e; have := R.lt; omega) R.rc) (Nat.le_of_ble_eq_true rfl), ?_⟩
  replace R := R.step (name := "in frameset") (row := rIF) (es := [("", .str "refuse"), ("space", .str "here"), ("comment", .str "here"), ("start html", .str "body"), ("start frameset", .str "grow"), ("end frameset", .str "leave"), ("start frame", .str "void"), ("start noframes", .str "head"), ("eof", .str "stop")]) rfl rfl
  revert R
  generalize MH.put (H1.add _ _) _ _ = H2
  intro R
  walk_at "m.run"
  refine TE_dict (l := .tmp H2.nx) rfl rfl rfl (by simp) (by decide) ?_
  walk_at "m.run"
  refine ⟨by decide +kernel, by walk_at "m.free", ?_⟩
  walk_at "m.run"
  refine ⟨_, Stored.dict (add_other (fun e => by have := Loc.tmp.inj e; have := R.lt; omega) R.rc) (Nat.le_of_ble_eq_true rfl), ?_⟩
  replace R := R.step (name := "after frameset") (row := rAF) (es := [("", .str "refuse"), ("space", .str "here"), ("comment", .str "here"), ("start html", .str "body"), ("end html", .str "after"), ("start noframes", .str "head"), ("eof", .str "done")]) rfl rfl
  revert R
  generalize MH.put (H2.add _ _) _ _ = H3
  intro R
  walk_at "m.run"
  refine TE_dict (l := .tmp H3.nx) rfl rfl rfl (by simp) (by decide) ?_
  walk_at "m.run"
  refine ⟨by decide +kernel, by walk_at "m.free", ?_⟩
  walk_at "m.run"
  refine ⟨_, Stored.dict (add_other (fun e => by have := Loc.tmp.inj e; have := R.lt; omega) R.rc) (Nat.le_of_ble_eq_true rfl), ?_⟩
  replace R := R.step (name := "after after body") (row := rAAB) (es := [("", .str "back"), ("comment", .str "document"), ("doctype", .str "body"), ("space", .str "body"), ("start html", .str "body"), ("eof", .str "done")]) rfl rfl
  revert R
  generalize MH.put (H3.add _ _) _ _ = H4
  intro R
  walk_at "m.run"
  refine TE_dict (l := .tmp H4.nx) rfl rfl rfl (by simp) (by decide) ?_
  walk_at "m.run"
  refine ⟨by decide +kernel, by walk_at "m.free", ?_⟩
  walk_at "m.run"
  refine ⟨_, Stored.dict (add_other (fun e => by have := Loc.tmp.inj e; have := R.lt; omega) R.rc) (Nat.le_of_ble_eq_true rfl), ?_⟩
  replace R := R.step (name := "after after frameset") (row := rAAF) (es := [("", .str "refuse"), ("comment", .str "document"), ("doctype", .str "body"), ("space", .str "body"), ("start html", .str "body"), ("start noframes", .str "head"), ("eof", .str "done")]) rfl rfl
  revert R
  generalize MH.put (H4.add _ _) _ _ = H5
  intro R
  walk_at "m.run"
  exact h _ _ _ _ _ _ _ R
end
theorem TS_at {M : Amb} {d : Nat} {cl : List (Str × Loc)} {ml : List (Str × V)} {H : MH} {scp : Scope} {b : List Stmt} {s0 : Stmt} {rest : List Stmt} {k : ScopeKind} {nms : List (Str × NameKind)} {g co : Bool} {mo} {Q : FV → List (Str × V) → MH → Prop} (hbd : b = s0 :: rest) (hsc : scp = { kind := k, names := nms, isGenerator := g, isCoroutine := co, more := mo }) (h : TS M d { kind := k, names := nms, isGenerator := g, isCoroutine := co, more := mo } cl ml H (s0 :: rest) Q) : TS M d scp cl ml H b Q := by
  rw [hsc, hbd]; exact h
noncomputable def getS : List (Str × Str) → Str → Option Str
  | [], _ => none
  | (k, v) :: r, key => if k = key then some v else getS r key
theorem getE_toV {key : Str} : ∀ {r : List (Str × Str)}, getE (toV r) key = (getS r key).map .str
  | [] => rfl
  | (k, v) :: r => by
    rw [getE2_eq]
    show (if k = key then some (V.str v) else getE2 (toV r) key) = Option.map _ (if k = key then some v else getS r key)
    split
    · rfl
    · rw [← getE2_eq]; exact getE_toV
noncomputable def dflS (m : Str) : Str := if m = "after body" then "back" else if m = "in frameset" then "refuse" else if m = "after frameset" then "refuse" else if m = "after after body" then "back" else if m = "after after frameset" then "refuse" else "body"
noncomputable def restS (m : Str) : List (Str × Str) := if m = "after body" then rAB.tail else if m = "in frameset" then rIF.tail else if m = "after frameset" then rAF.tail else if m = "after after body" then rAAB.tail else if m = "after after frameset" then rAAF.tail else []
noncomputable def rowS (m : Str) : List (Str × Str) := ("", dflS m) :: restS m
noncomputable def actOf (m : Str) (t : Tk) : Str := (getS (rowS m) t.sort).getD (dflS m)
theorem modes_of {P : Str → Prop} {m : Str} (h : m ∈ modesL) (h1 : P "after body") (h2 : P "in frameset") (h3 : P "after frameset") (h4 : P "after after body") (h5 : P "after after frameset") (h6 : P "in body") : P m := by
  simp only [modesL, List.mem_cons, List.not_mem_nil, or_false] at h
  rcases h with e | e | e | e | e | e <;> rw [e] <;> assumption
theorem RInv.lk {H H' : MH} {r k : Nat} {ps : List (Str × Nat × List (Str × Str))} {σ : St} (R : RInv H H' r ps) (L : LK k H σ) : LK k H' σ ∧ Keep Loc.isL H H' := by
  have h1 := R.lt
  have h2 := R.ge
  have h3 := L.lt
  refine ⟨L.same rfl rfl (by omega) ((R.ot _ fun j e => by have := Loc.tmp.inj e; omega).trans L.pa) ((R.ot _ fun j e => by cases e).trans L.state) ((R.ot _ fun j e => by cases e).trans L.notes) (fun l hl _ _ => R.ot _ fun j e => by subst e; cases hl), ⟨by omega, fun l _ hl => R.ot l hl⟩⟩
section
variable {M : Amb} {d : Nat} {cl : List (Str × Loc)} {ml : List (Str × V)} {H : MH}
theorem B_get5 {l : Loc} {es : List (Str × V)} {key : Str} {x y : V} {Q : V → MH → Prop} (hc : H.c l = some (.dict es)) (hx : (getE es key).getD x = y) (h : Q y H) : CALB M d cl ml H (.builtin "dict.get") [.cell l, .str key, x] Q :=
  B_get2 hc (by rw [hx]; exact h)
theorem due_pre (hpu : M.pu = false) (F : Facts M.K) {k : Nat} {σ : St} (L : LK k H σ) (hm : σ.mode ∈ modesL) {t : Tk} (ht : t.ok) {Q : V → MH → Prop}
    (h : ∀ H' j, LK k H' σ → Keep Loc.isL H H' → TS M (d + 1) (sco (tS 65)) [] [("act", .str (actOf σ.mode t)), ("row", .cell (.tmp j)), ("mode", .str σ.mode), ("token", tkV t), ("state", .cell .state)] H' ((bd (tS 65)).drop 3) (backS Q)) : CALL M (d + 2) cl ml H 771 [.cell .state, tkV t] Q := by
  refine CALL_go (at_law_due F) b_law_due rfl rfl rfl ?_
  walk_at "m.run"
  refine w_law_rows hpu F fun H1 r i1 i2 i3 i4 i5 R => ?_
  obtain ⟨L1, k1⟩ := R.lk L
  have hrc := R.rc
  have hrow : ∃ j, (getE [("after body", V.cell (.tmp i1)), ("in frameset", .cell (.tmp i2)), ("after frameset", .cell (.tmp i3)), ("after after body", .cell (.tmp i4)), ("after after frameset", .cell (.tmp i5))] σ.mode).getD (.cell (.tmp H1.nx)) = .cell (.tmp j)
      ∧ (H1.add (.tmp H1.nx) (.dict [("", .str "body")])).c (.tmp j) = some (.dict (toV (rowS σ.mode))) := by
    have old : ∀ j row, H1.c (.tmp j) = some (.dict (toV row)) ∧ j < H1.nx ∧ j ≠ r → (H1.add (.tmp H1.nx) (.dict [("", .str "body")])).c (.tmp j) = some (.dict (toV row)) := fun j row ⟨a, b, _⟩ => add_other (fun e => by have := Loc.tmp.inj e; omega) a
    refine modes_of (P := fun m => ∃ j, (getE [("after body", V.cell (.tmp i1)), ("in frameset", .cell (.tmp i2)), ("after frameset", .cell (.tmp i3)), ("after after body", .cell (.tmp i4)), ("after after frameset", .cell (.tmp i5))] m).getD (.cell (.tmp H1.nx)) = .cell (.tmp j)
      ∧ (H1.add (.tmp H1.nx) (.dict [("", .str "body")])).c (.tmp j) = some (.dict (toV (rowS m)))) hm ?_ ?_ ?_ ?_ ?_ ?_
    · exact ⟨i1, rfl, old i1 rAB (R.rows _ (.head _))⟩
    · exact ⟨i2, rfl, old i2 rIF (R.rows _ (.tail _ (.head _)))⟩
    · exact ⟨i3, rfl, old i3 rAF (R.rows _ (.tail _ (.tail _ (.head _))))⟩
    · exact ⟨i4, rfl, old i4 rAAB (R.rows _ (.tail _ (.tail _ (.tail _ (.head _)))))⟩
    · exact ⟨i5, rfl, old i5 rAAF (R.rows _ (.tail _ (.tail _ (.tail _ (.tail _ (.head _))))))⟩
    · exact ⟨H1.nx, rfl, add_same⟩
  obtain ⟨j, hj1, hj2⟩ := hrow
  walk_at "m.run"
  refine TE_dict (l := .tmp H1.nx) rfl rfl rfl (by simp) (by decide) ?_
  walk_at "m.run"
  refine ⟨by decide +kernel, by walk_at "m.free", ?_⟩
  walk_at "m.run"
  refine B_get5 (add_other (fun e => by have := Loc.tmp.inj e; have := R.lt; omega) hrc) hj1 ?_
  have L2 : LK k (H1.add (.tmp H1.nx) (.dict [("", .str "body")])) σ := L1.atmp (Nat.le_refl _)
  have k2 : Keep Loc.isL H (H1.add (.tmp H1.nx) (.dict [("", .str "body")])) := k1.tmp' (Nat.le_refl _)
  revert hj2 L2 k2
  generalize H1.add (.tmp H1.nx) (.dict [("", .str "body")]) = H2
  intro hj2 L2 k2
  walk_at "m.run"
  refine w_law_sort F ht ?_
  walk_at "m.run"
  have ha : (getE (toV (rowS σ.mode)) t.sort).getD (.str (dflS σ.mode)) = .str (actOf σ.mode t) := by
    rw [getE_toV]; unfold actOf; cases getS (rowS σ.mode) t.sort <;> rfl
  refine B_get5 hj2 ha ?_
  exact h H2 j L2 k2
end
theorem starts_sort {n : Str} (h : n ∈ startsL) : ¬ (("start" : Str) ++ " " ++ n == "eof") = true ∧ ((("start" : Str) ++ " " ++ n == "start p") = (n == "p")) ∧ ¬ (("start" : Str) ++ " " ++ n == "end p") = true ∧ ¬ ((["end body", "end html"] : List Str).any (· == ("start" : Str) ++ " " ++ n)) = true := by
  have := all_of (p := fun n => !(("start" : Str) ++ " " ++ n == "eof") && ((("start" : Str) ++ " " ++ n == "start p") == (n == "p")) && !(("start" : Str) ++ " " ++ n == "end p") && !((["end body", "end html"] : List Str).any (· == ("start" : Str) ++ " " ++ n))) (by decide +kernel : startsL.all _ = true) h
  simp only [Bool.and_eq_true, Bool.not_eq_true'] at this
  obtain ⟨⟨⟨a, b⟩, c⟩, e⟩ := this
  exact ⟨by rw [a]; decide, eq_of_beq b, by rw [c]; decide, by rw [e]; decide⟩
theorem ends_sort {n : Str} (h : n ∈ endsL) : ¬ (("end" : Str) ++ " " ++ n == "eof") = true ∧ ¬ (("end" : Str) ++ " " ++ n == "start p") = true ∧ ((("end" : Str) ++ " " ++ n == "end p") = (n == "p")) ∧ ((["end body", "end html"] : List Str).any (· == ("end" : Str) ++ " " ++ n)) = (n == "body" || n == "html") ∧ ((("end" : Str) ++ " " ++ n == "end html") = (n == "html")) := by
  have := all_of (p := fun n => !(("end" : Str) ++ " " ++ n == "eof") && !(("end" : Str) ++ " " ++ n == "start p") && ((("end" : Str) ++ " " ++ n == "end p") == (n == "p")) && ((["end body", "end html"] : List Str).any (· == ("end" : Str) ++ " " ++ n) == (n == "body" || n == "html")) && ((("end" : Str) ++ " " ++ n == "end html") == (n == "html"))) (by decide +kernel : endsL.all _ = true) h
  simp only [Bool.and_eq_true, Bool.not_eq_true'] at this
  obtain ⟨⟨⟨⟨a, b⟩, c⟩, e⟩, f⟩ := this
  exact ⟨by rw [a]; decide, by rw [b]; decide, eq_of_beq c, eq_of_beq e, eq_of_beq f⟩
section
variable {M : Amb} {d : Nat} {cl : List (Str × Loc)} {ml : List (Str × V)} {H : MH}
theorem due_html (hpu : M.pu = false) (F : Facts M.K) {N E k : Nat} {σ : St} (w : WF N E σ) (hN : N ≤ 790) (hE : E ≤ 790) (L : LK k H σ) (hm : σ.mode = "after body") {Q : V → MH → Prop}
    (h : ∀ H' k' v, LK k' H' (abhN σ (.fin "html")) → Keep Loc.isL H H' → Q v H') : CALL M (d + 2) cl ml H 771 [.cell .state, tkV (.fin "html")] Q := by
  refine due_pre hpu F L w.md (t := .fin "html") (by show _ ∈ _; decide +kernel) fun H1 j L1 k1 => ?_
  have ha : actOf σ.mode (.fin "html") = "after" := by rw [hm]; decide +kernel
  have hz := w.ze
  rw [ha, hm]
  unfold abhN at h
  refine TS_at rfl rfl ?_
  simp only [tkV]
  walk_at "m.run"
  by_cases e : (σ.ctx != -1) = true
  · rw [if_pos e] at h
    walk_at "m.run"
    refine w_law_refuse (t := .fin "html") hpu F L1 (by omega) trivial fun H2 L2 k2 => ?_
    walk_at "m.run"
    exact h _ _ _ L2 (k1.trans k2)
  · rw [if_neg e] at h
    walk_at "m.run"
    refine OP_add_str (by decide) ?_
    walk_at "m.run"
    refine ⟨_, Stored.dict (by walk_at "m.cell") (Nat.le_of_ble_eq_true rfl), ?_⟩
    walk_at "m.run"
    have L2 := L1.mode (("after " : Str) ++ "after body")
    have e3 : ("after " : Str) ++ "after body" = "after after body" := by decide +kernel
    refine h _ k _ ?_ (k1.put' rfl)
    rw [e3] at L2
    rw [e3]
    exact L2
end
section
variable {M : Amb} {d : Nat} {cl : List (Str × Loc)} {ml : List (Str × V)} {H : MH}
theorem w_law_sign (hpu : M.pu = false) (F : Facts M.K) {N E k : Nat} {σ : St} (w : WF N E σ) (hN : N ≤ 800) (L : LK k H σ) (hne : σ.stack ≠ []) {c : Str} (hc : c.length ≤ 10) {Q : V → MH → Prop} (h : ∀ H', LK k H' (sigN σ c) → Keep Loc.isL H H' → Q .none H') : CALL M (d + 1) cl ml H 729 [lnV (curP σ.stack), .str c] Q := by
  obtain ⟨x, hx⟩ := w.curEl hne
  have e : sigN σ c = signN σ (curP σ.stack) x c := by unfold sigN; rw [(isEl_get hx).1]
  rw [e] at h
  exact w_law_put hpu F w hN L hx hc h
theorem w_body_due (hpu : M.pu = false) (F : Facts M.K) {N E k : Nat} {σ : St} (w : WF N E σ) (hN : N ≤ 780) (hE : E ≤ 780) (L : LK k H σ) (hne : σ.stack ≠ []) {t : Tk} (ht : t.ok) {Q : V → MH → Prop}
    (h : ∀ H' k', LK k' H' (bodyN σ t) → Keep Loc.isL H H' → Q .none H') : CALL M (d + 3) cl ml H 750 [.cell .state, tkV t] Q := by
  refine CALL_go (at_law_body_due F) b_law_body_due rfl rfl rfl ?_
  have h3 := w.ze
  have h1 := w.zn
  have h2 := w.zs
  have w1 := w.note (mode_ok w.md) ht
  have L1 : LK k (H.put .notes (.list (σ.errs ++ [.tup [.str σ.mode, tkV t]]))) (noteN σ σ.mode t) := L.err _
  have k1 : Keep Loc.isL H (H.put .notes (.list (σ.errs ++ [.tup [.str σ.mode, tkV t]]))) := Keep.put rfl
  walk_at "m.run"
  revert L1 k1
  generalize H.put .notes (.list (σ.errs ++ [.tup [.str σ.mode, tkV t]])) = H1
  intro L1 k1
  refine w_law_sort F ht ?_
  walk_at "m.run"
  obtain ⟨x, hx⟩ := w1.curEl hne
  have hlast := last_cur (l := (noteN σ σ.mode t).stack) hne
  have hz1 : (noteN σ σ.mode t).stack.length ≤ N := h2
  cases t with
  | ch c =>
    simp only [tkV]
    walk_at "m.run"
    refine w_law_sign hpu F w1 (by omega) L1 hne (by have := (sign_ok ht).2; omega) fun H2 L2 k2 => ?_
    walk_at "m.run"
    exact h _ _ L2 (k1.trans k2)
  | eof =>
    simp only [tkV]
    walk_at "m.run"
    refine w_law_stop hpu F L1 fun H2 k' L2 k2 => ?_
    walk_at "m.run"
    exact h _ _ L2 (k1.trans k2)
  | com c =>
    simp only [tkV]
    walk_at "m.run"
    exact h _ _ L1 k1
  | doc =>
    simp only [tkV]
    walk_at "m.run"
    exact h _ _ L1 k1
  | start n a s =>
    simp only [tkV]
    obtain ⟨g1, g2, g3, g4⟩ := starts_sort ht.1
    have g1 : ¬ (Tk.sort (.start n a s) == "eof") = true := g1
    have g2 : (Tk.sort (.start n a s) == "start p") = (n == "p") := g2
    have g3 : ¬ (Tk.sort (.start n a s) == "end p") = true := g3
    have g4 : ¬ ((["end body", "end html"] : List Str).any (· == Tk.sort (.start n a s))) = true := g4
    walk_at "m.run"
    by_cases e : n = "p"
    · have hq : bodyN σ (.start n a s) = growN (noteN σ σ.mode (.start n a s)) "p" (tAttrs a) := if_pos e
      rw [hq] at h
      have g5 : (Tk.sort (.start n a s) == "start p") = true := by rw [g2]; exact str_eb e
      walk_at "m.run"
      refine w_law_grow (keeps := true) hpu F w1 (by omega) L1 hx (Nat.le_of_ble_eq_true rfl) fun H2 k' L2 k2 => ?_
      walk_at "m.run"
      exact h _ _ L2 (k1.trans k2)
    · have hq : bodyN σ (.start n a s) = noteN σ σ.mode (.start n a s) := if_neg e
      rw [hq] at h
      have g5 : ¬ (Tk.sort (.start n a s) == "start p") = true := by rw [g2]; exact str_nb e
      walk_at "m.run"
      exact h _ _ L1 k1
  | fin n =>
    simp only [tkV]
    obtain ⟨g1, g2, g3, g4, g6⟩ := ends_sort ht
    have g1 : ¬ (Tk.sort (.fin n) == "eof") = true := g1
    have g2 : ¬ (Tk.sort (.fin n) == "start p") = true := g2
    have g3 : (Tk.sort (.fin n) == "end p") = (n == "p") := g3
    have g4 : ((["end body", "end html"] : List Str).any (· == Tk.sort (.fin n))) = (n == "body" || n == "html") := g4
    have g6 : (Tk.sort (.fin n) == "end html") = (n == "html") := g6
    walk_at "m.run"
    by_cases e : n = "p"
    · have hq : bodyN σ (.fin n) = if curName (noteN σ σ.mode (.fin n)) = "p" then popN (noteN σ σ.mode (.fin n)) else noteN σ σ.mode (.fin n) := if_pos e
      rw [hq] at h
      have hcn : curName (noteN σ σ.mode (.fin n)) = x.name := by unfold curName; rw [(isEl_get hx).1]
      rw [hcn] at h
      have g5 : (Tk.sort (.fin n) == "end p") = true := by rw [g3]; exact str_eb e
      have g7 : ¬ ((["end body", "end html"] : List Str).any (· == Tk.sort (.fin n))) = true := by rw [g4, e]; decide +kernel
      have hnode := L1.node hx
      walk_at "m.run"
      by_cases e2 : x.name = "p"
      · rw [if_pos e2] at h
        walk_at "m.run"
        refine TE_butlast2 (l := .tmp H1.nx) ?_
        walk_at "m.run"
        refine ⟨.tmp k, (noteN σ σ.mode (.fin n)).stack.map lnV, rfl, rfl, L1.pa, by rw [List.length_map]; omega, by walk_at "m.free", ?_⟩
        rw [show ((noteN σ σ.mode (.fin n)).stack.map lnV).dropLast = (σ.stack.dropLast).map lnV from (List.map_dropLast).symm]
        walk_at "m.run"
        refine ⟨_, Stored.dict (by walk_at "m.cell") (Nat.le_of_ble_eq_true rfl), ?_⟩
        have L2 : LK H1.nx _ (popN (noteN σ σ.mode (.fin n))) := L1.path (j := H1.nx) (H1 := H1.add (.tmp H1.nx) (.list (σ.stack.dropLast.map lnV))) (st := σ.stack.dropLast) ((Keep.refl _).tmp' (Nat.le_refl _)) (fun l hl => add_other (fun e => by subst e; cases hl) rfl) (lt_bump _ _) add_same
        have k2 : Keep Loc.isL H ((H1.add (.tmp H1.nx) (.list (σ.stack.dropLast.map lnV))).put .state (.dict (putE (stD (.tmp k) (noteN σ σ.mode (.fin n))) "path" (.cell (.tmp H1.nx))))) := (k1.tmp' (Nat.le_refl _)).put' rfl
        walk_at "m.run"
        exact h _ _ L2 k2
      · rw [if_neg e2] at h
        walk_at "m.run"
        exact h _ _ L1 k1
    · have g5 : ¬ (Tk.sort (.fin n) == "end p") = true := by rw [g3]; exact str_nb e
      walk_at "m.run"
      by_cases e2 : n = "body"
      · have hq : bodyN σ (.fin n) = { noteN σ σ.mode (.fin n) with mode := "after body" } := (if_neg e).trans (if_pos e2)
        rw [hq] at h
        have g7 : ((["end body", "end html"] : List Str).any (· == Tk.sort (.fin n))) = true := by rw [g4, e2]; decide +kernel
        have g8 : ¬ (Tk.sort (.fin n) == "end html") = true := by rw [g6, e2]; decide +kernel
        walk_at "m.run"
        refine ⟨_, Stored.dict (by walk_at "m.cell") (Nat.le_of_ble_eq_true rfl), ?_⟩
        walk_at "m.run"
        exact h _ _ (L1.mode "after body") (k1.put' rfl)
      · by_cases e3 : n = "html"
        · subst e3
          have hq : bodyN σ (.fin "html") = abhN { noteN σ σ.mode (.fin "html") with mode := "after body" } (.fin "html") := by unfold bodyN bodyN1; dsimp only; rw [if_neg e, if_neg e2, if_pos rfl]
          rw [hq] at h
          have g7 : ((["end body", "end html"] : List Str).any (· == Tk.sort (.fin "html"))) = true := by rw [g4]; decide +kernel
          have g8 : (Tk.sort (.fin "html") == "end html") = true := by rw [g6]; decide +kernel
          walk_at "m.run"
          refine ⟨_, Stored.dict (by walk_at "m.cell") (Nat.le_of_ble_eq_true rfl), ?_⟩
          have L2 := L1.mode "after body"
          have k2 : Keep Loc.isL H (H1.put .state (.dict (putE (stD (.tmp k) (noteN σ σ.mode (.fin "html"))) "mode" (.str "after body")))) := k1.put' rfl
          revert L2 k2
          generalize H1.put .state (.dict (putE (stD (.tmp k) (noteN σ σ.mode (.fin "html"))) "mode" (.str "after body"))) = H2
          intro L2 k2
          walk_at "m.run"
          refine due_html hpu F (w1.mode (m := "after body") (by decide +kernel)) (by omega) (by omega) L2 rfl fun H3 k' v L3 k3 => ?_
          walk_at "m.run"
          exact h _ _ L3 (k2.trans k3)
        · have hq : bodyN σ (.fin n) = noteN σ σ.mode (.fin n) := (if_neg e).trans ((if_neg e2).trans (if_neg e3))
          rw [hq] at h
          have g7 : ¬ ((["end body", "end html"] : List Str).any (· == Tk.sort (.fin n))) = true := by rw [g4]; simp [e2, e3]
          walk_at "m.run"
          exact h _ _ L1 k1
end
noncomputable def okAct (a : Str) (k : Nat) : Bool :=
  (a == "refuse" && k != 3 && k != 5) || (a == "after" && k == 1) || (a == "back" && k != 3 && k != 5) || a == "body" || (a == "here" && (k == 2 || k == 3)) || (a == "leave" && k == 1) || a == "done" || a == "stop"
    || (a == "grow" && k == 0) || (a == "void" && k == 0) || (a == "head" && k == 0) || (a == "root" && k == 3) || (a == "document" && k == 3)
noncomputable def Tk.num : Tk → Nat
  | .start .. => 0
  | .fin _ => 1
  | .ch _ => 2
  | .com _ => 3
  | .doc => 4
  | .eof => 5
theorem act_ok {m : Str} (hm : m ∈ modesL) {t : Tk} (ht : t.ok) : okAct (actOf m t) t.num = true := by
  cases t with
  | start n a s =>
    have := all_of (p := fun m => startsL.all fun n => okAct (actOf m (.start n "" false)) 0) (by decide +kernel : modesL.all _ = true) hm
    exact all_of this ht.1
  | fin n =>
    have := all_of (p := fun m => endsL.all fun n => okAct (actOf m (.fin n)) 1) (by decide +kernel : modesL.all _ = true) hm
    exact all_of this ht
  | ch c =>
    have := all_of (p := fun m => signsL.all fun n => okAct (actOf m (.ch n)) 2) (by decide +kernel : modesL.all _ = true) hm
    exact all_of this ht
  | com c => exact all_of (p := fun m => okAct (actOf m (.com "")) 3) (by decide +kernel : modesL.all _ = true) hm
  | doc => exact all_of (p := fun m => okAct (actOf m .doc) 4) (by decide +kernel : modesL.all _ = true) hm
  | eof => exact all_of (p := fun m => okAct (actOf m .eof) 5) (by decide +kernel : modesL.all _ = true) hm
noncomputable def actN (σ : St) (t : Tk) (a : Str) : St :=
  if a = "refuse" then refN σ t
  else if a = "after" then (if σ.mode = "after body" then (if (σ.ctx != -1) = true then refN σ t else { σ with mode := "after " ++ σ.mode }) else { σ with mode := "after " ++ σ.mode })
  else if a = "back" then backN σ t
  else if a = "body" then bodyN σ t
  else if a = "here" then (match t with | .ch c => sigN σ c | .com c => insN σ (comN c) (curP σ.stack) | _ => σ)
  else if a = "leave" then leaveN σ t
  else if a = "done" then stopN σ
  else if a = "stop" then (if decide ((σ.stack.length : Int) ≤ 1) = true then stopN σ else stopN (errN σ (.tup [.str "open-elements", .str σ.mode])))
  else if a = "grow" then (match t with | .start n b _ => growN σ n (tAttrs b) | _ => σ)
  else if a = "void" then (match t with | .start n b _ => voidN σ n (tAttrs b) | _ => σ)
  else if a = "head" then headN σ t
  else if a = "root" then (match t with | .com c => insN σ (comN c) (σ.stack.headD 0) | _ => σ)
  else (match t with | .com c => insN σ (comN c) 0 | _ => σ)
theorem sp_eq {c : Str} (hc : c ∈ signsL) : (spaces2.any (· == c)) = (spaces.any (· == c)) := eq_of_beq (all_of (p := fun c => (spaces2.any (· == c)) == (spaces.any (· == c))) (by decide +kernel : signsL.all _ = true) hc)
theorem act_ch {c : Str} (hc : c ∈ signsL) (m : Str) : actOf m (.ch c) = if spaces.any (· == c) = true then (getS (rowS m) "space").getD (dflS m) else (getS (rowS m) "sign").getD (dflS m) := by
  show (getS (rowS m) (if spaces2.any (· == c) = true then "space" else "sign")).getD _ = _
  rw [sp_eq hc]
  split <;> rfl
theorem act_run {N E : Nat} {σ : St} (w : WF N E σ) {t : Tk} (ht : t.ok) : actN σ t (actOf σ.mode t) = runN σ t := by
  have key : ∀ m, m ∈ modesL → σ.mode = m → actN σ t (actOf m t) = runN σ t := by
    intro m hm
    refine modes_of (P := fun m => σ.mode = m → actN σ t (actOf m t) = runN σ t) hm ?_ ?_ ?_ ?_ ?_ ?_ <;> intro e
    · have er : runN σ t = afterBodyN σ t := if_pos e
      rw [er]
      cases t with
      | ch c =>
        rw [act_ch ht]
        show _ = if _ then _ else _
        split <;> rfl
      | start n a s =>
        have g : actOf "after body" (.start n a s) = if n = "html" then "body" else "back" := of_decide_eq_true (all_of (p := fun n => decide (actOf "after body" (.start n "" false) = if n = "html" then "body" else "back")) (by decide +kernel : startsL.all _ = true) ht.1)
        rw [g]
        show _ = if _ then _ else _
        split <;> rfl
      | fin n =>
        have g : actOf "after body" (.fin n) = if n = "html" then "after" else "back" := of_decide_eq_true (all_of (p := fun n => decide (actOf "after body" (.fin n) = if n = "html" then "after" else "back")) (by decide +kernel : endsL.all _ = true) ht)
        rw [g]
        show _ = if _ then _ else _
        split
        · show (if σ.mode = "after body" then (if (σ.ctx != -1) = true then refN σ (.fin n) else _) else _) = _
          rw [if_pos e]
          unfold abhN
          split
          · rfl
          · rw [e]
            have : ("after " : Str) ++ "after body" = "after after body" := by decide +kernel
            rw [this]
        · rfl
      | com c => rfl
      | doc => rfl
      | eof => rfl
    · have er : runN σ t = inFramesetN σ t := by unfold runN; rw [e, if_neg (by decide), if_pos rfl]
      rw [er]
      cases t with
      | ch c =>
        rw [act_ch ht]
        show _ = if _ then _ else _
        split <;> rfl
      | start n a s =>
        have g : actOf "in frameset" (.start n a s) = if n = "html" then "body" else if n = "frameset" then "grow" else if n = "frame" then "void" else if n = "noframes" then "head" else "refuse" := of_decide_eq_true (all_of (p := fun n => decide (actOf "in frameset" (.start n "" false) = if n = "html" then "body" else if n = "frameset" then "grow" else if n = "frame" then "void" else if n = "noframes" then "head" else "refuse")) (by decide +kernel : startsL.all _ = true) ht.1)
        rw [g]
        show _ = if _ then _ else if _ then _ else if _ then _ else if _ then _ else _
        split
        · rfl
        split
        · rfl
        split
        · rfl
        split <;> rfl
      | fin n =>
        have g : actOf "in frameset" (.fin n) = if n = "frameset" then "leave" else "refuse" := of_decide_eq_true (all_of (p := fun n => decide (actOf "in frameset" (.fin n) = if n = "frameset" then "leave" else "refuse")) (by decide +kernel : endsL.all _ = true) ht)
        rw [g]
        show _ = if _ then _ else _
        split <;> rfl
      | com c => rfl
      | doc => rfl
      | eof => rfl
    · have er : runN σ t = afterFramesetN σ t := by unfold runN; rw [e, if_neg (by decide), if_neg (by decide), if_pos rfl]
      rw [er]
      cases t with
      | ch c =>
        rw [act_ch ht]
        show _ = if _ then _ else _
        split <;> rfl
      | start n a s =>
        have g : actOf "after frameset" (.start n a s) = if n = "html" then "body" else if n = "noframes" then "head" else "refuse" := of_decide_eq_true (all_of (p := fun n => decide (actOf "after frameset" (.start n "" false) = if n = "html" then "body" else if n = "noframes" then "head" else "refuse")) (by decide +kernel : startsL.all _ = true) ht.1)
        rw [g]
        show _ = if _ then _ else if _ then _ else _
        split
        · rfl
        split <;> rfl
      | fin n =>
        have g : actOf "after frameset" (.fin n) = if n = "html" then "after" else "refuse" := of_decide_eq_true (all_of (p := fun n => decide (actOf "after frameset" (.fin n) = if n = "html" then "after" else "refuse")) (by decide +kernel : endsL.all _ = true) ht)
        rw [g]
        show _ = if _ then _ else _
        split
        · show (if σ.mode = "after body" then _ else _) = _
          rw [if_neg (by rw [e]; decide), e]
          have : ("after " : Str) ++ "after frameset" = "after after frameset" := by decide +kernel
          rw [this]
        · rfl
      | com c => rfl
      | doc => rfl
      | eof => rfl
    · have er : runN σ t = afterAfterBodyN σ t := by unfold runN; rw [e, if_neg (by decide), if_neg (by decide), if_neg (by decide), if_pos rfl]
      rw [er]
      cases t with
      | ch c =>
        rw [act_ch ht]
        show _ = if _ then _ else _
        split <;> rfl
      | start n a s =>
        have g : actOf "after after body" (.start n a s) = if n = "html" then "body" else "back" := of_decide_eq_true (all_of (p := fun n => decide (actOf "after after body" (.start n "" false) = if n = "html" then "body" else "back")) (by decide +kernel : startsL.all _ = true) ht.1)
        rw [g]
        show _ = if _ then _ else _
        split <;> rfl
      | fin n =>
        have g : actOf "after after body" (.fin n) = "back" := of_decide_eq_true (all_of (p := fun n => decide (actOf "after after body" (.fin n) = "back")) (by decide +kernel : endsL.all _ = true) ht)
        rw [g]
        rfl
      | com c => rfl
      | doc => rfl
      | eof => rfl
    · have er : runN σ t = afterAfterFramesetN σ t := by unfold runN; rw [e, if_neg (by decide), if_neg (by decide), if_neg (by decide), if_neg (by decide), if_pos rfl]
      rw [er]
      cases t with
      | ch c =>
        rw [act_ch ht]
        show _ = if _ then _ else _
        split <;> rfl
      | start n a s =>
        have g : actOf "after after frameset" (.start n a s) = if n = "html" then "body" else if n = "noframes" then "head" else "refuse" := of_decide_eq_true (all_of (p := fun n => decide (actOf "after after frameset" (.start n "" false) = if n = "html" then "body" else if n = "noframes" then "head" else "refuse")) (by decide +kernel : startsL.all _ = true) ht.1)
        rw [g]
        show _ = if _ then _ else if _ then _ else _
        split
        · rfl
        split <;> rfl
      | fin n =>
        have g : actOf "after after frameset" (.fin n) = "refuse" := of_decide_eq_true (all_of (p := fun n => decide (actOf "after after frameset" (.fin n) = "refuse")) (by decide +kernel : endsL.all _ = true) ht)
        rw [g]
        rfl
      | com c => rfl
      | doc => rfl
      | eof => rfl
    · have er : runN σ t = bodyN σ t := by unfold runN; rw [e, if_neg (by decide), if_neg (by decide), if_neg (by decide), if_neg (by decide), if_neg (by decide)]
      have g : ∀ t, actOf "in body" t = "body" := fun t => by
        show (if ("" : Str) = t.sort then some ("body" : Str) else none).getD "body" = "body"
        split <;> rfl
      rw [er, g]
      rfl
  exact key _ w.md rfl
theorem LK.ack {k : Nat} {H : MH} {σ : St} (L : LK k H σ) (b : Bool) : LK k H { σ with ack := b } := ⟨L.lt, L.pa, fun l hl => (L.ls l hl).trans rfl⟩
theorem WF.doc_el {N E : Nat} {σ : St} (w : WF N E σ) : ∃ x : Nd, isEl σ 0 = some x := by
  obtain ⟨x, hx, hk, _⟩ := w.doc
  refine ⟨x, isEl_of hx (.inr hk) ?_⟩
  rcases w.ctx with e | ⟨c, z, e, hz, hzk, _⟩
  · rw [e]; decide
  · intro q
    have : c = 0 := by omega
    subst this
    rw [hx] at hz; cases hz
    rw [hk] at hzk
    revert hzk; decide
theorem WF.head_el {N E : Nat} {σ : St} (w : WF N E σ) (hne : σ.stack ≠ []) : ∃ x : Nd, isEl σ (σ.stack.headD 0) = some x := by
  cases e : σ.stack with
  | nil => exact absurd e hne
  | cons i r =>
    obtain ⟨x, hx, h1, _, h3⟩ := w.stk i (by rw [e]; exact .head _)
    exact ⟨x, isEl_of hx (.inl h1) h3⟩
theorem any2 {a x y : Str} (h1 : a ≠ x) (h2 : a ≠ y) : ¬ (([x, y] : List Str).any (· == a)) = true := by simp [Ne.symm h1, Ne.symm h2]
theorem any3 {a x y z : Str} (h1 : a ≠ x) (h2 : a ≠ y) (h3 : a ≠ z) : ¬ (([x, y, z] : List Str).any (· == a)) = true := by simp [Ne.symm h1, Ne.symm h2, Ne.symm h3]
theorem ok_refu {a : Str} {t : Tk} (ha : a = "refuse" ∨ a = "back") (h : okAct a t.num = true) : t.refu := by
  rcases ha with rfl | rfl <;> cases t <;> first | trivial | (dsimp only [Tk.num] at h; exact absurd h (by decide +kernel))
theorem ok_fin {a : Str} {t : Tk} (ha : a = "after" ∨ a = "leave") (h : okAct a t.num = true) : ∃ n, t = .fin n := by
  rcases ha with rfl | rfl <;> cases t <;> first | exact ⟨_, rfl⟩ | (dsimp only [Tk.num] at h; exact absurd h (by decide +kernel))
theorem ok_start {a : Str} {t : Tk} (ha : a = "grow" ∨ a = "void" ∨ a = "head") (h : okAct a t.num = true) : ∃ n b s, t = .start n b s := by
  rcases ha with rfl | rfl | rfl <;> cases t <;> first | exact ⟨_, _, _, rfl⟩ | (dsimp only [Tk.num] at h; exact absurd h (by decide +kernel))
theorem ok_here {t : Tk} (h : okAct "here" t.num = true) : (∃ c, t = .ch c) ∨ ∃ c, t = .com c := by
  cases t <;> first | exact .inl ⟨_, rfl⟩ | exact .inr ⟨_, rfl⟩ | (dsimp only [Tk.num] at h; exact absurd h (by decide +kernel))
theorem ok_last {a : Str} {t : Tk} (a1 : a ≠ "refuse") (a2 : a ≠ "after") (a3 : a ≠ "back") (a4 : a ≠ "body") (a5 : a ≠ "here") (a6 : a ≠ "leave") (a7 : a ≠ "done") (a8 : a ≠ "stop") (a9 : a ≠ "grow") (a10 : a ≠ "void") (a11 : a ≠ "head") (h : okAct a t.num = true) : (∃ c, t = .com c) ∧ (a = "root" ∨ a = "document") := by
  have com : t.num = 3 → ∃ n, t = .com n := fun a => by cases t <;> first | (exact ⟨_, rfl⟩) | (cases a; done)
  unfold okAct at h
  simp only [Bool.or_eq_true, Bool.and_eq_true, beq_iff_eq, a1, a2, a3, a4, a5, a6, a7, a8, a9, a10, a11, false_and, false_or, or_false] at h
  rcases h with ⟨rfl, n⟩ | ⟨rfl, n⟩
  · exact ⟨com n, .inl rfl⟩
  · exact ⟨com n, .inr rfl⟩
section
variable {M : Amb} {d : Nat} {cl : List (Str × Loc)} {ml : List (Str × V)} {H : MH}
theorem w_due (hpu : M.pu = false) (F : Facts M.K) {N E k : Nat} {σ : St} (w : WF N E σ) (hN : N ≤ 770) (hE : E ≤ 770) (L : LK k H σ) (hne : σ.stack ≠ []) {t : Tk} (ht : t.ok) {Q : V → MH → Prop}
    (h : ∀ H' k', LK k' H' (actN σ t (actOf σ.mode t)) → Keep Loc.isL H H' → Q (.str (actOf σ.mode t)) H') : CALL M (d + 5) cl ml H 771 [.cell .state, tkV t] Q := by
  refine due_pre hpu F L w.md ht fun H1 j L1 k1 => ?_
  have hz := w.ze
  have hz2 := w.zs
  obtain ⟨x, hx⟩ := w.curEl hne
  have hlast := last_cur hne
  revert h
  obtain ⟨xr, hr⟩ := w.head_el hne
  obtain ⟨xd, hd⟩ := w.doc_el
  have hit : σ.stack.map lnV = lnV (σ.stack.headD 0) :: (σ.stack.tail.map lnV) := by
    cases q : σ.stack with
    | nil => exact absurd q hne
    | cons i r => rfl
  have hxl := (w.nd _ _ (isEl_get hx).1).kl
  have hrl := (w.nd _ _ (isEl_get hr).1).kl
  have hdl := (w.nd _ _ (isEl_get hd).1).kl
  have hr1 := L1.node hr
  have hr2 := L1.kid hr
  have hd1 := L1.node hd
  have hd2 := L1.kid hd
  have leaf : ∀ {p : Nat} {y : Nd} (hp : isEl σ p = some y) (_ : y.kids.length ≤ N) {H2 : MH} (L2 : LK k H2 σ) {c : Str}, LK k (H2.put (.lkid p) (.list (y.kids.map (kidV σ.nodes) ++ [.tup [.str "comment", .str c]]))) (insN σ (comN c) p) :=
    fun hp _ _ L2 c => L2.leaf w hp (by show ("comment" : Str) ≠ "element"; decide) (by show ("comment" : Str) ≠ "document"; decide) fun ns i e => by unfold kidV; rw [e]; exact (if_neg (by show ¬ ("comment" : Str) = "text"; decide)).trans (if_pos rfl)
  have hx1 := L1.node hx
  have hx2 := L1.kid hx
  have hok := act_ok w.md ht
  revert hok
  generalize actOf σ.mode t = a
  intro hok h
  refine TS_at rfl rfl ?_
  by_cases a1 : a = "refuse"
  · subst a1
    have hr := ok_refu (.inl rfl) hok
    walk_at "m.run"
    refine w_law_refuse hpu F L1 (by omega) hr fun H2 L2 k2 => ?_
    walk_at "m.run"
    exact h _ _ L2 (k1.trans k2)
  by_cases a2 : a = "after"
  · subst a2
    obtain ⟨n, rfl⟩ := ok_fin (.inl rfl) hok
    have hml : σ.mode.length ≤ 100 := of_decide_eq_true (all_of (p := fun n => decide (n.length ≤ 100)) (by decide +kernel : modesL.all _ = true) w.md)
    by_cases e : σ.mode = "after body"
    · by_cases e2 : (σ.ctx != -1) = true
      · have hq : actN σ (.fin n) "after" = refN σ (.fin n) := (if_pos e).trans (if_pos e2)
        rw [hq] at h
        walk_at "m.run"
        refine w_law_refuse (t := .fin n) hpu F L1 (by omega) trivial fun H2 L2 k2 => ?_
        walk_at "m.run"
        exact h _ _ L2 (k1.trans k2)
      · have hq : actN σ (.fin n) "after" = { σ with mode := "after " ++ σ.mode } := (if_pos e).trans (if_neg e2)
        rw [hq] at h
        walk_at "m.run"
        refine OP_add_str (by have : (Str.ofString "after ").length = 6 := by decide
                              omega) ?_
        walk_at "m.run"
        refine ⟨_, Stored.dict (by walk_at "m.cell") (Nat.le_of_ble_eq_true rfl), ?_⟩
        walk_at "m.run"
        exact h _ _ (L1.mode _) (k1.put' rfl)
    · have hq : actN σ (.fin n) "after" = { σ with mode := "after " ++ σ.mode } := if_neg e
      rw [hq] at h
      walk_at "m.run"
      refine OP_add_str (by have : (Str.ofString "after ").length = 6 := by decide
                            omega) ?_
      walk_at "m.run"
      refine ⟨_, Stored.dict (by walk_at "m.cell") (Nat.le_of_ble_eq_true rfl), ?_⟩
      walk_at "m.run"
      exact h _ _ (L1.mode _) (k1.put' rfl)
  walk_at "m.run"
  by_cases a3 : a = "back"
  · subst a3
    have hr := ok_refu (.inr rfl) hok
    walk_at "m.run"
    refine w_law_refuse hpu F L1 (by omega) hr fun H2 L2 k2 => ?_
    walk_at "m.run"
    refine ⟨_, Stored.dict (by walk_at "m.cell") (Nat.le_of_ble_eq_true rfl), ?_⟩
    walk_at "m.run"
    have w3 := (w.ref t).mode (m := "in body") (by decide +kernel)
    refine w_body_due hpu F w3 (by omega) (by omega) (L2.mode "in body") hne ht fun H3 k' L3 k3 => ?_
    walk_at "m.run"
    exact h _ _ L3 ((k1.trans (k2.put' rfl)).trans k3)
  walk_at "m.run"
  by_cases a4 : a = "body"
  · subst a4
    walk_at "m.run"
    refine w_body_due hpu F w (by omega) (by omega) L1 hne ht fun H3 k' L3 k3 => ?_
    walk_at "m.run"
    exact h _ _ L3 (k1.trans k3)
  walk_at "m.run"
  by_cases a5 : a = "here"
  · subst a5
    rcases ok_here hok with ⟨c, rfl⟩ | ⟨c, rfl⟩
    · simp only [tkV]
      walk_at "m.run"
      refine w_law_sign hpu F w (by omega) L1 hne (by have := (sign_ok ht).2; omega) fun H2 L2 k2 => ?_
      walk_at "m.run"
      exact h _ _ L2 (k1.trans k2)
    · simp only [tkV]
      walk_at "m.run"
      refine TE_dict (l := .tmp H1.nx) rfl rfl rfl (by simp) (by decide) ?_
      walk_at "m.run"
      refine OP_item_list (x := lnV (σ.stack.headD 0)) (by walk_at "m.cell") (by decide) (by decide) (by rw [hit]; rfl) (fun _ _ => rfl) ?_
      walk_at "m.run"
      refine ⟨by show (["here", "root", "document"] : List Str).Nodup; decide +kernel, by walk_at "m.free", ?_⟩
      walk_at "m.run"
      have L2 : LK k (H1.add (.tmp H1.nx) (.dict [("here", lnV (curP σ.stack)), ("root", lnV (σ.stack.headD 0)), ("document", lnV 0)])) σ := L1.atmp (Nat.le_refl _)
      have k2 : Keep Loc.isL H (H1.add (.tmp H1.nx) (.dict [("here", lnV (curP σ.stack)), ("root", lnV (σ.stack.headD 0)), ("document", lnV 0)])) := k1.tmp' (Nat.le_refl _)
      exact h _ _ (leaf hx hxl L2) (k2.put' rfl)
  walk_at "m.run"
  by_cases a6 : a = "leave"
  · subst a6
    obtain ⟨n, rfl⟩ := ok_fin (.inr rfl) hok
    walk_at "m.run"
    refine w_law_leave hpu F w (by omega) (by omega) L1 hne (t := .fin n) trivial fun H2 k' L2 k2 => ?_
    walk_at "m.run"
    exact h _ _ L2 (k1.trans k2)
  walk_at "m.run"
  by_cases a7 : a = "done"
  · subst a7
    walk_at "m.run"
    refine w_law_stop hpu F L1 fun H2 k' L2 k2 => ?_
    walk_at "m.run"
    exact h _ _ L2 (k1.trans k2)
  by_cases a8 : a = "stop"
  · subst a8
    walk_at "m.run"
    by_cases e : decide ((σ.stack.length : Int) ≤ 1) = true
    · have hq : actN σ t "stop" = stopN σ := if_pos e
      rw [hq] at h
      have := of_decide_eq_true e
      refine ite_neg (by simp; omega) ?_
      walk_at "m.run"
      refine w_law_stop hpu F L1 fun H2 k' L2 k2 => ?_
      walk_at "m.run"
      exact h _ _ L2 (k1.trans k2)
    · have hq : actN σ t "stop" = stopN (errN σ (.tup [.str "open-elements", .str σ.mode])) := if_neg e
      rw [hq] at h
      have : ¬ ((σ.stack.length : Int) ≤ 1) := fun q => e (decide_eq_true q)
      refine ite_pos (by simp; omega) ?_
      walk_at "m.run"
      refine w_law_stop hpu F (L1.err _) fun H2 k' L2 k2 => ?_
      walk_at "m.run"
      exact h _ _ L2 ((k1.put' rfl).trans k2)
  have q2 := any2 a7 a8
  walk_at "m.run"
  by_cases a9 : a = "grow"
  · subst a9
    obtain ⟨n, b, s, rfl⟩ := ok_start (.inl rfl) hok
    simp only [tkV]
    walk_at "m.run"
    refine w_law_grow (keeps := true) hpu F w (by omega) L1 hx (Nat.le_of_ble_eq_true rfl) fun H2 k' L2 k2 => ?_
    walk_at "m.run"
    exact h _ _ L2 (k1.trans k2)
  by_cases a10 : a = "void"
  · subst a10
    obtain ⟨n, b, s, rfl⟩ := ok_start (.inr (.inl rfl)) hok
    simp only [tkV]
    walk_at "m.run"
    refine w_law_grow (keeps := false) hpu F w (by omega) L1 hx (Nat.le_of_ble_eq_true rfl) fun H2 k' L2 k2 => ?_
    walk_at "m.run"
    exact h _ _ (LK.ack L2 true) (k1.trans k2)
  by_cases a11 : a = "head"
  · subst a11
    obtain ⟨n, b, s, rfl⟩ := ok_start (.inr (.inr rfl)) hok
    simp only [tkV]
    walk_at "m.run"
    have w2 := w.note (a := "head") (by decide +kernel) ht
    refine w_law_grow (keeps := false) hpu F w2 (by omega) (L1.err _) hx (Nat.le_of_ble_eq_true rfl) fun H2 k' L2 k2 => ?_
    walk_at "m.run"
    exact h _ _ L2 ((k1.put' rfl).trans k2)
  have q3 := any3 a9 a10 a11
  obtain ⟨⟨c, rfl⟩, a12⟩ := ok_last a1 a2 a3 a4 a5 a6 a7 a8 a9 a10 a11 hok
  rcases a12 with rfl | rfl
  · simp only [tkV]
    walk_at "m.run"
    refine TE_dict (l := .tmp H1.nx) rfl rfl rfl (by simp) (by decide) ?_
    walk_at "m.run"
    refine OP_item_list (x := lnV (σ.stack.headD 0)) (by walk_at "m.cell") (by decide) (by decide) (by rw [hit]; rfl) (fun _ _ => rfl) ?_
    walk_at "m.run"
    refine ⟨by show (["here", "root", "document"] : List Str).Nodup; decide +kernel, by walk_at "m.free", ?_⟩
    walk_at "m.run"
    have L2 : LK k (H1.add (.tmp H1.nx) (.dict [("here", lnV (curP σ.stack)), ("root", lnV (σ.stack.headD 0)), ("document", lnV 0)])) σ := L1.atmp (Nat.le_refl _)
    have k2 : Keep Loc.isL H (H1.add (.tmp H1.nx) (.dict [("here", lnV (curP σ.stack)), ("root", lnV (σ.stack.headD 0)), ("document", lnV 0)])) := k1.tmp' (Nat.le_refl _)
    exact h _ _ (leaf hr hrl L2) (k2.put' rfl)
  · simp only [tkV]
    walk_at "m.run"
    refine TE_dict (l := .tmp H1.nx) rfl rfl rfl (by simp) (by decide) ?_
    walk_at "m.run"
    refine OP_item_list (x := lnV (σ.stack.headD 0)) (by walk_at "m.cell") (by decide) (by decide) (by rw [hit]; rfl) (fun _ _ => rfl) ?_
    walk_at "m.run"
    refine ⟨by show (["here", "root", "document"] : List Str).Nodup; decide +kernel, by walk_at "m.free", ?_⟩
    walk_at "m.run"
    have L2 : LK k (H1.add (.tmp H1.nx) (.dict [("here", lnV (curP σ.stack)), ("root", lnV (σ.stack.headD 0)), ("document", lnV 0)])) σ := L1.atmp (Nat.le_refl _)
    have k2 : Keep Loc.isL H (H1.add (.tmp H1.nx) (.dict [("here", lnV (curP σ.stack)), ("root", lnV (σ.stack.headD 0)), ("document", lnV 0)])) := k1.tmp' (Nat.le_refl _)
    exact h _ _ (leaf hd hdl L2) (k2.put' rfl)
end
noncomputable def startsT : List Str := ["frameset", "frame", "html", "noframes", "frameset", "p", "head"]
noncomputable def endsT : List Str := ["frameset", "html", "frameset", "p", "body", "frame", "noframes"]
noncomputable def signC : List Nat := [32, 120, 10, 9, 12, 13, 0, 160, 11]
noncomputable def sgS : Str := " x\n\t\x0c\x0d\x00\u00a0\x0b"
noncomputable def tokOf (i : Int) (p : Nat) : Tk :=
  let q := (i.fmod 26).toNat
  if q < 7 then .start (startsT.getD q "") (Str.ofString (toString (p : Int))) ((i.fdiv 26).fmod 2 == 1)
  else if q < 14 then .fin (endsT.getD (q - 7) "")
  else if q < 23 then .ch ⟨#[signC.getD (q - 14) 0]⟩
  else if q = 23 then .com (("c" : Str) ++ Str.ofString (toString (p : Int)))
  else if q = 24 then .doc else .eof
theorem fmod26 (i : Int) : ∃ q : Nat, i.fmod 26 = q ∧ q < 26 ∧ (i.fmod 26).toNat = q := by
  have h1 : 0 ≤ i.fmod 26 := Int.fmod_nonneg_of_pos i (by decide)
  have h2 : i.fmod 26 < 26 := Int.fmod_lt_of_pos i (by decide)
  exact ⟨(i.fmod 26).toNat, (Int.toNat_of_nonneg h1).symm, (Int.toNat_lt h1).mpr h2, rfl⟩
theorem pylong26 (i : Int) : Builtin.divisionGoesByPylong i 26 = false := by
  unfold Builtin.divisionGoesByPylong
  show (decide (_ > 300) && _) = false
  rw [Bool.and_eq_false_iff]
  exact .inl (by decide +kernel)
theorem signs_at : ∀ q : Nat, q < 23 → 14 ≤ q → (seqIndex? ((q : Int) - 14) sgS.length).bind (sgS.cps[·]?) = some (signC.getD (q - 14) 0) := by decide +kernel
theorem signs_in : ∀ q : Nat, q < 23 → 14 ≤ q → (⟨#[signC.getD (q - 14) 0]⟩ : Str) ∈ signsL := by decide +kernel
theorem starts_in : ∀ q : Nat, q < 7 → startsT.getD q "" ∈ startsL := by decide +kernel
theorem ends_in : ∀ q : Nat, q < 14 → 7 ≤ q → endsT.getD (q - 7) "" ∈ endsL := by decide +kernel
theorem places_ok : ∀ p : Nat, p < 11 → PyData.strOk (Str.ofString (toString (p : Int))) = true ∧ (("c" : Str) ++ Str.ofString (toString (p : Int))).length ≤ 5 := by decide +kernel
theorem tokOf_ok (i : Int) {p : Nat} (hp : p < 11) : (tokOf i p).ok := by
  obtain ⟨q, h1, h2, h3⟩ := fmod26 i
  unfold tokOf
  simp only [h3]
  have po := places_ok p hp
  split
  · rename_i a; exact ⟨starts_in q a, po.1⟩
  · split
    · rename_i a b; exact ends_in q b (Nat.le_of_not_lt a)
    · split
      · rename_i a b c; exact signs_in q c (Nat.le_of_not_lt b)
      · split
        · exact ⟨strOk_append (by decide +kernel) po.1, po.2⟩
        · split <;> trivial
section
variable {M : Amb} {d : Nat} {cl : List (Str × Loc)} {ml : List (Str × V)} {H : MH}
theorem w_law_token (F : Facts M.K) {i : Int} {p : Nat} (hp : p < 11) {Q : V → MH → Prop} (h : ∀ H', (∀ l, (∀ j, l = .tmp j → j < H.nx) → H'.c l = H.c l) → H.nx ≤ H'.nx → Q (tkV (tokOf i p)) H') : CALL M (d + 1) cl ml H 701 [.int i, .int p] Q := by
  obtain ⟨q, h1, h2, h3⟩ := fmod26 i
  refine CALL_go (at_law_token F) b_law_token rfl rfl rfl ?_
  walk_at "m.run"
  refine B_split (l := .tmp H.nx) (by decide +kernel) (ys := startsT) (by decide +kernel) (by walk_at "m.free") ?_
  walk_at "m.run"
  refine B_split (l := .tmp (H.nx + 1)) (by decide +kernel) (ys := endsT) (by decide +kernel) (free_tmp (nx_le1 _)) ?_
  have hot : ∀ l, (∀ j, l = .tmp j → j < H.nx) → ((H.add (.tmp H.nx) (.list (startsT.map .str))).add (.tmp (H.nx + 1)) (.list (endsT.map .str))).c l = H.c l := fun l hl => add_other (fun e => by have := hl _ e; omega) (add_other (fun e => by have := hl _ e; omega) rfl)
  have hnx : H.nx ≤ ((H.add (.tmp H.nx) (.list (startsT.map .str))).add (.tmp (H.nx + 1)) (.list (endsT.map .str))).nx := Nat.le_trans (Nat.le_max_left _ _) (Nat.le_max_left _ _)
  have c1 : ((H.add (.tmp H.nx) (.list (startsT.map .str))).add (.tmp (H.nx + 1)) (.list (endsT.map .str))).c (.tmp H.nx) = some (.list (startsT.map .str)) := add_other (fun e => by have := Loc.tmp.inj e; omega) add_same
  have c2 : ((H.add (.tmp H.nx) (.list (startsT.map .str))).add (.tmp (H.nx + 1)) (.list (endsT.map .str))).c (.tmp (H.nx + 1)) = some (.list (endsT.map .str)) := add_same
  revert hot hnx c1 c2
  generalize (H.add (.tmp H.nx) (.list (startsT.map .str))).add (.tmp (H.nx + 1)) (.list (endsT.map .str)) = H1
  intro hot hnx c1 c2
  replace h := h H1 hot hnx
  unfold tokOf at h
  simp only [h3] at h
  clear h3
  walk_at "m.run"
  refine OP_mod (by decide) ?_
  rw [h1]
  walk_at "m.run"
  by_cases e1 : q < 7
  · rw [if_pos e1] at h
    refine ite_pos (by simp; omega) ?_
    walk_at "m.run"
    refine OP_item_list (x := .str (startsT.getD q "")) c1 (by omega) (by omega) ?_ (fun _ _ => rfl) ?_
    · rw [Int.toNat_natCast, List.getElem?_map, List.getD_eq_getElem?_getD, List.getElem?_eq_getElem (by show q < 7; exact e1)]; rfl
    walk_at "m.run"
    refine B_str_int (by omega) ?_
    walk_at "m.run"
    refine OP_fdiv (by decide) (pylong26 i) ?_
    walk_at "m.run"
    refine OP_mod (by decide) ?_
    walk_at "m.run"
    exact h
  rw [if_neg e1] at h
  refine ite_neg (by simp; omega) ?_
  walk_at "m.run"
  by_cases e2 : q < 14
  · rw [if_pos e2] at h
    refine ite_pos (by simp; omega) ?_
    walk_at "m.run"
    refine OP_item_list (x := .str (endsT.getD (q - 7) "")) c2 (by omega) (by omega) ?_ (fun _ _ => rfl) ?_
    · rw [show ((q : Int) - 7).toNat = q - 7 from by omega, List.getElem?_map, List.getD_eq_getElem?_getD, List.getElem?_eq_getElem (by show q - 7 < 7; omega)]; rfl
    walk_at "m.run"
    exact h
  rw [if_neg e2] at h
  refine ite_neg (by simp; omega) ?_
  walk_at "m.run"
  by_cases e3 : q < 23
  · rw [if_pos e3] at h
    refine ite_pos (by simp; omega) ?_
    walk_at "m.run"
    refine OP_item_str (by simp; omega) (signs_at q e3 (by omega)) (fun _ _ => rfl) ?_
    walk_at "m.run"
    exact h
  rw [if_neg e3] at h
  refine ite_neg (by simp; omega) ?_
  walk_at "m.run"
  refine B_str_int (by omega) ?_
  walk_at "m.run"
  refine OP_add_str (by have := (places_ok p hp).2; rw [str_len] at this; omega) ?_
  walk_at "m.run"
  have hq : q = 23 ∨ q = 24 ∨ q = 25 := by omega
  rcases hq with rfl | rfl | rfl
  · rw [if_pos rfl] at h
    walk_at "m.run"
    exact h
  · rw [if_neg (by decide), if_pos rfl] at h
    walk_at "m.run"
    exact h
  · rw [if_neg (by decide), if_neg (by decide)] at h
    walk_at "m.run"
    exact h
end
noncomputable def noStar : Expr → Bool
  | .Starred _ _ => false
  | _ => true
theorem star_args {env : Env} : ∀ es : List Expr, es.all noStar = true → starEach es env = argTrees es env := by
  intro es
  induction es with
  | nil => intro _; rfl
  | cons e es ih =>
    intro h
    rw [List.all_cons, Bool.and_eq_true] at h
    have hs : starEach (e :: es) env = (false, eval e env) :: starEach es env := by
      have h := h.1
      cases e <;> first | rfl | cases h
    rw [hs, ih h.2]; rfl
section
variable {M : Amb} {d : Nat} {sc : Scope} {cl : List (Str × Loc)} {ml : List (Str × V)} {H : MH}
theorem TE_list2 {es : List Expr} {pos : Pos} {Q : V → MH → Prop} (ha : es.all noStar = true)
    (h : TEs M d sc cl ml H es fun vs H1 => vs.length ≤ 1000 ∧ H1.free (.tmp H1.nx) ∧ Q (.cell (.tmp H1.nx)) (H1.add (.tmp H1.nx) (.list vs))) : TE M d sc cl ml H (.List es pos) Q := by
  intro A base h₀ outer fenv env L m mm s wd Qm hs c k
  refine List_ ?_
  rw [star_args _ ha, back_args]
  refine h hs c fun a a' H1 w1 h1 t1 q1 x1 r1 c1 => ?_
  refine newList_K c1.F c1.N (fun D h' F' N' hn => ?_) (by rw [r1.length]; exact Nat.le_trans q1.1 (by decide))
  obtain ⟨E, R, C⟩ := new_list (tk := t1) (n := 0) c1 q1.2.1 r1 F' N' hn
  exact k _ _ _ _ h' t1 q1.2.2 (x1.trans E) R C
theorem TE_comp2 {elt iter : Expr} {x : Str} {px : Pos} {scope : Scope} {cl' : List (Str × Loc)} {pos : Pos} {Q : V → MH → Prop}
    (hkind : scope.kind = .function) (hcell : ∀ y ∈ scope.names, y.2 ≠ .cell) (hnames : ∀ y ∈ scope.names, y.2 = .local → scope.names.lookup y.1 = some .local) (hx : (relS scope sc).names.lookup x = some .local)
    (hse : ∀ env v, foldedSetIterable iter env v = pure v)
    (hclos : ∀ env : Env, (∀ y l, cl.lookup y = some l → ∃ a, env.cells.lookup y = some a) → ∃ ccl, closureFor scope env = pure ccl ∧ ∀ y l, cl'.lookup y = some l → cl.lookup y = some l ∧ ccl.lookup y = env.cells.lookup y)
    (G : MH → Nat → List V → MH → Prop)
    (h : TE M d sc cl ml H iter fun v H1 => ∃ l xs, v = .cell l ∧ H1.c l = some (.list xs) ∧ xs.length ≤ 1000 ∧ G H1 0 [] H1 ∧
      (∀ i ys H₁ xi, xs[i]? = some xi → G H1 i ys H₁ → TE M.pur d (relS scope sc) cl' [(x, xi)] H₁ elt fun y H₂ => G H1 (i + 1) (ys ++ [y]) H₂) ∧
      ∀ ys H', G H1 xs.length ys H' → H'.free (.tmp H'.nx) ∧ Q (.cell (.tmp H'.nx)) (H'.add (.tmp H'.nx) (.list ys))) :
    TE M d sc cl ml H (.ListComp elt [⟨.Name x px, iter, [], 0⟩] scope pos) Q := by
  intro A base h₀ outer fenv env L m mm s wd Qm hs c k
  show wpAny _ _ (eval (.ListComp elt [⟨.Name x px, iter, [], 0⟩] scope pos) env) _ _ _
  rw [eval_ListComp]
  obtain ⟨ccl, hc1, hc2⟩ := hclos env fun y l hy => let ⟨a, a1, _⟩ := c.cr y l hy; ⟨a, a1⟩
  refine wpAny_comprehension_free (use := none) rfl (hse env) hc1 hkind hnames (h hs c fun v v' H1 w1 h1 t1 q1 x1 r1 c1 => ?_)
  obtain ⟨l, xs, rfl, hlist, hz, g0, step, hend⟩ := q1
  cases r1 with
  | cell hax =>
    refine comp_block (RR := fun acc C => compPost (model M.prog M.w) A (fun _ _ => False) none Qm acc C) hs c1 hlist hz hkind hcell hx (fun y l1 hy => ?_) hax (G H1) g0 step
      fun D C h' tk wd' H' ys us mC' g E v c' kD kC p n lD oD lC oC DC => ⟨mC', n, fun h2 hs2 => ?_⟩
    · obtain ⟨i1, i2⟩ := hc2 y l1 hy
      obtain ⟨a, a1, a2⟩ := c1.cr y l1 i1
      exact ⟨a, i2.trans a1, a2⟩
    · obtain ⟨hf, q⟩ := hend ys H' g
      obtain ⟨nD, gD⟩ := p
      have E2 : Ext M.pu wd' ((wd'.more D (listOf us.toArray nD)).name (.tmp H'.nx) false D) := Ext.name (c'.rel.free (.tmp H'.nx) false hf) kD
      have F2 : Fr h₀ L h2 m := c'.F.change hs2 lC oC
      have N2 : News h₀ L h2 ((D, listOf us.toArray nD) :: wd'.news) := fun p hp => by
        rcases List.mem_cons.mp hp with rfl | hp
        · exact ⟨(hs2.2 _ DC).trans gD, lD, oD⟩
        · exact ⟨(hs2.2 _ fun e => kC (e ▸ mem_keys hp)).trans (c'.N p hp).1, (c'.N p hp).2⟩
      exact k _ _ _ _ h2 tk q ((x1.trans E).trans E2) (.cell (name_at ..)) (c'.go F2 N2 E2 (c'.rel.name hf kD ⟨D, us, nD, name_at .., .head _, v.ext _ E2⟩))
end
section
variable {M : Amb} {d : Nat} {cl : List (Str × Loc)} {ml : List (Str × V)} {H : MH}
theorem CALL_cells_go {f : Addr} {qual : Str} {st : Stmt} {dV : Value} {xs : List V} {x : Str} {l : Loc} {binds lb : List (Str × V)} {cv : Option V} {s0 : Stmt} {rest : List Stmt} {k : ScopeKind} {nms : List (Str × NameKind)} {g co : Bool} {mo} {Q : V → MH → Prop}
    (hf : FnAt M.K f qual st dV) (hb : Bound M.K qual st dV xs binds) (hbd : bd st = s0 :: rest) (hsc : sco st = { kind := k, names := nms, isGenerator := g, isCoroutine := co, more := mo })
    (hkind : (binds.all fun y => nms.lookup y.1 == some .local || nms.lookup y.1 == some .cell) = true)
    (hcf : ∀ n, cellsFrom n nms [] = [(x, n)]) (hco : co = false) (hgen : g = false) (hk : k = .function)
    (hL : ∀ (wd : WD) (bs : List (Str × Value)), BR M.K wd binds bs → (∀ y u, lb.lookup y = some u → ∃ u', bindL (fun z => nms.lookup z) bs (fun _ => none) y = some u' ∧ VR M.K wd u u') ∧
      (match cv with | some u => ∃ u', bindC (fun z => nms.lookup z) bs (fun _ => none) x = some u' ∧ VR M.K wd u u' | none => True))
    (hl : H.free l) (h : TS M d { kind := k, names := nms, isGenerator := g, isCoroutine := co, more := mo } [(x, l)] lb (H.add l (.var cv)) (s0 :: rest) (backS Q)) : CALL M (d + 1) cl ml H f xs Q := by
  obtain ⟨kV, doc, pm, cdv, ct, oc, an, od, osl, ho, hcd⟩ := hf
  have hb' := hb kV doc pm cdv ct an
  revert ho hb' hbd hsc
  generalize nm st = n
  generalize pr st = p
  generalize bd st = b
  generalize sco st = sc
  rintro rfl rfl ho hb'
  exact CALL_cells (x := x) (l := l) (binds := binds) (lb := lb) (cv := cv) ho hcd hb' hkind hcf hco hgen hk (fun wd bs L' r => hL wd bs r) hl h
theorem CALL_cells2 {f : Addr} {qual : Str} {st : Stmt} {dV : Value} {u v : V} {x y : Str} {l : Loc} {s0 : Stmt} {rest : List Stmt} {k : ScopeKind} {nms : List (Str × NameKind)} {g co : Bool} {mo} {Q : V → MH → Prop}
    (hf : FnAt M.K f qual st dV) (hb : Bound M.K qual st dV [u, v] [(x, u), (y, v)]) (hbd : bd st = s0 :: rest) (hsc : sco st = { kind := k, names := nms, isGenerator := g, isCoroutine := co, more := mo })
    (hx : nms.lookup x = some .cell) (hy : nms.lookup y = some .local)
    (hcf : ∀ n, cellsFrom n nms [] = [(x, n)]) (hco : co = false) (hgen : g = false) (hk : k = .function)
    (hl : H.free l) (h : TS M d { kind := k, names := nms, isGenerator := g, isCoroutine := co, more := mo } [(x, l)] [(y, v)] (H.add l (.var (some u))) (s0 :: rest) (backS Q)) : CALL M (d + 1) cl ml H f [u, v] Q := by
  refine CALL_cells_go hf hb hbd hsc (by simp [hx, hy]) hcf hco hgen hk (fun wd bs r => ?_) hl h
  cases r with
  | cons r0 r => cases r with
    | cons r1 r =>
      cases r
      refine ⟨fun z w hz => ?_, _, by simp [bindC, hx, hy], r0⟩
      rw [List.lookup_cons] at hz
      split at hz
      · rename_i q
        cases hz
        rw [eq_of_beq q]
        exact ⟨_, by simp [bindL, hx, hy], r1⟩
      · cases hz
theorem CALL_cells1 {f : Addr} {qual : Str} {st : Stmt} {dV : Value} {v : V} {x y : Str} {l : Loc} {s0 : Stmt} {rest : List Stmt} {k : ScopeKind} {nms : List (Str × NameKind)} {g co : Bool} {mo} {Q : V → MH → Prop}
    (hf : FnAt M.K f qual st dV) (hb : Bound M.K qual st dV [v] [(y, v)]) (hbd : bd st = s0 :: rest) (hsc : sco st = { kind := k, names := nms, isGenerator := g, isCoroutine := co, more := mo })
    (hy : nms.lookup y = some .local)
    (hcf : ∀ n, cellsFrom n nms [] = [(x, n)]) (hco : co = false) (hgen : g = false) (hk : k = .function)
    (hl : H.free l) (h : TS M d { kind := k, names := nms, isGenerator := g, isCoroutine := co, more := mo } [(x, l)] [(y, v)] (H.add l (.var none)) (s0 :: rest) (backS Q)) : CALL M (d + 1) cl ml H f [v] Q := by
  refine CALL_cells_go (cv := none) hf hb hbd hsc (by simp [hy]) hcf hco hgen hk (fun wd bs r => ?_) hl h
  cases r with
  | cons r1 r =>
    cases r
    refine ⟨fun z w hz => ?_, trivial⟩
    rw [List.lookup_cons] at hz
    split at hz
    · rename_i q
      cases hz
      rw [eq_of_beq q]
      exact ⟨_, by simp [bindL, hy], r1⟩
    · cases hz
end
theorem clos_one {x z : Str} {env : Env} {a : Addr} {k : ScopeKind} {g co : Bool} {mo} {p q : Str} (h : env.cells.lookup x = some a) :
    closureFor { kind := k, names := [(p, .local), (q, .local), (z, .globalImplicit), (x, .free)], isGenerator := g, isCoroutine := co, more := mo } env = pure [(x, a)] := by
  unfold closureFor cellOf
  simp [h]
theorem clos_one' {x : Str} {env : Env} {a : Addr} {k : ScopeKind} {g co : Bool} {mo} {p q : Str} (h : env.cells.lookup x = some a) :
    closureFor { kind := k, names := [(p, .local), (q, .local), (x, .free)], isGenerator := g, isCoroutine := co, more := mo } env = pure [(x, a)] := by
  unfold closureFor cellOf
  simp [h]
theorem clos_none {env : Env} {k : ScopeKind} {g co : Bool} {mo} {p q : Str} :
    closureFor { kind := k, names := [(p, .local), (q, .local)], isGenerator := g, isCoroutine := co, more := mo } env = pure [] := by
  unfold closureFor
  simp
mutual
inductive DW (H : MH) : V → PyData → Prop
  | str (s : Str) : DW H (.str s) (.str s)
  | tup {xs : List V} {ds : List PyData} : DWs H xs ds → DW H (.tup xs) (.tuple ds)
  | list {l : Loc} {xs : List V} {ds : List PyData} : H.c l = some (.list xs) → (∀ k, l = .tmp k → k < H.nx) → DWs H xs ds → DW H (.cell l) (.list ds)
inductive DWs (H : MH) : List V → List PyData → Prop
  | nil : DWs H [] []
  | cons {x : V} {d : PyData} {xs : List V} {ds : List PyData} : DW H x d → DWs H xs ds → DWs H (x :: xs) (d :: ds)
end
theorem DW.ind {H : MH} {P : V → PyData → Prop} {Ps : List V → List PyData → Prop} (str : ∀ s, P (.str s) (.str s)) (tup : ∀ {xs ds}, Ps xs ds → P (.tup xs) (.tuple ds))
    (list : ∀ {l xs ds}, H.c l = some (.list xs) → (∀ k, l = .tmp k → k < H.nx) → Ps xs ds → P (.cell l) (.list ds)) (nil : Ps [] []) (cons : ∀ {x d xs ds}, DW H x d → P x d → Ps xs ds → Ps (x :: xs) (d :: ds)) :
    (∀ {x d}, DW H x d → P x d) ∧ (∀ {xs ds}, DWs H xs ds → Ps xs ds) :=
  ⟨fun h => DW.rec (motive_1 := fun x d _ => P x d) (motive_2 := fun xs ds _ => Ps xs ds) str (fun _ i => tup i) (fun h b _ i => list h b i) nil (fun a _ i j => cons a i j) h,
   fun h => DWs.rec (motive_1 := fun x d _ => P x d) (motive_2 := fun xs ds _ => Ps xs ds) str (fun _ i => tup i) (fun h b _ i => list h b i) nil (fun a _ i j => cons a i j) h⟩
theorem DW.dv {H : MH} {x : V} {d : PyData} (h : DW H x d) : DV H x d := (DW.ind (P := fun x d => DV H x d) (Ps := fun xs ds => DVs H xs ds) .str .tup (fun h _ i => .list h i) .nil (fun _ a r => .cons a r)).1 h
noncomputable abbrev noL (_ : Loc) : Bool := false
theorem DWs.dv {H : MH} {xs : List V} {ds : List PyData} (h : DWs H xs ds) : DVs H xs ds := (DW.ind (P := fun x d => DV H x d) (Ps := fun xs ds => DVs H xs ds) .str .tup (fun h _ i => .list h i) .nil (fun _ a r => .cons a r)).2 h
theorem DWs.keep {H H' : MH} (k : Keep noL H H') {xs : List V} {ds : List PyData} (h : DWs H xs ds) : DWs H' xs ds :=
  (DW.ind (P := fun x d => DW H' x d) (Ps := fun xs ds => DWs H' xs ds) .str .tup (fun h b i => .list ((k.2 _ rfl b).trans h) (fun j e => Nat.lt_of_lt_of_le (b j e) k.1) i) .nil (fun _ a r => .cons a r)).2 h
theorem DWs.append {H : MH} {xs ys : List V} {ds es : List PyData} (h : DWs H xs ds) (g : DWs H ys es) : DWs H (xs ++ ys) (ds ++ es) :=
  (DW.ind (P := fun _ _ => True) (Ps := fun xs ds => DWs H (xs ++ ys) (ds ++ es)) (fun _ => .intro) (fun _ => .intro) (fun _ _ _ => .intro) g (fun a _ i => .cons a i)).2 h
noncomputable def vD : V → PyData
  | .tup [.str a, .str b] => .tuple [.str a, .str b]
  | _ => .none
noncomputable def plainD : Nat → List Nd → Nat → PyData
  | 0, _, _ => .none
  | f + 1, ns, i => match ns[i]? with
    | none => .none
    | some x => if x.kind = "text" then .str x.text else if x.kind = "comment" then .tuple [.str "comment", .str x.text] else .list [.str x.name, .list (x.attrs.map vD), .list (x.kids.map (plainD f ns))]
theorem attrs_dw {N : Nat} {σ : St} {i : Nat} {x : Nd} (o : NdOK N σ i x) (H : MH) : DWs H x.attrs (x.attrs.map vD) := by
  rcases o.ao with e | ⟨a, e, _⟩
  · rw [e]; exact .nil
  · rw [e]; exact .cons (.tup (.cons (.str _) (.cons (.str _) .nil))) .nil
theorem BH.noL {H H' : MH} {σ : St} (h : BH H σ) (k : Keep noL H H') : BH H' σ := h.keep k fun _ _ => rfl
theorem w_plain : ∀ (n : Nat) {M : Amb} (_ : Facts M.K) {N E : Nat} {σ : St} (_ : WF N E σ) (_ : N ≤ 800) {H : MH} (_ : BH H σ) {i : Nat} {x : Nd} (_ : σ.nodes[i]? = some x) (_ : σ.nodes.length - i ≤ n) {d : Nat} {cl : List (Str × Loc)} {ml : List (Str × V)} {Q : V → MH → Prop}
    (_ : ∀ v H', DW H' v (plainD (n + 1) σ.nodes i) → Keep noL H H' → Q v H'), CALL M (d + n + 1) cl ml H 776 [.cell .tree, vi i] Q := by
  intro n
  induction n with
  | zero =>
    intro M F N E σ w hN H hB i x hx hn d cl ml Q h
    have := lt_of_get hx
    omega
  | succ n ih =>
    intro M F N E σ w hN H hB i x hx hn d cl ml Q h
    have hil := lt_of_get hx
    have hzn := w.zn
    have o := w.nd i x hx
    refine CALL_cells2 (l := .tmp H.nx) (at_law_plain F) b_law_plain rfl rfl rfl rfl (fun _ => rfl) rfl rfl rfl (free_tmp (Nat.le_refl _)) ?_
    have hB1 : BH (H.add (.tmp H.nx) (.var (some (.cell .tree)))) σ := hB.atmp
    have hv : (H.add (.tmp H.nx) (.var (some (.cell .tree)))).c (.tmp H.nx) = some (.var (some (.cell .tree))) := add_same
    have k1 : Keep noL H (H.add (.tmp H.nx) (.var (some (.cell .tree)))) := Keep.tmp (Nat.le_refl _)
    have hlt : H.nx < (H.add (.tmp H.nx) (.var (some (.cell .tree)))).nx := lt_bump _ _
    revert hB1 hv k1 hlt
    generalize H.add (.tmp H.nx) (.var (some (.cell .tree))) = H1
    intro hB1 hv k1 hlt
    have hpD : plainD (n + 1 + 1) σ.nodes i = if x.kind = "text" then .str x.text else if x.kind = "comment" then .tuple [.str "comment", .str x.text] else .list [.str x.name, .list (x.attrs.map vD), .list (x.kids.map (plainD (n + 1) σ.nodes))] := by
      show (match σ.nodes[i]? with | none => _ | some x => _) = _
      rw [hx]
    rw [hpD] at h
    walk_at "m.run"
    by_cases e : x.kind = "text"
    · rw [if_pos e] at h
      walk_at "m.run"
      exact h _ _ (.str _) k1
    rw [if_neg e] at h
    walk_at "m.run"
    by_cases e2 : x.kind = "comment"
    · rw [if_pos e2] at h
      walk_at "m.run"
      exact h _ _ (.tup (.cons (.str _) (.cons (.str _) .nil))) k1
    rw [if_neg e2] at h
    walk_at "m.run"
    refine TE_list2 rfl ?_
    walk_at "m.run"
    have F' : Facts M.pur.K := F
    have hk := hB1.kid hx
    have hkl := o.kl
    refine TE_comp2 (cl' := [("tree", .tmp H.nx)]) rfl (by decide +kernel) (by decide +kernel) (by decide +kernel) (fun _ _ => rfl) (fun env he => ?_) (fun H2 i ys H' => DWs H' ys ((x.kids.take i).map (plainD (n + 1) σ.nodes)) ∧ Keep noL H2 H') ?_
    · obtain ⟨a, ha⟩ := he "tree" (.tmp H.nx) rfl
      refine ⟨[("tree", a)], clos_one ha, fun y l hy => ⟨hy, ?_⟩⟩
      rw [List.lookup_cons] at hy ⊢
      split at hy
      · rename_i q; rw [eq_of_beq q, ha]
      · cases hy
    walk_at "m.run"
    refine ⟨.kid i, x.kids.map vi, rfl, hk, by rw [List.length_map]; omega, ⟨.nil, Keep.refl _⟩, ?_, ?_⟩
    · rintro j ys H2 xi hxi ⟨hys, k2⟩
      rw [List.getElem?_map] at hxi
      cases hj : x.kids[j]? with
      | none => rw [hj] at hxi; cases hxi
      | some y =>
        rw [hj] at hxi; cases hxi
        obtain ⟨z, hz, hzp, _⟩ := o.kid y (List.mem_of_getElem? hj)
        have hz2 := (w.nd y z hz).p2
        have hB2 : BH H2 σ := hB1.noL k2
        have hv2 : H2.c (.tmp H.nx) = some (.var (some (.cell .tree))) := (k2.2 _ rfl fun j e => by cases e; exact hlt).trans hv
        show TE _ _ { kind := _, names := _, isGenerator := _, isCoroutine := _, more := _ } _ _ _ _ _
        walk_at "m.run"
        refine ih F' w hN hB2 hz (by omega) fun v H3 dv k3 => ?_
        refine ⟨?_, k2.trans k3⟩
        rw [List.take_succ, hj, List.map_append]
        exact (hys.keep k3).append (.cons dv .nil)
    · rintro ys H2 ⟨hys, k2⟩
      rw [List.length_map, List.take_length] at hys
      refine ⟨free_tmp (Nat.le_refl _), ?_⟩
      walk_at "m.run"
      refine ⟨free_tmp (Nat.le_refl _), ?_⟩
      walk_at "m.run"
      have hB2 : BH H2 σ := hB1.noL k2
      have ka : Keep noL H2 (H2.add (.tmp H2.nx) (.list ys)) := (Keep.refl _).tmp' (Nat.le_refl _)
      have la : H2.nx < (H2.add (.tmp H2.nx) (.list ys)).nx := lt_bump _ _
      have ca : (H2.add (.tmp H2.nx) (.list ys)).c (.tmp H2.nx) = some (.list ys) := add_same
      revert ka la ca
      generalize H2.add (.tmp H2.nx) (.list ys) = H3
      intro ka la ca
      have kb : Keep noL H3 (H3.add (.tmp H3.nx) (.list [.str x.name, .cell (.att i), .cell (.tmp H2.nx)])) := (Keep.refl _).tmp' (Nat.le_refl _)
      have lb : H3.nx < (H3.add (.tmp H3.nx) (.list [.str x.name, .cell (.att i), .cell (.tmp H2.nx)])).nx := lt_bump _ _
      have cb : (H3.add (.tmp H3.nx) (.list [.str x.name, .cell (.att i), .cell (.tmp H2.nx)])).c (.tmp H3.nx) = some (.list [.str x.name, .cell (.att i), .cell (.tmp H2.nx)]) := add_same
      revert kb lb cb
      generalize H3.add (.tmp H3.nx) (.list [.str x.name, .cell (.att i), .cell (.tmp H2.nx)]) = H4
      intro kb lb cb
      have hB4 : BH H4 σ := (hB2.noL ka).noL kb
      refine h _ _ ?_ (((k1.trans k2).trans ka).trans kb)
      refine .list cb (fun j e => by cases e; exact lb) (.cons (.str _) (.cons (.list (hB4.att hx) (fun j e => by cases e) (attrs_dw o H4)) (.cons (.list ?_ (fun j e => by cases e; omega) (hys.keep (ka.trans kb))) .nil)))
      exact (kb.2 _ rfl fun j e => by cases e; exact la).trans ca
theorem ite_of {α : Type} {P : α → Prop} {c : Prop} [Decidable c] {a b : α} (ha : c → P a) (hb : ¬ c → P b) : P (if c then a else b) := by
  by_cases h : c
  · rw [if_pos h]; exact ha h
  · rw [if_neg h]; exact hb h
theorem sigN_ack {σ : St} {c : Str} : (sigN σ c).ack = σ.ack := by
  unfold sigN
  split
  · unfold signN
    split
    · split
      · split <;> rfl
      · rfl
    · rfl
  · rfl
theorem abhN_ack {σ : St} {t : Tk} : (abhN σ t).ack = σ.ack := by unfold abhN; split <;> rfl
theorem bodyN1_ack {σ : St} {t : Tk} : (bodyN1 σ t).ack = σ.ack := by
  cases t with
  | ch c => exact sigN_ack
  | eof => rfl
  | start n a s => show St.ack (if _ then _ else _) = _; split <;> rfl
  | fin n =>
    show St.ack (if _ then (if _ then _ else _) else if _ then _ else if _ then _ else _) = _
    split
    · split <;> rfl
    · split
      · rfl
      · split
        · exact abhN_ack
        · rfl
  | com c => rfl
  | doc => rfl
theorem bodyN_ack {σ : St} {t : Tk} : (bodyN σ t).ack = σ.ack := bodyN1_ack
theorem backN_ack {σ : St} {t : Tk} : (backN σ t).ack = σ.ack := bodyN1_ack
theorem leaveN_ack {σ : St} {t : Tk} : (leaveN σ t).ack = σ.ack := by
  unfold leaveN
  split
  · rfl
  · split
    · split <;> rfl
    · rfl
theorem actN_ack {σ : St} {n b : Str} {s : Bool} {a : Str} (h : σ.ack = false) : (actN σ (.start n b s) a).ack = (a == "void") := by
  by_cases e : a = "void"
  · subst e; rfl
  · rw [show (a == "void") = false from by simp [e]]
    unfold actN
    refine ite_of (P := fun τ : St => τ.ack = false) (fun _ => h) fun _ => ite_of (P := fun τ : St => τ.ack = false) (fun _ => ite_of (P := fun τ : St => τ.ack = false) (fun _ => ite_of (P := fun τ : St => τ.ack = false) (fun _ => h) fun _ => h) fun _ => h) fun _ => ite_of (P := fun τ : St => τ.ack = false) (fun _ => backN_ack.trans h) fun _ => ite_of (P := fun τ : St => τ.ack = false) (fun _ => bodyN_ack.trans h) fun _ => ite_of (P := fun τ : St => τ.ack = false) (fun _ => h) fun _ => ?_
    refine ite_of (P := fun τ : St => τ.ack = false) (fun _ => leaveN_ack.trans h) fun _ => ite_of (P := fun τ : St => τ.ack = false) (fun _ => h) fun _ => ite_of (P := fun τ : St => τ.ack = false) (fun _ => ite_of (P := fun τ : St => τ.ack = false) (fun _ => h) fun _ => h) fun _ => ite_of (P := fun τ : St => τ.ack = false) (fun _ => h) fun _ => ite_of (P := fun τ : St => τ.ack = false) (fun q => absurd q e) fun _ => ite_of (P := fun τ : St => τ.ack = false) (fun _ => h) fun _ => ite_of (P := fun τ : St => τ.ack = false) (fun _ => h) fun _ => h
theorem slash_ok : PyData.strOk slashW = true := by decide +kernel
theorem WF.feed {N E : Nat} {σ : St} (w : WF N E σ) (hN : 5 ≤ N) (hne : σ.stack ≠ []) {t : Tk} (ht : t.ok) : WF (N + 1) (E + 4) (feedN σ t) := by
  have r := (w.ack false).run hN hne ht
  have r' := r.mono (Nat.le_refl _) (Nat.le_succ _)
  unfold feedN
  cases t with
  | start n a s =>
    dsimp only
    split
    · exact r.err (.pair slash_ok (mode_ok r.md))
    · exact r'
  | _ => exact r'
noncomputable def lawN (σ : St) (t : Tk) : St :=
  match t with
  | .start _ _ s => if (s && (actOf σ.mode t != "void")) = true then errN (actN { σ with ack := false } t (actOf σ.mode t)) (.tup [.str slashW, .str (actN { σ with ack := false } t (actOf σ.mode t)).mode]) else actN { σ with ack := false } t (actOf σ.mode t)
  | _ => actN { σ with ack := false } t (actOf σ.mode t)
theorem feed_law {N E : Nat} {σ : St} (w : WF N E σ) {t : Tk} (ht : t.ok) : feedN σ t = lawN σ t := by
  have r : actN { σ with ack := false } t (actOf σ.mode t) = runN { σ with ack := false } t := act_run (w.ack false) ht
  unfold feedN lawN
  cases t with
  | start n a s =>
    dsimp only
    have q : (runN { σ with ack := false } (.start n a s)).ack = (actOf σ.mode (.start n a s) == "void") := by rw [← r]; exact actN_ack rfl
    rw [r, q]
    rfl
  | _ => exact r.symm
noncomputable def RootS (σ : St) : Prop := ∃ (i : Nat) (r : List Nat) (x : Nd), σ.stack = i :: r ∧ σ.nodes[i]? = some x ∧ x.name = "html"
noncomputable def Rt (σ : St) : Prop := σ.done = true ∨ RootS σ
theorem RootS.ne {σ : St} (h : RootS σ) : σ.stack ≠ [] := by obtain ⟨i, r, x, e, _⟩ := h; rw [e]; exact List.cons_ne_nil _ _
theorem RootS.ins {σ : St} (h : RootS σ) {nd : Nd} {p : Nat} : RootS (insN σ nd p) := by
  obtain ⟨i, r, x, e, hx, hn⟩ := h
  obtain ⟨ks, g⟩ := insN_old (nd := nd) (p := p) hx
  exact ⟨i, r, _, e, g, hn⟩
theorem RootS.grow {σ : St} (h : RootS σ) {n : Str} {a : List V} : RootS (growN σ n a) := by
  obtain ⟨i, r, x, e, hx, hn⟩ := h
  obtain ⟨ks, g⟩ := insN_old (nd := elN n a) (p := curP σ.stack) hx
  exact ⟨i, r ++ [σ.nodes.length], _, by show σ.stack ++ _ = _; rw [e]; rfl, g, hn⟩
theorem RootS.text {σ : St} (h : RootS σ) {k : Nat} {c : Str} : RootS (setText σ k c) := by
  obtain ⟨i, r, x, e, hx, hn⟩ := h
  obtain ⟨t, g, _⟩ := setText_old (k := k) (c := c) hx
  exact ⟨i, r, _, e, g, hn⟩
theorem RootS.sign {σ : St} (h : RootS σ) {c : Str} : RootS (sigN σ c) := by
  unfold sigN
  split
  · unfold signN
    split
    · split
      · split
        · exact h.text
        · exact h.ins
      · exact h.ins
    · exact h.ins
  · exact h
theorem RootS.pop {σ : St} (h : RootS σ) (hl : 2 ≤ σ.stack.length) : RootS (popN σ) := by
  obtain ⟨i, r, x, e, hx, hn⟩ := h
  cases r with
  | nil => rw [e] at hl; simp at hl
  | cons j r => exact ⟨i, (j :: r).dropLast, x, by show σ.stack.dropLast = _; rw [e]; rfl, hx, hn⟩
theorem RootS.popP {σ : St} (h : RootS σ) (hp : curName σ = "p") : RootS (popN σ) := by
  refine h.pop ?_
  obtain ⟨i, r, x, e, hx, hn⟩ := h
  cases r with
  | nil =>
    exfalso
    have hc : curP σ.stack = i := by rw [e]; rfl
    unfold curName at hp
    rw [hc, hx] at hp
    have hp : x.name = "p" := hp
    rw [hn] at hp
    revert hp; decide
  | cons j r => rw [e]; simp
theorem RootS.abh {σ : St} (h : RootS σ) {t : Tk} : RootS (abhN σ t) := by unfold abhN; split <;> exact h
theorem RootS.body1 {σ : St} (h : RootS σ) {t : Tk} : Rt (bodyN1 σ t) := by
  cases t with
  | ch c => exact .inr h.sign
  | eof => exact .inl rfl
  | start n a s =>
    show Rt (if _ then _ else _)
    split
    · exact .inr h.grow
    · exact .inr h
  | fin n =>
    show Rt (if _ then (if _ then _ else _) else if _ then _ else if _ then _ else _)
    split
    · split
      · rename_i e; exact .inr (h.popP e)
      · exact .inr h
    · split
      · exact .inr h
      · split
        · exact .inr (RootS.abh (σ := { σ with mode := "after body" }) h)
        · exact .inr h
  | com c => exact .inr h
  | doc => exact .inr h
theorem RootS.body {σ : St} (h : RootS σ) {t : Tk} : Rt (bodyN σ t) := RootS.body1 (σ := noteN σ σ.mode t) h
theorem RootS.back {σ : St} (h : RootS σ) {t : Tk} : Rt (backN σ t) := RootS.body (σ := { refN σ t with mode := "in body" }) h
theorem RootS.head {σ : St} (h : RootS σ) {t : Tk} : RootS (headN σ t) := by
  cases t with
  | start n a s => exact RootS.ins (σ := noteN σ "head" (.start n a s)) h
  | _ => exact h
theorem RootS.leave {σ : St} (h : RootS σ) {t : Tk} : RootS (leaveN σ t) := by
  unfold leaveN
  split
  · exact h
  · rename_i e
    have hl : 2 ≤ σ.stack.length := by simp only [decide_eq_true_eq] at e; omega
    split
    · split <;> exact h.pop hl
    · exact h.pop hl
theorem RootS.act {σ : St} (h : RootS σ) {t : Tk} {a : Str} : Rt (actN σ t a) := by
  have h0 : Rt σ := .inr h
  unfold actN
  refine ite_of (fun _ => h0) fun _ => ite_of (fun _ => ite_of (fun _ => ite_of (fun _ => h0) fun _ => h0) fun _ => h0) fun _ => ite_of (fun _ => h.back) fun _ => ite_of (fun _ => h.body) fun _ => ite_of (fun _ => ?_) fun _ => ?_
  · cases t with
    | ch c => exact .inr h.sign
    | com c => exact .inr h.ins
    | _ => exact h0
  refine ite_of (fun _ => .inr h.leave) fun _ => ite_of (fun _ => .inl rfl) fun _ => ite_of (fun _ => ite_of (fun _ => .inl rfl) fun _ => .inl rfl) fun _ => ite_of (fun _ => ?_) fun _ => ite_of (fun _ => ?_) fun _ => ite_of (fun _ => .inr h.head) fun _ => ite_of (fun _ => ?_) fun _ => ?_
  · cases t with
    | start n b s => exact .inr h.grow
    | _ => exact h0
  · cases t with
    | start n b s => exact .inr (RootS.ins (σ := σ) h)
    | _ => exact h0
  · cases t with
    | com c => exact .inr h.ins
    | _ => exact h0
  · cases t with
    | com c => exact .inr h.ins
    | _ => exact h0
theorem RootS.law {σ : St} (h : RootS σ) {t : Tk} : Rt (lawN σ t) := by
  have r : Rt (actN { σ with ack := false } t (actOf σ.mode t)) := RootS.act (σ := { σ with ack := false }) h
  unfold lawN
  cases t with
  | start n a s => dsimp only; split <;> exact r
  | _ => exact r
theorem depthAll_le {k : Nat} : ∀ {ds : List PyData}, (∀ d ∈ ds, d.depth ≤ k) → PyData.depthAll ds ≤ k
  | [], _ => by simp [PyData.depthAll]
  | d :: r, h => by
    have h1 := h d (.head _)
    have h2 := depthAll_le (ds := r) fun d hd => h d (.tail _ hd)
    simp only [PyData.depthAll]; omega
theorem layAll_of : ∀ {ds : List PyData}, (∀ d ∈ ds, d.canLay0 = true) → PyData.canLayAll0 ds = true
  | [], _ => rfl
  | d :: r, h => by
    have h1 := h d (.head _)
    have h2 := layAll_of (ds := r) fun d hd => h d (.tail _ hd)
    simp only [PyData.canLayAll0, h1, h2]; rfl
theorem attrs_ok {N : Nat} {σ : St} {i : Nat} {x : Nd} (o : NdOK N σ i x) : PyData.canLayAll0 (x.attrs.map vD) = true ∧ PyData.depthAll (x.attrs.map vD) ≤ 1 := by
  rcases o.ao with e | ⟨a, e, ha⟩
  · rw [e]; exact ⟨rfl, by simp [PyData.depthAll]⟩
  · rw [e]
    have hn : PyData.strOk ("n" : Str) = true := by decide +kernel
    refine ⟨?_, ?_⟩
    · show PyData.canLayAll0 [.tuple [.str "n", .str a]] = true
      simp [PyData.canLayAll0, PyData.canLay0, ha, hn]
    · show PyData.depthAll [.tuple [.str "n", .str a]] ≤ 1
      simp [PyData.depth, PyData.depthAll]
theorem plainD_at {f : Nat} {ns : List Nd} {i : Nat} {x : Nd} (hx : ns[i]? = some x) : plainD (f + 1) ns i = if x.kind = "text" then .str x.text else if x.kind = "comment" then .tuple [.str "comment", .str x.text] else .list [.str x.name, .list (x.attrs.map vD), .list (x.kids.map (plainD f ns))] := by
  show (match ns[i]? with | none => _ | some x => _) = _
  rw [hx]
theorem plain_ok {N E : Nat} {σ : St} (w : WF N E σ) : ∀ (n i : Nat), σ.nodes.length - i ≤ n → (plainD (n + 1) σ.nodes i).canLay0 = true ∧ (plainD (n + 1) σ.nodes i).depth ≤ 2 * n + 2 := by
  intro n
  induction n with
  | zero =>
    intro i hi
    have hx : σ.nodes[i]? = none := List.getElem?_eq_none (by omega)
    have : plainD (0 + 1) σ.nodes i = .none := by show (match σ.nodes[i]? with | none => _ | some x => _) = _; rw [hx]
    rw [this]
    exact ⟨rfl, by simp [PyData.depth]⟩
  | succ n ih =>
    intro i hi
    cases hx : σ.nodes[i]? with
    | none =>
      have : plainD (n + 1 + 1) σ.nodes i = .none := by show (match σ.nodes[i]? with | none => _ | some x => _) = _; rw [hx]
      rw [this]
      exact ⟨rfl, by simp [PyData.depth]⟩
    | some x =>
      have o := w.nd i x hx
      have hil := lt_of_get hx
      rw [plainD_at hx]
      split
      · exact ⟨o.so, by simp [PyData.depth]⟩
      split
      · refine ⟨?_, by simp [PyData.depth, PyData.depthAll]⟩
        have : PyData.strOk ("comment" : Str) = true := by decide +kernel
        simp [PyData.canLay0, PyData.canLayAll0, o.so, this]
      · obtain ⟨a1, a2⟩ := attrs_ok o
        have kk : ∀ d ∈ x.kids.map (plainD (n + 1) σ.nodes), d.canLay0 = true ∧ d.depth ≤ 2 * n + 2 := fun d hd => by
          obtain ⟨j, hj, rfl⟩ := List.mem_map.mp hd
          obtain ⟨y, hy, hp, _⟩ := o.kid j hj
          have := (w.nd j y hy).p2
          exact ih j (by omega)
        have k1 := layAll_of fun d hd => (kk d hd).1
        have k2 := depthAll_le fun d hd => (kk d hd).2
        refine ⟨?_, ?_⟩
        · simp [PyData.canLay0, PyData.canLayAll0, o.sn, a1, k1]
        · simp only [PyData.depth, PyData.depthAll]; omega
theorem LK.att {k : Nat} {H : MH} {σ : St} (h : LK k H σ) {p : Nat} {x : Nd} (hp : isEl σ p = some x) : H.c (.latt p) = some (.list x.attrs) := h.at (by show Option.map _ _ = _; rw [hp]; rfl) rfl
theorem DVs.map {H : MH} {α : Type} {f : α → V} {g : α → PyData} : ∀ {l : List α}, (∀ a ∈ l, DV H (f a) (g a)) → DVs H (l.map f) (l.map g)
  | [], _ => .nil
  | a :: r, h => .cons (h a (.head _)) (DVs.map fun a ha => h a (.tail _ ha))
theorem page_dv {N E k : Nat} {σ : St} {H : MH} (w : WF N E σ) (L : LK k H σ) : ∀ (n i : Nat) (x : Nd), isEl σ i = some x → σ.nodes.length - i ≤ n → DV H (lnV i) (plainD (n + 1) σ.nodes i) := by
  intro n
  induction n with
  | zero =>
    intro i x hi hn
    have := lt_of_get (isEl_get hi).1
    omega
  | succ n ih =>
    intro i x hi hn
    obtain ⟨hx, hk, hc⟩ := isEl_get hi
    have o := w.nd i x hx
    rw [plainD_at hx, if_neg (by rcases hk with e | e <;> rw [e] <;> decide), if_neg (by rcases hk with e | e <;> rw [e] <;> decide)]
    refine .list (L.node hi) (.cons (.str _) (.cons (.list (L.att hi) (attrs_dw o H).dv) (.cons (.list (L.kid hi) (DVs.map fun j hj => ?_)) .nil)))
    obtain ⟨y, hy, hp, hjc, hyk⟩ := o.kid j hj
    have hp2 := (w.nd j y hy).p2
    by_cases e1 : y.kind = "text"
    · rw [plainD_at hy, if_pos e1]
      have : kidV σ.nodes j = .str y.text := by unfold kidV; rw [hy]; exact if_pos e1
      rw [this]; exact .str _
    · by_cases e2 : y.kind = "comment"
      · rw [plainD_at hy, if_neg e1, if_pos e2]
        have : kidV σ.nodes j = .tup [.str "comment", .str y.text] := by unfold kidV; rw [hy]; exact (if_neg e1).trans (if_pos e2)
        rw [this]; exact .tup (.cons (.str _) (.cons (.str _) .nil))
      · have : kidV σ.nodes j = lnV j := by unfold kidV; rw [hy]; exact (if_neg e1).trans (if_neg e2)
        rw [this]
        refine ih j y (isEl_of hy (.inl ?_) hjc) (by omega)
        rcases hyk with h | h | h
        · exact h
        · exact absurd h e1
        · exact absurd h e2
noncomputable def MH.forget (H : MH) (p : Loc → Bool) : MH := ⟨fun l => if p l = true then none else H.c l, H.nx⟩
noncomputable def WD.forget (w : WD) (p : Loc → Bool) : WD := ⟨fun l b => if p l = true then none else w.ρ l b, w.news⟩
theorem ints_vr {K : Frag} {w w' : WD} : ∀ {ys : List Int} {vs : List Value}, VRs K w (ys.map .int) vs → VRs K w' (ys.map .int) vs := by
  intro ys
  induction ys with
  | nil => intro vs h; cases h; exact .nil
  | cons y ys ih =>
    intro vs h
    cases h with
    | cons a r => obtain ⟨t, rfl⟩ := a.int_i; exact .cons (.int y t) (ih r)
theorem CALL_forget {M : Amb} {d : Nat} {cl : List (Str × Loc)} {ml : List (Str × V)} {H : MH} {a : Addr} {xs : List V} {Q : V → MH → Prop} (p : Loc → Bool) (hp : ∀ l, p l = true → H.free l)
    (hflat : ∀ l c, p l = false → H.c l = some c → ∃ ys : List Int, c = .list (ys.map .int))
    (h : CALL M d cl ml H a xs fun v H' => (∃ b, v = .bool b) ∧ (∀ l, p l = false → H'.c l = H.c l) ∧ Q v (H'.forget p)) : CALL M d cl ml H a xs Q := by
  intro A base h₀ outer fenv env L m mm s wd R xs' c r k
  refine h c r fun v v' H' wd' h' tk' q E rv c' => ?_
  obtain ⟨⟨b, rfl⟩, hk, q⟩ := q
  have ρe : ∀ l b, (wd'.forget p).ρ l b = if p l = true then none else wd'.ρ l b := fun _ _ => rfl
  have some_of : ∀ {l b a}, (wd'.forget p).ρ l b = some a → p l = false ∧ wd'.ρ l b = some a := fun {l b a} h => by
    rw [ρe] at h
    cases hq : p l with
    | true => rw [hq, if_pos rfl] at h; cases h
    | false => rw [hq, if_neg (by decide)] at h; exact ⟨rfl, h⟩
  have of_some : ∀ {l b a}, p l = false → wd'.ρ l b = some a → (wd'.forget p).ρ l b = some a := fun {l b a} hq h => by rw [ρe, hq, if_neg (by decide)]; exact h
  have E2 : Ext M.pu wd (wd'.forget p) := by
    refine ⟨fun l b a hl => ?_, fun l b a hl => E.new l b a (some_of hl).2, E.pers, E.kin, E.pure⟩
    cases hq : p l with
    | true => rw [c.rel.free l b (hp l hq)] at hl; cases hl
    | false => exact of_some hq (E.sub l b a hl)
  have R2 : Rel M.K M.prog M.w (wd'.forget p) (H'.forget p) := by
    refine ⟨fun l x hx => ?_, fun l b l' b' a h1 h2 => c'.rel.inj l b l' b' a (some_of h1).2 (some_of h2).2, c'.rel.nod, fun l b a hl => c'.rel.dom l b a (some_of hl).2, fun l b hf => ?_⟩
    · have hx : (if p l = true then none else H'.c l) = some x := hx
      cases hq : p l with
      | true => rw [hq, if_pos rfl] at hx; cases hx
      | false =>
        rw [hq, if_neg (by decide)] at hx
        obtain ⟨ys, rfl⟩ := hflat l x hq ((hk l hq).symm.trans hx)
        obtain ⟨a, vs, n, e1, e2, e3⟩ := c'.rel.cells l _ hx
        exact ⟨a, vs, n, of_some hq e1, e2, ints_vr e3⟩
    · rw [ρe]
      cases hq : p l with
      | true => rw [if_pos rfl]
      | false =>
        rw [if_neg (by decide)]
        refine c'.rel.free l b ⟨hf.1, fun n => ?_⟩
        have := hf.2 n
        have this : (if p l = true then none else H'.c l) = none := this
        rwa [hq, if_neg (by decide)] at this
  cases rv
  exact k (.bool b) _ (H'.forget p) (wd'.forget p) h' tk' q E2 (.bool b) (c.go c'.F c'.N E2 R2)
noncomputable def Loc.isT : Loc → Bool
  | .tree | .kinds | .spaces | .names | .attrs | .texts | .parents | .children | .contents | .kid _ | .att _ => true
  | _ => false
noncomputable def st0 : St := ⟨[⟨"document", "", "", [], "", -1, []⟩], [], "initial", [], false, false, -1, -1⟩
section
variable {M : Amb} {d : Nat} {cl : List (Str × Loc)} {ml : List (Str × V)} {H : MH}
theorem w_tree (hpu : M.pu = false) (F : Facts M.K) (hT : ∀ l, l.isT = true → H.c l = none) {Q : V → MH → Prop}
    (h : ∀ H', (∀ l, l.isT = true → H'.c l = bh st0 l) → (∀ l, l.isT = false → H'.c l = H.c l) → H'.nx = H.nx → Q (.cell .tree) H') : CALL M (d + 3) cl ml H 411 [] Q := by
  refine CALL_cls F.cls.2.2.1.1 F.cls.2.2.1.2.1 F.cls.2.2.1.2.2 (free_of (hT .tree rfl) fun _ => nofun) ?_
  refine CALL_go (at_Tree_init F) b_Tree_init rfl rfl rfl ?_
  have t1 := hT .tree rfl
  have t2 := hT .kinds rfl
  have t3 := hT .spaces rfl
  have t4 := hT .names rfl
  have t5 := hT .attrs rfl
  have t6 := hT .texts rfl
  have t7 := hT .parents rfl
  have t8 := hT .children rfl
  have t9 := hT .contents rfl
  have t10 := hT (.kid 0) rfl
  have t11 := hT (.att 0) rfl
  walk_at "m.run"
  refine TE_list (l := .kinds) (fun _ => rfl) ?_
  walk_at "m.run"
  refine ⟨free_of (by walk_at "m.cell2") (fun _ => nofun), ?_⟩
  walk_at "m.run"
  refine TE_list (l := .spaces) (fun _ => rfl) ?_
  walk_at "m.run"
  refine ⟨free_of (by walk_at "m.cell2") (fun _ => nofun), ?_⟩
  walk_at "m.run"
  refine TE_list (l := .names) (fun _ => rfl) ?_
  walk_at "m.run"
  refine ⟨free_of (by walk_at "m.cell2") (fun _ => nofun), ?_⟩
  walk_at "m.run"
  refine TE_list (l := .attrs) (fun _ => rfl) ?_
  walk_at "m.run"
  refine ⟨free_of (by walk_at "m.cell2") (fun _ => nofun), ?_⟩
  walk_at "m.run"
  refine TE_list (l := .texts) (fun _ => rfl) ?_
  walk_at "m.run"
  refine ⟨free_of (by walk_at "m.cell2") (fun _ => nofun), ?_⟩
  walk_at "m.run"
  refine TE_list (l := .parents) (fun _ => rfl) ?_
  walk_at "m.run"
  refine ⟨free_of (by walk_at "m.cell2") (fun _ => nofun), ?_⟩
  walk_at "m.run"
  refine TE_list (l := .children) (fun _ => rfl) ?_
  walk_at "m.run"
  refine ⟨free_of (by walk_at "m.cell2") (fun _ => nofun), ?_⟩
  walk_at "m.run"
  refine TE_dict_nil (l := .contents) (free_of (by walk_at "m.cell2") fun _ => nofun) ?_
  walk_at "m.run"
  refine CALL_fn (at_Tree_add F) (b_Tree_add2 F) rfl ?_
  refine TS_go rfl rfl ?_
  walk_at "m.run"
  refine B_list_copy (l := .att 0) (free_of (by walk_at "m.cell2") (fun _ => nofun)) (by decide) ?_
  walk_at "m.run"
  refine TE_list (l := .kid 0) (fun _ => rfl) ?_
  walk_at "m.run"
  refine ⟨free_of (by walk_at "m.cell2") (fun _ => nofun), ?_⟩
  walk_at "m.run"
  refine h _ (fun l hl => ?_) (fun l hl => ?_) rfl
  · cases l
    case kid i =>
      by_cases e : i = 0
      · subst e; walk_at "m.cell"
      · have e' : Loc.kid i ≠ Loc.kid 0 := fun z => e (Loc.kid.inj z)
        have : bh st0 (.kid i) = none := by
          show Option.map _ _ = none
          rw [List.getElem?_eq_none (by show 1 ≤ i; omega)]; rfl
        rw [this]
        (repeat' (first | exact hT _ rfl | (refine' put_other ?_ ?_) | (refine' add_other ?_ ?_) | exact e' | exact Loc.ne_tag rfl | (intro e; cases e; done)))
    case att i =>
      by_cases e : i = 0
      · subst e; walk_at "m.cell"
      · have e' : Loc.att i ≠ Loc.att 0 := fun z => e (Loc.att.inj z)
        have : bh st0 (.att i) = none := by
          show Option.map _ _ = none
          rw [List.getElem?_eq_none (by show 1 ≤ i; omega)]; rfl
        rw [this]
        (repeat' (first | exact hT _ rfl | (refine' put_other ?_ ?_) | (refine' add_other ?_ ?_) | exact e' | exact Loc.ne_tag rfl | (intro e; cases e; done)))
    all_goals first | (cases hl; done) | ((refine' Eq.trans (b := some _) ?h1 ?h2); (case h1 => walk_at "m.cell"); (case h2 => exact rfl))
  · cases l <;> first | (cases hl; done) | (repeat' (first | exact rfl | (refine' put_other ?_ ?_) | (refine' add_other ?_ ?_) | exact Loc.ne_tag rfl | (intro e; cases e; done)))
end
section
variable {M : Amb} {d : Nat} {cl : List (Str × Loc)} {ml : List (Str × V)} {H : MH}
noncomputable def rules5 : List (Str × V) := [("after body", .glob 617), ("in frameset", .glob 638), ("after frameset", .glob 645), ("after after body", .glob 659), ("after after frameset", .glob 666)]
theorem w_end_rules (F : Facts M.K) (hf : H.c .rules = none) {Q : V → MH → Prop} (h : Q (.cell .rules) (H.add .rules (.dict rules5))) : CALL M (d + 1) cl ml H 673 [] Q := by
  refine CALL_go (at_end_rules F) b_end_rules rfl rfl rfl ?_
  walk_at "m.run"
  refine TE_dict (l := .rules) rfl rfl rfl (by simp) (by decide) ?_
  walk_at "m.run"
  refine ⟨by show (["after body", "in frameset", "after frameset", "after after body", "after after frameset"] : List Str).Nodup; decide +kernel, free_of hf (fun _ => nofun), ?_⟩
  walk_at "m.run"
  exact h
theorem w_stack_new (hpu : M.pu = false) (F : Facts M.K) (h1 : H.c .stack = none) (h2 : H.c .items = none) {Q : V → MH → Prop}
    (h : ∀ H', H'.c .stack = bh st0 .stack → H'.c .items = bh st0 .items → (∀ l, l ≠ .stack → l ≠ .items → H'.c l = H.c l) → H'.nx = H.nx → Q (.cell .stack) H') : CALL M (d + 2) cl ml H 294 [.cell .tree] Q := by
  refine CALL_cls F.cls.2.1.1 F.cls.2.1.2.1 F.cls.2.1.2.2 (free_of h1 fun _ => nofun) ?_
  refine CALL_go (at_OpenStack_init F) b_OpenStack_init rfl rfl rfl ?_
  walk_at "m.run"
  refine TE_list (l := .items) (fun _ => rfl) ?_
  walk_at "m.run"
  refine ⟨free_of (by walk_at "m.cell2") (fun _ => nofun), ?_⟩
  walk_at "m.run"
  refine h _ ?_ ?_ (fun l a b => ?_) rfl
  · (refine' Eq.trans (b := some _) ?h1 ?h2); (case h1 => walk_at "m.cell"); (case h2 => exact rfl)
  · (refine' Eq.trans (b := some _) ?h1 ?h2); (case h1 => walk_at "m.cell"); (case h2 => exact rfl)
  · (repeat' (first | exact rfl | assumption | (refine' put_other ?_ ?_) | (refine' add_other ?_ ?_)))
theorem w_fmt_new (hpu : M.pu = false) (F : Facts M.K) (h1 : H.c .fmt = none) (h2 : H.c .fitems = none) {Q : V → MH → Prop}
    (h : ∀ H', H'.c .fmt = bh st0 .fmt → H'.c .fitems = bh st0 .fitems → (∀ l, l ≠ .fmt → l ≠ .fitems → H'.c l = H.c l) → H'.nx = H.nx → Q (.cell .fmt) H') : CALL M (d + 2) cl ml H 133 [.cell .tree] Q := by
  refine CALL_cls F.cls.1.1 F.cls.1.2.1 F.cls.1.2.2 (free_of h1 fun _ => nofun) ?_
  refine CALL_go (at_Formatting_init F) b_Formatting_init rfl rfl rfl ?_
  walk_at "m.run"
  refine TE_list (l := .fitems) (fun _ => rfl) ?_
  walk_at "m.run"
  refine ⟨free_of (by walk_at "m.cell2") (fun _ => nofun), ?_⟩
  walk_at "m.run"
  refine h _ ?_ ?_ (fun l a b => ?_) rfl
  · (refine' Eq.trans (b := some _) ?h1 ?h2); (case h1 => walk_at "m.cell"); (case h2 => exact rfl)
  · (refine' Eq.trans (b := some _) ?h1 ?h2); (case h1 => walk_at "m.cell"); (case h2 => exact rfl)
  · (repeat' (first | exact rfl | assumption | (refine' put_other ?_ ?_) | (refine' add_other ?_ ?_)))
theorem w_builder (hpu : M.pu = false) (F : Facts M.K) (hr : H.c .rules = some (.dict rulesD)) (hf : ∀ l, l.isB = true → l ≠ .rules → H.c l = none) {Q : V → MH → Prop}
    (h : ∀ H', BH H' st0 → Keep Loc.isB H H' → Q (.cell .builder) H') : CALL M (d + 5) cl ml H 489 [.cell .rules] Q := by
  refine CALL_cls F.cls.2.2.2.1.1 F.cls.2.2.2.1.2.1 F.cls.2.2.2.1.2.2 (free_of (hf .builder rfl (by first | exact Loc.ne_tag rfl | (intro e; cases e))) fun _ => nofun) ?_
  refine CALL_go (at_Builder_init F) (b_Builder_init F) rfl rfl rfl ?_
  walk_at "m.run"
  refine w_tree hpu F (fun l hl => ?_) fun H1 hT1 hT2 hn1 => ?_
  · refine put_other (fun e => by subst e; cases hl) (add_other (fun e => by subst e; cases hl) (hf l (by cases l <;> first | rfl | (cases hl; done)) (fun e => by subst e; cases hl)))
  have hb1 : H1.c .builder = some (.inst 489 (setF [] "rules" (.cell .rules))) := (hT2 _ rfl).trans put_same
  have ho1 : ∀ l, l.isT = false → l ≠ .builder → H1.c l = H.c l := fun l a b => (hT2 l a).trans (put_other b (add_other b rfl))
  walk_at "m.run"
  refine w_stack_new hpu F (put_other (by first | exact Loc.ne_tag rfl | (intro e; cases e)) ((ho1 _ rfl (by first | exact Loc.ne_tag rfl | (intro e; cases e))).trans (hf _ rfl (by first | exact Loc.ne_tag rfl | (intro e; cases e))))) (put_other (by first | exact Loc.ne_tag rfl | (intro e; cases e)) ((ho1 _ rfl (by first | exact Loc.ne_tag rfl | (intro e; cases e))).trans (hf _ rfl (by first | exact Loc.ne_tag rfl | (intro e; cases e))))) fun H2 hs1 hs2 hs3 hn2 => ?_
  have hb2 : H2.c .builder = some (.inst 489 (setF (setF [] "rules" (.cell .rules)) "tree" (.cell .tree))) := (hs3 _ (by first | exact Loc.ne_tag rfl | (intro e; cases e)) (by first | exact Loc.ne_tag rfl | (intro e; cases e))).trans put_same
  have ho2 : ∀ l, l.isT = false → l ≠ .builder → l ≠ .stack → l ≠ .items → H2.c l = H.c l := fun l a b c e => (hs3 l c e).trans ((put_other b rfl).trans (ho1 l a b))
  walk_at "m.run"
  refine w_fmt_new hpu F (put_other (by first | exact Loc.ne_tag rfl | (intro e; cases e)) ((ho2 _ rfl (by first | exact Loc.ne_tag rfl | (intro e; cases e)) (by first | exact Loc.ne_tag rfl | (intro e; cases e)) (by first | exact Loc.ne_tag rfl | (intro e; cases e))).trans (hf _ rfl (by first | exact Loc.ne_tag rfl | (intro e; cases e))))) (put_other (by first | exact Loc.ne_tag rfl | (intro e; cases e)) ((ho2 _ rfl (by first | exact Loc.ne_tag rfl | (intro e; cases e)) (by first | exact Loc.ne_tag rfl | (intro e; cases e)) (by first | exact Loc.ne_tag rfl | (intro e; cases e))).trans (hf _ rfl (by first | exact Loc.ne_tag rfl | (intro e; cases e))))) fun H3 hm1 hm2 hm3 hn3 => ?_
  have hb3 : H3.c .builder = some (.inst 489 (setF (setF (setF [] "rules" (.cell .rules)) "tree" (.cell .tree)) "stack" (.cell .stack))) := (hm3 _ (by first | exact Loc.ne_tag rfl | (intro e; cases e)) (by first | exact Loc.ne_tag rfl | (intro e; cases e))).trans put_same
  have ho3 : ∀ l, l.isT = false → l ≠ .builder → l ≠ .stack → l ≠ .items → l ≠ .fmt → l ≠ .fitems → H3.c l = H.c l := fun l a b c e f g => (hm3 l f g).trans ((put_other b rfl).trans (ho2 l a b c e))
  have e1 : H3.c .modes = none := (ho3 _ rfl (by first | exact Loc.ne_tag rfl | (intro e; cases e)) (by first | exact Loc.ne_tag rfl | (intro e; cases e)) (by first | exact Loc.ne_tag rfl | (intro e; cases e)) (by first | exact Loc.ne_tag rfl | (intro e; cases e)) (by first | exact Loc.ne_tag rfl | (intro e; cases e))).trans (hf _ rfl (by first | exact Loc.ne_tag rfl | (intro e; cases e)))
  have e2 : H3.c .owners = none := (ho3 _ rfl (by first | exact Loc.ne_tag rfl | (intro e; cases e)) (by first | exact Loc.ne_tag rfl | (intro e; cases e)) (by first | exact Loc.ne_tag rfl | (intro e; cases e)) (by first | exact Loc.ne_tag rfl | (intro e; cases e)) (by first | exact Loc.ne_tag rfl | (intro e; cases e))).trans (hf _ rfl (by first | exact Loc.ne_tag rfl | (intro e; cases e)))
  have e3 : H3.c .errors = none := (ho3 _ rfl (by first | exact Loc.ne_tag rfl | (intro e; cases e)) (by first | exact Loc.ne_tag rfl | (intro e; cases e)) (by first | exact Loc.ne_tag rfl | (intro e; cases e)) (by first | exact Loc.ne_tag rfl | (intro e; cases e)) (by first | exact Loc.ne_tag rfl | (intro e; cases e))).trans (hf _ rfl (by first | exact Loc.ne_tag rfl | (intro e; cases e)))
  have e4 : H3.c .pending = none := (ho3 _ rfl (by first | exact Loc.ne_tag rfl | (intro e; cases e)) (by first | exact Loc.ne_tag rfl | (intro e; cases e)) (by first | exact Loc.ne_tag rfl | (intro e; cases e)) (by first | exact Loc.ne_tag rfl | (intro e; cases e)) (by first | exact Loc.ne_tag rfl | (intro e; cases e))).trans (hf _ rfl (by first | exact Loc.ne_tag rfl | (intro e; cases e)))
  have e5 : H3.c .rules = some (.dict rulesD) := (ho3 _ rfl (by first | exact Loc.ne_tag rfl | (intro e; cases e)) (by first | exact Loc.ne_tag rfl | (intro e; cases e)) (by first | exact Loc.ne_tag rfl | (intro e; cases e)) (by first | exact Loc.ne_tag rfl | (intro e; cases e)) (by first | exact Loc.ne_tag rfl | (intro e; cases e))).trans hr
  have e6 : H3.c .stack = bh st0 .stack := (hm3 _ (by first | exact Loc.ne_tag rfl | (intro e; cases e)) (by first | exact Loc.ne_tag rfl | (intro e; cases e))).trans ((put_other (by first | exact Loc.ne_tag rfl | (intro e; cases e)) rfl).trans hs1)
  have e7 : H3.c .items = bh st0 .items := (hm3 _ (by first | exact Loc.ne_tag rfl | (intro e; cases e)) (by first | exact Loc.ne_tag rfl | (intro e; cases e))).trans ((put_other (by first | exact Loc.ne_tag rfl | (intro e; cases e)) rfl).trans hs2)
  have e8 : ∀ l, l.isT = true → H3.c l = bh st0 l := fun l hl => (hm3 l (fun e => by subst e; cases hl) (fun e => by subst e; cases hl)).trans ((put_other (fun e => by subst e; cases hl) rfl).trans ((hs3 l (fun e => by subst e; cases hl) (fun e => by subst e; cases hl)).trans ((put_other (fun e => by subst e; cases hl) rfl).trans (hT1 l hl))))
  have hn : H3.nx = H.nx := hn3.trans (hn2.trans hn1)
  have ho4 : ∀ l, l.isB = false → H3.c l = H.c l := fun l hl => ho3 l (by cases l <;> first | rfl | (cases hl; done)) (fun e => by subst e; cases hl) (fun e => by subst e; cases hl) (fun e => by subst e; cases hl) (fun e => by subst e; cases hl) (fun e => by subst e; cases hl)
  clear hb1 hb2 hT1 hT2 ho1 ho2 ho3 hs1 hs2 hs3 hn1 hn2 hn3 hm3
  walk_at "m.run"
  refine TE_list (l := .modes) (fun _ => rfl) ?_
  walk_at "m.run"
  refine ⟨free_of (by walk_at "m.cell2") (fun _ => nofun), ?_⟩
  walk_at "m.run"
  refine TE_dict_nil (l := .owners) (free_of (by walk_at "m.cell2") fun _ => nofun) ?_
  walk_at "m.run"
  refine TE_list (l := .errors) (fun _ => rfl) ?_
  walk_at "m.run"
  refine ⟨free_of (by walk_at "m.cell2") (fun _ => nofun), ?_⟩
  walk_at "m.run"
  refine TE_list (l := .pending) (fun _ => rfl) ?_
  walk_at "m.run"
  refine ⟨free_of (by walk_at "m.cell2") (fun _ => nofun), ?_⟩
  walk_at "m.run"
  refine h _ (fun l hl => ?_) ⟨Nat.le_of_eq hn.symm, fun l hl _ => ?_⟩
  · by_cases ht : l.isT = true
    · rw [← e8 l ht]
      cases l <;> first | (cases ht; done) | (repeat' (first | exact rfl | (refine' put_other ?_ ?_) | (refine' add_other ?_ ?_) | exact Loc.ne_tag rfl | (intro e; cases e; done)))
    · cases l <;> first | (cases hl; done) | (exact absurd rfl ht) | (rw [← hm1]; (repeat' (first | exact rfl | (refine' put_other ?_ ?_) | (refine' add_other ?_ ?_) | exact Loc.ne_tag rfl | (intro e; cases e; done))); done) | (rw [← hm2]; (repeat' (first | exact rfl | (refine' put_other ?_ ?_) | (refine' add_other ?_ ?_) | exact Loc.ne_tag rfl | (intro e; cases e; done))); done) | (rw [← e6]; (repeat' (first | exact rfl | (refine' put_other ?_ ?_) | (refine' add_other ?_ ?_) | exact Loc.ne_tag rfl | (intro e; cases e; done))); done) | (rw [← e7]; (repeat' (first | exact rfl | (refine' put_other ?_ ?_) | (refine' add_other ?_ ?_) | exact Loc.ne_tag rfl | (intro e; cases e; done))); done) | ((refine' Eq.trans (b := some _) ?h1 ?h2); (case h1 => walk_at "m.cell"); (case h2 => exact rfl))
  · refine Eq.trans ?_ (ho4 l hl)
    cases l <;> first | (cases hl; done) | (repeat' (first | exact rfl | (refine' put_other ?_ ?_) | (refine' add_other ?_ ?_) | exact Loc.ne_tag rfl | (intro e; cases e; done)))
end
section
variable {M : Amb} {d : Nat} {sc : Scope} {cl : List (Str × Loc)} {ml : List (Str × V)} {H : MH}
structure ZList (M : Amb) (a : Addr) (vs : List Value) (ns : List Int) : Prop where
  ex : ∃ o n, (a, o) ∈ M.zs ∧ o.cls = .type "list" ∧ o.data = .seq vs.toArray n
  its : IntsAre vs ns
theorem zlist_of {a : Addr} {vs : List Value} {ns : List Int} (z : ZList M a vs ns) {A : Around} {base h₀ : Heap} {outer : List Env} {fenv env : Env} {L : Addr} {m mm : Str → Option Value} {s : Shared} {wd : WD}
    (c : CX M d A base h₀ outer fenv env L m mm cl ml s wd H) : s.heap.IsList a vs.toArray := by
  obtain ⟨o, n, h1, h2, h3⟩ := z.ex
  exact ⟨o, c.F.keep _ _ (c.Z _ h1), h2, n, h3⟩
theorem ints_get {vs : List Value} {ns : List Int} (h : IntsAre vs ns) : ∀ {i : Nat} {x : Int}, ns[i]? = some x → ∃ t, vs[i]? = some (.int x t) := by
  induction h with
  | nil => intro i x hx; simp at hx
  | cons v t r ih =>
    intro i x hx
    cases i with
    | zero => simp at hx; subst hx; exact ⟨t, rfl⟩
    | succ i => simp only [List.getElem?_cons_succ] at hx ⊢; exact ih hx
theorem B_len_z {a : Addr} {vs : List Value} {ns : List Int} (z : ZList M a vs ns) {Q : V → MH → Prop} (hz : ns.length ≤ 1000) (h : Q (.int ns.length) H) : CALB M d cl ml H (.builtin "len") [.glob a] Q := by
  intro A base h₀ outer fenv env L m mm s wd Qm xs' c r k
  obtain ⟨x', rfl, r1⟩ := one_of r
  cases r1
  have hl := z.its.length
  refine len_list (zlist_of z c) (by rw [List.size_toArray, hl]; omega) ?_
  rw [List.size_toArray, hl]
  exact k _ _ H wd s.heap _ h (Ext.refl _) (.int _ _) (c.tok _)
theorem OP_item_z {value slice : Expr} {a : Addr} {vs : List Value} {ns : List Int} (z : ZList M a vs ns) {i : Int} {x : Int} {Q : V → MH → Prop} (hlo : 0 ≤ i) (hhi : i < 2 ^ 63) (hx : ns[i.toNat]? = some x)
    (hs : ∀ a u, subscripted slice false (.ref a) (.int i u) = operate [.ref a, .int i u] (getItem (.ref a) (.int i u))) (h : Q (.int x) H) : OP2 VR M d cl ml H (subscriptTail value slice) (.glob a) (.int i) Q := by
  intro A base h₀ outer fenv env L m mm s wd Qm x' y' c r1 r2 k
  cases r1; cases r2
  obtain ⟨t, hv⟩ := ints_get z.its hx
  have hl := zlist_of z c
  exact tail_any hl.typeIs slot_list_getitem.lookup (wpAny_getItem_list hl hlo hhi (by simpa using hv) (k _ _ H wd s.heap s.toks h (Ext.refl _) (.int _ _) (c.tok _))) (hs _ _)
theorem T1_forsplit' {x : Str} {xp apos cp pos : Pos} {o : Expr} {name : Str} {body : List Stmt} {pl : Env → Sem Bool} {Q : FV → List (Str × V) → MH → Prop}
    (he : ∀ env, eval (.Call (.Attribute o name apos) [] [] cp) env = (do
      let ov ← eval o env
      standAt apos.atName
      let (f, first) ← holding [ov] (getMethod ov name (pl env))
      callWith cp f first (backTo cp (starEach [] env)) []))
    (slot : Slot "str" name "str.split") (pa : PlainAttrs "str") (hty : typeOf (.builtin "str.split") = pure (.type "method_descriptor"))
    (hk : sc.names.lookup x = some .local) (hse : ∀ env v, foldedSetIterable (.Call (.Attribute o name apos) [] [] cp) env v = pure v) (ys : List Str) (G : Nat → MH → Prop) (fr : List (Str × V))
    (hq : ∀ ml ml' H, SubL ml ml' → Q .next ml H → Q .next ml' H)
    (h : TE M d sc cl ml H o fun v H1 => ∃ w, v = .str w ∧ w.length ≤ 1000 ∧ Txt.words w = ys ∧ G 0 H1 ∧ SubL fr ml)
    (step : ∀ i H₁, i < ys.length → G i H₁ → TS M d sc cl ((x, .str (ys.getD i "")) :: fr) H₁ body (loopS Q fun ml' H' => G (i + 1) H' ∧ SubL fr ml')) (hend : ∀ H', G ys.length H' → Q .next fr H') :
    T1 M d sc cl ml H (.For (.Name x xp) (.Call (.Attribute o name apos) [] [] cp) body [] pos) Q := by
  refine T1_forsplit he slot pa hty hk hse ys (fun i ml H => G i H ∧ SubL fr ml) (TG.mono h fun v H1 ⟨w, e1, e2, e3, g, s⟩ => ⟨w, e1, e2, e3, ⟨g, s⟩, ?_, ?_⟩)
  · rintro i ml₁ H₁ hi ⟨g, s⟩
    refine TX.sub' (fun y v h => ?_) (step i H₁ hi g)
    rw [List.lookup_cons] at h ⊢
    split
    · rename_i e; rw [e] at h; exact h
    · rename_i e; rw [e] at h; exact s.look _ _ h
  · rintro ml' H' ⟨g, s⟩
    exact hq _ _ _ s (hend H' g)
end
theorem kidV_snoc {ns : List Nd} {nd : Nd} {j : Nat} (hj : j < ns.length) : kidV (ns ++ [nd]) j = kidV ns j := by
  unfold kidV; rw [List.getElem?_append_left hj]
theorem LK.ctx {k : Nat} {H : MH} {σ : St} {nd : Nd} (L : LK k H { σ with ctx := 1000 }) (kd : KidOK σ) (hz : σ.nodes.length ≤ 900) (f : Int) : LK k H { σ with nodes := σ.nodes ++ [nd], ctx := σ.nodes.length, form := f } := by
  have ie : ∀ i, isEl { σ with nodes := σ.nodes ++ [nd], ctx := σ.nodes.length, form := f } i = isEl { σ with ctx := 1000 } i := fun i => by
    unfold isEl
    show (match (σ.nodes ++ [nd])[i]? with | some n => if (_ ∧ (i : Int) ≠ (σ.nodes.length : Int)) then _ else _ | none => _) = (match σ.nodes[i]? with | some n => if (_ ∧ (i : Int) ≠ 1000) then _ else _ | none => _)
    rw [List.getElem?_append]
    by_cases h : i < σ.nodes.length
    · rw [if_pos h, List.getElem?_eq_getElem h]
      have h1 : (i : Int) ≠ (σ.nodes.length : Int) := by omega
      have h2 : (i : Int) ≠ 1000 := by omega
      simp only [h1, h2, ne_eq, not_false_eq_true, and_true]
    · rw [if_neg h, List.getElem?_eq_none (l := σ.nodes) (by omega)]
      by_cases e : i = σ.nodes.length
      · subst e; simp
      · rw [List.getElem?_eq_none (l := [nd]) (by show 1 ≤ _; omega)]
  refine ⟨L.lt, L.pa, fun l hl => ?_⟩
  cases l
  case state =>
    rw [L.ls _ hl]
    have h1 : ((σ.nodes.length : Int) != -1) = true := ne_m1 _
    have h2 : ((1000 : Int) != -1) = true := by decide
    show some (Cell.dict [_, _, _, _, _, ("is_part", .bool ((1000 : Int) != -1))]) = some (Cell.dict [_, _, _, _, _, ("is_part", .bool ((σ.nodes.length : Int) != -1))])
    rw [h1, h2]
  case notes => exact L.ls _ hl
  case lnode i => rw [L.ls _ hl]; show Option.map _ _ = Option.map _ _; rw [ie]
  case latt i => rw [L.ls _ hl]; show Option.map _ _ = Option.map _ _; rw [ie]
  case lkid i =>
    rw [L.ls _ hl]; show Option.map _ _ = Option.map _ _; rw [ie]
    cases g : isEl { σ with ctx := 1000 } i with
    | none => rfl
    | some z =>
      simp only [Option.map_some]
      congr 2
      exact List.map_congr_left fun j hj => (kidV_snoc (kd i z (isEl_get g).1 j hj)).symm
  all_goals (cases hl; done)
theorem WF.ctx' {N E : Nat} {σ : St} (w : WF N E σ) (hc : σ.ctx = -1) {c : Str} (hs : PyData.strOk c = true) (f : Int) : WF (N + 1) E { σ with nodes := σ.nodes ++ [⟨"element", "html", c, [], "", -1, []⟩], ctx := σ.nodes.length, form := f } := by
  have up : ∀ {i : Nat} {x : Nd}, σ.nodes[i]? = some x → (σ.nodes ++ [(⟨"element", "html", c, [], "", -1, []⟩ : Nd)])[i]? = some x := fun {i x} h => by rw [List.getElem?_append_left (lt_of_get h)]; exact h
  refine { er := w.er, md := w.md, zn := ?_, zs := Nat.le_succ_of_le w.zs, ze := w.ze, nd := fun i x hx => ?_, doc := ?_, stk := fun i hi => ?_, ctx := .inr ⟨σ.nodes.length, ⟨"element", "html", c, [], "", -1, []⟩, rfl, ?_, rfl, rfl⟩ }
  · have := w.zn; show (σ.nodes ++ [_]).length ≤ _; simp; omega
  · have hx : (σ.nodes ++ [_])[i]? = some x := hx
    rw [List.getElem?_append] at hx
    split at hx
    · have o := w.nd i x hx
      refine { p1 := o.p1, p2 := o.p2, kl := Nat.le_succ_of_le o.kl, tl := Nat.le_succ_of_le o.tl, so := o.so, sn := o.sn, ao := o.ao, nod := o.nod, kid := fun j hj => ?_ }
      obtain ⟨z, hz, z1, z2, z3⟩ := o.kid j hj
      exact ⟨z, up hz, z1, by have := lt_of_get hz; show (j : Int) ≠ (σ.nodes.length : Int); omega, z3⟩
    · have hi : i - σ.nodes.length = 0 := by
        rcases Nat.eq_zero_or_pos (i - σ.nodes.length) with q | q
        · exact q
        · rw [List.getElem?_eq_none (by simp; omega)] at hx; cases hx
      rw [hi] at hx
      cases hx
      exact { p1 := by show (-1 : Int) ≤ -1; omega, p2 := by show (-1 : Int) < _; omega, kl := Nat.zero_le _, tl := Nat.zero_le _, so := strOk_nil, sn := hs, ao := .inl rfl, nod := List.nodup_nil, kid := fun j hj => nomatch hj }
  · obtain ⟨x, hx, q⟩ := w.doc
    exact ⟨x, up hx, q⟩
  · obtain ⟨x, hx, q1, q2, q3⟩ := w.stk i hi
    exact ⟨x, up hx, q1, q2, by have := lt_of_get hx; show (i : Int) ≠ (σ.nodes.length : Int); omega⟩
  · show (σ.nodes ++ [_])[σ.nodes.length]? = _; simp
theorem WF.form {N E : Nat} {σ : St} (w : WF N E σ) (m : Int) : WF N E { σ with form := m } :=
  { er := w.er, md := w.md, zn := w.zn, zs := w.zs, ze := w.ze, nd := fun i x h => (w.nd i x h).of rfl rfl, doc := w.doc, stk := w.stk, ctx := w.ctx }
structure Place (w c m : Str) (ys : List Str) : Prop where
  ws : Txt.words w = ys
  wl : w.length ≤ 1000
  yl : ys.length ≤ 3
  y0 : ys.getD 0 "" = "html"
  y1 : 0 < ys.length
  ok : ∀ y ∈ ys, PyData.strOk y = true ∧ y ≠ "template"
  md : m ∈ modesL
  cx : c = "" ∨ (c ≠ "" ∧ c ≠ "template" ∧ PyData.strOk c = true)
noncomputable def pl3 (a b c : Str) : V := .tup [.str a, .str b, .str c]
noncomputable def placesV : List V := [pl3 "html body" "" "after body", pl3 "html frameset" "" "in frameset", pl3 "html" "frameset" "in frameset", pl3 "html body" "html" "after body", pl3 "html body div" "" "after body", pl3 "html frameset frameset" "" "in frameset", pl3 "html" "" "after frameset", pl3 "html body" "" "after after body", pl3 "html" "" "after after frameset"]
theorem place_of (q : Nat) (h : q < 9) : ∃ w c m ys, placesV[q]? = some (pl3 w c m) ∧ Place w c m ys := by
  match q, h with
  | 0, _ => exact ⟨_, _, _, ["html", "body"], rfl, by decide +kernel, by decide +kernel, by decide, rfl, by decide, by decide +kernel, by decide +kernel, .inl rfl⟩
  | 1, _ => exact ⟨_, _, _, ["html", "frameset"], rfl, by decide +kernel, by decide +kernel, by decide, rfl, by decide, by decide +kernel, by decide +kernel, .inl rfl⟩
  | 2, _ => exact ⟨_, _, _, ["html"], rfl, by decide +kernel, by decide +kernel, by decide, rfl, by decide, by decide +kernel, by decide +kernel, .inr (by decide +kernel)⟩
  | 3, _ => exact ⟨_, _, _, ["html", "body"], rfl, by decide +kernel, by decide +kernel, by decide, rfl, by decide, by decide +kernel, by decide +kernel, .inr (by decide +kernel)⟩
  | 4, _ => exact ⟨_, _, _, ["html", "body", "div"], rfl, by decide +kernel, by decide +kernel, by decide, rfl, by decide, by decide +kernel, by decide +kernel, .inl rfl⟩
  | 5, _ => exact ⟨_, _, _, ["html", "frameset", "frameset"], rfl, by decide +kernel, by decide +kernel, by decide, rfl, by decide, by decide +kernel, by decide +kernel, .inl rfl⟩
  | 6, _ => exact ⟨_, _, _, ["html"], rfl, by decide +kernel, by decide +kernel, by decide, rfl, by decide, by decide +kernel, by decide +kernel, .inl rfl⟩
  | 7, _ => exact ⟨_, _, _, ["html", "body"], rfl, by decide +kernel, by decide +kernel, by decide, rfl, by decide, by decide +kernel, by decide +kernel, .inl rfl⟩
  | 8, _ => exact ⟨_, _, _, ["html"], rfl, by decide +kernel, by decide +kernel, by decide, rfl, by decide, by decide +kernel, by decide +kernel, .inl rfl⟩
noncomputable def Loc.isS : Loc → Bool
  | .cvar => true
  | l => l.isB || l.isL
theorem b_s {l : Loc} (h : l.isB = true) : l.isS = true := by cases l <;> first | rfl | (cases h; done)
theorem l_s {l : Loc} (h : l.isL = true) : l.isS = true := by cases l <;> first | rfl | (cases h; done)
theorem s_b {l : Loc} (h : l.isS = false) : l.isB = false := by cases l <;> first | rfl | (cases h; done)
theorem Keep.toS {H H' : MH} {p : Loc → Bool} (k : Keep p H H') (h : ∀ l, p l = true → l.isS = true) : Keep Loc.isS H H' :=
  ⟨k.1, fun l hl ht => k.2 l (by cases q : p l with | false => rfl | true => rw [h l q] at hl; cases hl) ht⟩
noncomputable def CV (H : MH) : Prop := H.c .cvar = some (.var (some (.cell .builder)))
theorem seq9 : ∀ q : Nat, q < 9 → seqIndex? (q : Int) 9 = some q := by decide
theorem nth_of_drop {st : Stmt} {rest : List Stmt} : ∀ {n : Nat} {b : List Stmt}, b.drop n = st :: rest → nthS b n = st ∧ b.drop (n + 1) = rest
  | 0, [], h => by cases h
  | 0, _ :: _, h => by cases h; exact ⟨rfl, rfl⟩
  | n + 1, [], h => by cases h
  | n + 1, _ :: b, h => nth_of_drop (n := n) (b := b) h
theorem T1_at {M : Amb} {d : Nat} {cl : List (Str × Loc)} {ml : List (Str × V)} {H : MH} {scp : Scope} {b : List Stmt} {n : Nat} {st : Stmt} {rest : List Stmt} {k : ScopeKind} {nms : List (Str × NameKind)} {g co : Bool} {mo} {Q : FV → List (Str × V) → MH → Prop} (hbd : b.drop n = st :: rest) (hsc : scp = { kind := k, names := nms, isGenerator := g, isCoroutine := co, more := mo })
    (h : T1 M d { kind := k, names := nms, isGenerator := g, isCoroutine := co, more := mo } cl ml H st (thenS M d { kind := k, names := nms, isGenerator := g, isCoroutine := co, more := mo } cl rest Q)) : T1 M d scp cl ml H (nthS b n) (thenS M d scp cl (b.drop (n + 1)) Q) := by
  obtain ⟨h1, h2⟩ := nth_of_drop hbd
  rw [h1, h2, hsc]; exact h
section
variable {M : Amb} {d : Nat} {cl : List (Str × Loc)} {ml : List (Str × V)} {H : MH}
theorem w_law_places (F : Facts M.K) {Q : V → MH → Prop} (h : Q (.tup placesV) H) : CALL M (d + 1) cl ml H 680 [] Q := by
  refine CALL_go (at_law_places F) b_law_places rfl rfl rfl ?_
  walk_at "m.run"
  exact h
theorem scene_a (hpu : M.pu = false) (F : Facts M.K) {dg : Loc} {ds : List Int} (hdg : H.c dg = some (.list (ds.map .int))) (hds : ds.length = 12) (hdS : dg.isS = false) (hdt : ∀ j, dg = .tmp j → j < H.nx)
    (hf : ∀ l, l.isS = true → l ≠ .cvar → H.c l = none) (hcv : H.c .cvar = some (.var none)) {Q : FV → List (Str × V) → MH → Prop}
    (h : ∀ H' k w c m ys, Place w c m ys → BH H' st0 → LK k H' { st0 with mode := m, ctx := if c = "" then -1 else 1000 } → CV H' → Keep Loc.isS H H' →
      T1 M (d + 6) (sco (tS 67)) [("builder", .cvar)] [("state", .cell .state), ("rules", .cell .rules), ("mode", .str m), ("context", .str c), ("words", .str w), ("places", .tup placesV), ("digits", .cell dg)] H' (nthS (bd (tS 67)) 7) (thenS M (d + 6) (sco (tS 67)) [("builder", .cvar)] ((bd (tS 67)).drop 8) Q)) :
    TS M (d + 6) (sco (tS 67)) [("builder", .cvar)] [("digits", .cell dg)] H (bd (tS 67)) Q := by
  refine TS_at rfl rfl ?_
  walk_at "m.run"
  refine w_law_places F ?_
  walk_at "m.run"
  refine T1_unpack3 (fun _ => rfl) (fun _ => rfl) rfl rfl rfl ?_
  walk_at "m.run"
  obtain ⟨d0, hd0⟩ : ∃ d0, ds[0]? = some d0 := ⟨_, List.getElem?_eq_getElem (by omega)⟩
  refine OP_item_list (x := .int d0) hdg (by decide) (by decide) (by show (ds.map V.int)[0]? = _; rw [List.getElem?_map, hd0]; rfl) (fun _ _ => rfl) ?_
  walk_at "m.run"
  refine OP_mod (by decide) ?_
  obtain ⟨q, hq1, hq2⟩ : ∃ q : Nat, d0.fmod 9 = q ∧ q < 9 := by
    have h1 : 0 ≤ d0.fmod 9 := Int.fmod_nonneg_of_pos d0 (by decide)
    have h2 : d0.fmod 9 < 9 := Int.fmod_lt_of_pos d0 (by decide)
    exact ⟨(d0.fmod 9).toNat, (Int.toNat_of_nonneg h1).symm, (Int.toNat_lt h1).mpr h2⟩
  obtain ⟨w, c, m, ys, hw, P⟩ := place_of q hq2
  refine OP_item_tup (j := q) (x := pl3 w c m) (by show _ ≤ d0.fmod 9; omega) (by show d0.fmod 9 < _; omega) (by show seqIndex? (d0.fmod 9) 9 = _; rw [hq1]; exact seq9 q hq2) hw (fun _ _ => rfl) ?_
  refine ⟨_, _, _, rfl, ?_⟩
  walk_at "m.run"
  refine w_end_rules F (hf _ rfl (by first | exact Loc.ne_tag rfl | (intro e; cases e))) ?_
  walk_at "m.run"
  refine ⟨_, Stored.dict (by walk_at "m.cell") (Nat.le_of_ble_eq_true rfl), ?_⟩
  walk_at "m.run"
  refine ⟨_, Stored.dict (by walk_at "m.cell") (Nat.le_of_ble_eq_true rfl), ?_⟩
  walk_at "m.run"
  refine T1_assign_cell (l := .cvar) hpu (fun _ => rfl) rfl rfl ?_
  walk_at "m.run"
  refine w_builder hpu F (put_same.trans rfl) (fun l hl hn => ?_) fun H1 hB1 k1 => ?_
  · exact put_other hn (put_other hn (add_other hn (hf l (b_s hl) (fun e => by subst e; cases hl))))
  have hot : ∀ l, l.isB = false → (∀ j, l = .tmp j → j < H.nx) → H1.c l = H.c l := fun l hl ht => (k1.2 l hl ht).trans (put_other (fun e => by subst e; cases hl) (put_other (fun e => by subst e; cases hl) (add_other (fun e => by subst e; cases hl) rfl)))
  have hnx : H.nx ≤ H1.nx := k1.1
  refine ⟨⟨_, (hot .cvar rfl nofun).trans hcv⟩, ?_⟩
  have hB2 : BH (H1.put .cvar (.var (some (.cell .builder)))) st0 := fun l hl => (put_other (fun e => by subst e; cases hl) rfl).trans (hB1 l hl)
  have hcv2 : CV (H1.put .cvar (.var (some (.cell .builder)))) := put_same
  have hL2 : ∀ l, l.isL = true → (H1.put .cvar (.var (some (.cell .builder)))).c l = none := fun l hl => (put_other (fun e => by subst e; cases hl) rfl).trans ((hot l (l_not_b l hl) (fun j e => by subst e; cases hl)).trans (hf l (l_s hl) (fun e => by subst e; cases hl)))
  have k2 : Keep Loc.isS H (H1.put .cvar (.var (some (.cell .builder)))) := ⟨hnx, fun l hl ht => (put_other (fun e => by subst e; cases hl) rfl).trans (hot l (s_b hl) ht)⟩
  revert hB2 hcv2 hL2 k2
  generalize H1.put .cvar (.var (some (.cell .builder))) = H2
  intro hB2 hcv2 hL2 k2
  have f1 := hL2 .state rfl
  have f2 := hL2 .notes rfl
  have f3 := hL2 (.lnode 0) rfl
  have f4 := hL2 (.latt 0) rfl
  have f5 := hL2 (.lkid 0) rfl
  walk_at "m.run"
  refine TE_dict (l := .state) rfl rfl rfl (by simp) (by decide) ?_
  walk_at "m.run"
  refine TE_list (l := .lnode 0) (fun _ => rfl) ?_
  walk_at "m.run"
  refine TE_list (l := .latt 0) (fun _ => rfl) ?_
  walk_at "m.run"
  refine ⟨free_of (by walk_at "m.cell2") (fun _ => nofun), ?_⟩
  walk_at "m.run"
  refine TE_list (l := .lkid 0) (fun _ => rfl) ?_
  walk_at "m.run"
  refine ⟨free_of (by walk_at "m.cell2") (fun _ => nofun), ?_⟩
  walk_at "m.run"
  refine ⟨free_of (by walk_at "m.cell2") (fun _ => nofun), ?_⟩
  walk_at "m.run"
  refine TE_list (l := .tmp H2.nx) (fun _ => rfl) ?_
  walk_at "m.run"
  refine ⟨by walk_at "m.free", ?_⟩
  walk_at "m.run"
  refine TE_list (l := .notes) (fun _ => rfl) ?_
  walk_at "m.run"
  refine ⟨free_of (by walk_at "m.cell2") (fun _ => nofun), ?_⟩
  walk_at "m.run"
  refine ⟨by show (["page", "path", "mode", "notes", "is_done", "is_part"] : List Str).Nodup; decide +kernel, free_of (by walk_at "m.cell2") (fun _ => nofun), ?_⟩
  walk_at "m.run"
  refine h _ H2.nx w c m ys P (fun l hl => ?_) ⟨?_, ?_, fun l hl => ?_⟩ ?_ ?_
  · rw [← hB2 l hl]
    (repeat' (first | exact rfl | (refine' add_other ?_ ?_) | (intro e; subst e; cases hl; done)))
  · exact lt_bump _ _
  · (repeat' (first | exact add_same | (refine' add_other ?_ ?_) | exact Loc.ne_tag rfl | (intro e; cases e; done)))
  · have big : ∀ i : Nat, i ≠ 0 → isEl { st0 with mode := m, ctx := if c = "" then -1 else 1000 } i = none := fun i hi => by
      unfold isEl
      rw [show ({ st0 with mode := m, ctx := if c = "" then -1 else 1000 } : St).nodes[i]? = none from List.getElem?_eq_none (by show 1 ≤ i; omega)]
    have zero : isEl { st0 with mode := m, ctx := if c = "" then -1 else 1000 } 0 = some ⟨"document", "", "", [], "", -1, []⟩ := isEl_of rfl (.inr rfl) (by show ((0 : Nat) : Int) ≠ if c = "" then -1 else 1000; split <;> decide)
    cases l
    case state =>
      refine' Eq.trans (b := some _) ?h1 ?h2
      case h1 => exact add_same
      case h2 =>
        have hb : (c != "") = ((if c = "" then (-1 : Int) else 1000) != -1) := by
          by_cases e : c = ""
          · rw [if_pos e, e]; decide +kernel
          · rw [if_neg e]; simp [e]
        show some (Cell.dict [_, _, _, _, _, ("is_part", .bool (c != ""))]) = some (Cell.dict [_, _, _, _, _, ("is_part", .bool ((if c = "" then (-1 : Int) else 1000) != -1))])
        rw [hb]
        rfl
    case notes => (repeat' (first | exact add_same | (refine' add_other ?_ ?_) | exact Loc.ne_tag rfl | (intro e; cases e; done)))
    case lnode i =>
      by_cases e : i = 0
      · subst e
        show _ = Option.map _ _
        rw [zero]
        (repeat' (first | exact add_same | (refine' add_other ?_ ?_) | exact Loc.ne_tag rfl | (intro e; cases e; done)))
      · have e' : Loc.lnode i ≠ Loc.lnode 0 := fun z => e (Loc.lnode.inj z)
        show _ = Option.map _ _
        rw [big i e]
        (repeat' (first | exact hL2 _ rfl | (refine' add_other ?_ ?_) | exact e' | exact Loc.ne_tag rfl | (intro e; cases e; done)))
    case latt i =>
      by_cases e : i = 0
      · subst e
        show _ = Option.map _ _
        rw [zero]
        (repeat' (first | exact add_same | (refine' add_other ?_ ?_) | exact Loc.ne_tag rfl | (intro e; cases e; done)))
      · have e' : Loc.latt i ≠ Loc.latt 0 := fun z => e (Loc.latt.inj z)
        show _ = Option.map _ _
        rw [big i e]
        (repeat' (first | exact hL2 _ rfl | (refine' add_other ?_ ?_) | exact e' | exact Loc.ne_tag rfl | (intro e; cases e; done)))
    case lkid i =>
      by_cases e : i = 0
      · subst e
        show _ = Option.map _ _
        rw [zero]
        (repeat' (first | exact add_same | (refine' add_other ?_ ?_) | exact Loc.ne_tag rfl | (intro e; cases e; done)))
      · have e' : Loc.lkid i ≠ Loc.lkid 0 := fun z => e (Loc.lkid.inj z)
        show _ = Option.map _ _
        rw [big i e]
        (repeat' (first | exact hL2 _ rfl | (refine' add_other ?_ ?_) | exact e' | exact Loc.ne_tag rfl | (intro e; cases e; done)))
    all_goals (cases hl; done)
  · exact (add_other (by first | exact Loc.ne_tag rfl | (intro e; cases e)) (add_other (by first | exact Loc.ne_tag rfl | (intro e; cases e)) (add_other (by first | exact Loc.ne_tag rfl | (intro e; cases e)) (add_other (by first | exact Loc.ne_tag rfl | (intro e; cases e)) (add_other (by first | exact Loc.ne_tag rfl | (intro e; cases e)) (add_other (by first | exact Loc.ne_tag rfl | (intro e; cases e)) hcv2))))))
  · refine ⟨Nat.le_trans k2.1 (Nat.le_max_left _ _), fun l hl ht => Eq.trans ?_ (k2.2 l hl ht)⟩
    have k3 := k2.1
    refine add_other (fun e => by subst e; cases hl) (add_other (fun e => by subst e; cases hl) (add_other (fun e => ?_) (add_other (fun e => by subst e; cases hl) (add_other (fun e => by subst e; cases hl) (add_other (fun e => by subst e; cases hl) rfl)))))
    have := ht _ e
    omega
end
theorem LK.keep {p : Loc → Bool} {H H' : MH} {k : Nat} {σ : St} (L : LK k H σ) (kk : Keep p H H') (hp : ∀ l, l.isL = true → p l = false) (ht : ∀ i, p (.tmp i) = false) : LK k H' σ :=
  ⟨Nat.lt_of_lt_of_le L.lt kk.1, (kk.2 _ (ht k) fun j e => by cases e; exact L.lt).trans L.pa, fun l hl => (kk.2 l (hp l hl) fun j e => by subst e; cases hl).trans (L.ls l hl)⟩
theorem LK.form {k : Nat} {H : MH} {σ : St} (L : LK k H σ) (b : Int) : LK k H { σ with form := b } := ⟨L.lt, L.pa, fun l hl => (L.ls l hl).trans rfl⟩
theorem LK.keepB {H H' : MH} {k : Nat} {σ : St} (L : LK k H σ) (kk : Keep Loc.isB H H') : LK k H' σ := L.keep kk l_not_b fun _ => rfl
theorem BH.keepL {H H' : MH} {σ : St} (h : BH H σ) (kk : Keep Loc.isL H H') : BH H' σ := h.keep kk b_not_l
theorem CV.keepB {H H' : MH} (h : CV H) (kk : Keep Loc.isB H H') : CV H' := (kk.2 .cvar rfl nofun).trans h
theorem CV.keepL {H H' : MH} (h : CV H) (kk : Keep Loc.isL H H') : CV H' := (kk.2 .cvar rfl nofun).trans h
structure Beg (H H' : MH) (m c : Str) (i k : Nat) (τ : St) : Prop where
  B : BH H' { τ with mode := "initial" }
  L : LK k H' { τ with ctx := if c = "" then -1 else 1000 }
  C : CV H'
  K : Keep Loc.isS H H'
  W : WF (5 + i) 0 τ
  m : τ.mode = m
  c : τ.ctx = -1
  d : τ.done = false
  r0 : i = 0 → τ.stack = []
  r1 : 0 < i → RootS τ
section
variable {M : Amb} {d : Nat} {cl : List (Str × Loc)} {ml : List (Str × V)} {H : MH}
theorem scene_b (hpu : M.pu = false) (F : Facts M.K) {dg : Loc} {w c m : Str} {ys : List Str} (P : Place w c m ys) {H : MH} {k : Nat} (hB : BH H st0) (hL : LK k H { st0 with mode := m, ctx := if c = "" then -1 else 1000 }) (hC : CV H) {Q : FV → List (Str × V) → MH → Prop}
    (h : ∀ H' k' σ, BH H' σ → LK k' H' σ → CV H' → Keep Loc.isS H H' → WF 9 0 σ → RootS σ → σ.done = false →
      T1 M (d + 6) (sco (tS 67)) [("builder", .cvar)] [("state", .cell .state), ("mode", .str m), ("context", .str c), ("digits", .cell dg)] H' (nthS (bd (tS 67)) 11) (thenS M (d + 6) (sco (tS 67)) [("builder", .cvar)] ((bd (tS 67)).drop 12) Q)) :
    T1 M (d + 6) (sco (tS 67)) [("builder", .cvar)] [("state", .cell .state), ("rules", .cell .rules), ("mode", .str m), ("context", .str c), ("words", .str w), ("places", .tup placesV), ("digits", .cell dg)] H (nthS (bd (tS 67)) 7) (thenS M (d + 6) (sco (tS 67)) [("builder", .cvar)] ((bd (tS 67)).drop 8) Q) := by
  refine T1_at rfl rfl ?_
  refine' T1_forsplit' (fun _ => rfl) PySem.F.slot_str_split PySem.F.plainAttrs_str PySem.F.type_str_split rfl (fun _ _ => rfl) ys (fun i H' => ∃ k τ, Beg H H' m c i k τ) [("state", .cell .state), ("mode", .str m), ("context", .str c), ("digits", .cell dg)] (fun _ _ _ s h => TX.sub s h) ?hh ?step ?hend
  case hh =>
    walk_at "m.run"
    refine ⟨P.wl, P.ws, ⟨k, { st0 with mode := m }, ?_⟩, ⟨rfl, rfl, rfl, rfl, trivial⟩⟩
    refine ⟨hB, hL, hC, Keep.refl _, ?_, rfl, rfl, rfl, fun _ => rfl, fun h => absurd h (by decide)⟩
    refine { er := fun v hv => (nomatch hv), md := P.md, zn := by show 1 ≤ _; omega, zs := Nat.zero_le _, ze := Nat.zero_le _, nd := fun i x hx => ?_, doc := ⟨_, rfl, rfl, rfl, rfl⟩, stk := fun i hi => (nomatch hi), ctx := .inl rfl }
    cases i with
    | zero =>
      cases hx
      exact { p1 := by show (-1 : Int) ≤ -1; omega, p2 := by show (-1 : Int) < _; omega, kl := Nat.zero_le _, tl := Nat.zero_le _, so := strOk_nil, sn := strOk_nil, ao := .inl rfl, nod := List.nodup_nil, kid := fun j hj => (nomatch hj) }
    | succ i => cases hx
  case step =>
    rintro i H1 hi ⟨k1, τ, b⟩
    have hyl := P.yl
    have hcv : H1.c .cvar = some (.var (some (.cell .builder))) := b.C
    have hW := b.W
    have z1 := hW.zn
    have z2 := hW.zs
    obtain ⟨x, hx, hxl⟩ := hW.cur
    have hy : PyData.strOk (ys.getD i "") = true ∧ ys.getD i "" ≠ "template" := by
      rw [List.getD_eq_getElem?_getD, List.getElem?_eq_getElem hi]
      exact P.ok _ (List.getElem_mem hi)
    revert hy
    have hy0 : i = 0 → ys.getD i "" = "html" := fun e => by rw [e]; exact P.y0
    revert hy0
    generalize ys.getD i "" = y
    intro hy0 hy
    walk_at "m.run"
    refine w_insert_element2 (σ := { τ with mode := "initial" }) hpu F b.B (by show τ.nodes.length ≤ 880; omega) (by show τ.stack.length ≤ 890; omega) hW.par hx (by omega) hy.2 fun H2 hB2 k2 => ?_
    walk_at "m.run"
    have hxe : isEl { τ with ctx := if c = "" then -1 else 1000 } (curP τ.stack) = some x := by
      have hlt := lt_of_get hx
      refine isEl_of hx ?_ ?_
      · rcases List.eq_nil_or_concat τ.stack with e | ⟨l, n, e⟩
        · have hx' := hx
          rw [e] at hx'
          obtain ⟨z, hz, hzk, _⟩ := hW.doc
          have hx' : τ.nodes[0]? = some x := hx'
          rw [hz] at hx'; cases hx'
          exact .inr hzk
        · obtain ⟨z, hz, _, hzk, _⟩ := hW.cur' (by rw [e]; simp)
          rw [hx] at hz; cases hz
          exact .inl hzk
      · show ((curP τ.stack : Nat) : Int) ≠ if c = "" then -1 else 1000
        split <;> omega
    refine w_law_grow0 (N := 5 + i) (σ := { τ with ctx := if c = "" then -1 else 1000 }) (keeps := true) (attrs := []) hpu F z2 hW.kd (by show (τ.nodes.length : Int) ≠ if c = "" then -1 else 1000; split <;> omega) (by omega) (b.L.keepB k2) hxe hxl (Nat.zero_le _) fun H3 k3 hL3 kk3 => ?_
    walk_at "m.run"
    refine ⟨⟨k3, growN τ y [], ?_⟩, ⟨rfl, rfl, rfl, rfl, trivial⟩⟩
    refine ⟨hB2.keepL kk3, hL3, (b.C.keepB k2).keepL kk3, (b.K.trans (k2.toS fun _ => b_s)).trans (kk3.toS fun _ => l_s), hW.grow hy.1 (.inl rfl), b.m, b.c, b.d, fun e => absurd e (Nat.succ_ne_zero i), fun _ => ?_⟩
    cases i with
    | zero => exact ⟨τ.nodes.length, [], _, by show τ.stack ++ _ = _; rw [b.r0 rfl]; rfl, insN_new, hy0 rfl⟩
    | succ i => exact (b.r1 (Nat.succ_pos i)).grow
  case hend =>
    rintro H1 ⟨k1, τ, b⟩
    obtain ⟨B, L, C, K, W, hm, hctx, hd, _, r1⟩ := b
    subst hm
    have hyl := P.yl
    have z1 := W.zn
    have z2 := W.zs
    have R := r1 P.y1
    have hcv : H1.c .cvar = some (.var (some (.cell .builder))) := C
    walk_at "m.run"
    rcases P.cx with e | ⟨e, e2, e3⟩
    · rw [if_pos e] at L
      have L : LK k1 H1 τ := by
        have : ({ τ with ctx := -1 } : St) = τ := by rw [← hctx]
        rw [this] at L; exact L
      walk_at "m.run"
      refine w_to hpu F B fun H2 hB2 k2 => ?_
      have hcv : H2.c .cvar = some (.var (some (.cell .builder))) := C.keepB k2
      have hB2 : BH H2 τ := hB2
      walk_at "m.run"
      refine h _ k1 { τ with form := 1 } (hB2.bld (σ' := { τ with form := 1 }) rfl rfl rfl) ?_ (put_other (by first | exact Loc.ne_tag rfl | (intro e; cases e)) hcv) ((K.trans (k2.toS fun _ => b_s)).trans ((Keep.put (p := Loc.isB) (l := .builder) rfl).toS fun _ => b_s)) ((W.form 1).mono (by omega) (Nat.le_refl _)) R hd
      exact ((L.keepB k2).keepB (Keep.put (l := .builder) rfl)).form 1
    · rw [if_neg e] at L
      walk_at "m.run"
      refine w_element2 (σ := { τ with mode := "initial" }) hpu F B (by show τ.nodes.length ≤ 900; omega) e2 fun H2 hB2 k2 => ?_
      have hcv : H2.c .cvar = some (.var (some (.cell .builder))) := C.keepB k2
      walk_at "m.run"
      have hB3 : BH (H2.put .builder (.inst 489 (bflds { addN { τ with mode := "initial" } ⟨"element", "html", c, [], "", -1, []⟩ with ctx := τ.nodes.length }))) { addN { τ with mode := "initial" } ⟨"element", "html", c, [], "", -1, []⟩ with ctx := τ.nodes.length } := hB2.bld rfl rfl rfl
      have k3 : Keep Loc.isB H2 (H2.put .builder (.inst 489 (bflds { addN { τ with mode := "initial" } ⟨"element", "html", c, [], "", -1, []⟩ with ctx := τ.nodes.length }))) := Keep.put rfl
      have key : ∀ {H3 : MH} {Q : V → MH → Prop} {cl ml}, BH H3 { addN { τ with mode := "initial" } ⟨"element", "html", c, [], "", -1, []⟩ with ctx := τ.nodes.length } → (∀ H', BH H' { addN τ ⟨"element", "html", c, [], "", -1, []⟩ with ctx := τ.nodes.length } → Keep Loc.isB H3 H' → Q .none H') → CALL M (d + 5 + 1) cl ml H3 451 [.cell .builder, .str τ.mode] Q := fun b hQ => w_to hpu F b hQ
      refine key hB3 fun H4 hB4 k4 => ?_
      have kk : Keep Loc.isB H1 H4 := (k2.trans k3).trans k4
      have hcv : H4.c .cvar = some (.var (some (.cell .builder))) := C.keepB kk
      walk_at "m.run"
      have W' := (W.ctx' hctx e3 1).mono (N' := 9) (E' := 0) (by omega) (Nat.le_refl _)
      obtain ⟨i0, r0, x0, q1, q2, q3⟩ := R
      refine h _ k1 { τ with nodes := τ.nodes ++ [⟨"element", "html", c, [], "", -1, []⟩], ctx := τ.nodes.length, form := 1 } (hB4.bld (σ' := { τ with nodes := τ.nodes ++ [⟨"element", "html", c, [], "", -1, []⟩], ctx := τ.nodes.length, form := 1 }) rfl rfl rfl) ?_ (put_other (by first | exact Loc.ne_tag rfl | (intro e; cases e)) hcv) ((K.trans (kk.toS fun _ => b_s)).trans ((Keep.put (p := Loc.isB) (l := .builder) rfl).toS fun _ => b_s)) W' ⟨i0, r0, x0, q1, ?_, q3⟩ hd
      · exact ((L.ctx W.kd (by omega) 1).keepB kk).keepB (Keep.put (l := .builder) rfl)
      · show (τ.nodes ++ [_])[i0]? = _
        rw [List.getElem?_append_left (lt_of_get q2)]; exact q2
end
noncomputable def forB : Stmt → List Stmt
  | .For _ _ b _ _ => b
  | _ => []
noncomputable def nameOf (τ : St) (j : Nat) : Str := match τ.nodes[j]? with | some x => x.name | none => ""
theorem nameOf_at {τ : St} {j : Nat} {x : Nd} (h : τ.nodes[j]? = some x) : nameOf τ j = x.name := by unfold nameOf; rw [h]
noncomputable def lookD (τ : St) : PyData := .tuple [.str τ.mode, .list (τ.stack.map fun j => .str (nameOf τ j)), .bool τ.done]
theorem look_ok {N E : Nat} {τ : St} (W : WF N E τ) : SeqAt.shaped (lookD τ) = true ∧ (lookD τ).canLay0 = true := by
  have h1 : PyData.canLayAll0 (τ.stack.map fun j => PyData.str (nameOf τ j)) = true := layAll_of fun d hd => by
    obtain ⟨j, hj, rfl⟩ := List.mem_map.mp hd
    obtain ⟨x, hx, _⟩ := W.stk j hj
    rw [nameOf_at hx]
    exact (W.nd j x hx).sn
  have h2 : PyData.depthAll (τ.stack.map fun j => PyData.str (nameOf τ j)) ≤ 0 := depthAll_le fun d hd => by
    obtain ⟨j, hj, rfl⟩ := List.mem_map.mp hd
    simp [PyData.depth]
  have h3 := mode_ok W.md
  have h4 : (lookD τ).canLay0 = true := by unfold lookD; simp only [PyData.canLay0, PyData.canLayAll0, h1, h3]; rfl
  refine ⟨?_, h4⟩
  unfold SeqAt.shaped
  rw [h4, Bool.true_and, decide_eq_true_eq]
  unfold lookD
  simp only [PyData.depth, PyData.depthAll]; omega
theorem DVs.strs {H : MH} {α : Type} {f : α → Str} : ∀ {l : List α}, DVs H (l.map fun a => .str (f a)) (l.map fun a => .str (f a))
  | [] => .nil
  | _ :: _ => .cons (.str _) DVs.strs
section
variable {M : Amb} {d : Nat} {cl : List (Str × Loc)} {ml : List (Str × V)} {H : MH}
section
variable {sc : Scope}
theorem T1_assign_comp2 {elt iter : Expr} {x y : Str} {px py : Pos} {scope : Scope} {cl' : List (Str × Loc)} {pos spos : Pos} {l' : Loc} {Q : FV → List (Str × V) → MH → Prop}
    (hsw : ∀ env : Env, env.scope = sc → swapsWith (.ListComp elt [⟨.Name x px, iter, [], 0⟩] scope pos) (some (.Name y py)) spos.line env = pure true) (hy : sc.names.lookup y = some .local)
    (hkind : scope.kind = .function) (hcell : ∀ y ∈ scope.names, y.2 ≠ .cell) (hnames : ∀ y ∈ scope.names, y.2 = .local → scope.names.lookup y.1 = some .local) (hx : (relS scope sc).names.lookup x = some .local)
    (hse : ∀ env v, foldedSetIterable iter env v = pure v)
    (hclos : ∀ env : Env, (∀ y l, cl.lookup y = some l → ∃ a, env.cells.lookup y = some a) → ∃ ccl, closureFor scope env = pure ccl ∧ ∀ y l, cl'.lookup y = some l → cl.lookup y = some l ∧ ccl.lookup y = env.cells.lookup y)
    (G : MH → Nat → List V → MH → Prop)
    (h : TE M d sc cl ml H iter fun v H1 => ∃ l xs, v = .cell l ∧ H1.c l = some (.list xs) ∧ xs.length ≤ 1000 ∧ G H1 0 [] H1 ∧
      (∀ i ys H₁ xi, xs[i]? = some xi → G H1 i ys H₁ → TE M.pur d (relS scope sc) cl' [(x, xi)] H₁ elt fun y H₂ => G H1 (i + 1) (ys ++ [y]) H₂) ∧
      ∀ ys H', G H1 xs.length ys H' → H'.free l' ∧ Q .next ((y, .cell l') :: ml) (H'.add l' (.list ys))) :
    T1 M d sc cl ml H (.Assign [.Name y py] (.ListComp elt [⟨.Name x px, iter, [], 0⟩] scope pos) spos) Q := by
  intro A base h₀ outer env L m s wd Qm hs hL c k
  show wpAny _ _ (exec (.Assign [.Name y py] (.ListComp elt [⟨.Name x px, iter, [], 0⟩] scope pos) spos) env) _ _ _
  rw [exec_Assign_Name_used _ _ _ _ (hsw env hs)]
  obtain ⟨ccl, hc1, hc2⟩ := hclos env fun y l hy => let ⟨a, a1, _⟩ := c.cr y l hy; ⟨a, a1⟩
  refine wpAny_bind (wpAny_standAt (wpAny_bind ?_))
  show wpAny _ A (do let _ ← comprehension (.ListComp elt [⟨.Name x px, iter, [], 0⟩] scope pos) scope env _ (newList []) false (eval iter env) (some (assign (.Name y py) env))) _ _ s
  refine wpAny_bind (wpAny_mono (wpAny_comprehension_free (use := some (assign (.Name y py) env)) (Q := fun _ s' => Qm .next s') (E := fun _ _ => False) rfl (hse env) hc1 hkind hnames
    (h hs c fun v v' H1 w1 h1 t1 q1 x1 r1 c1 => ?_)) (fun _ s' hq => wpAny_pure (wpAny_pure hq)) fun _ _ e => e)
  obtain ⟨l, xs, rfl, hlist, hz, g0, step, hend⟩ := q1
  cases r1 with
  | cell hax =>
    refine comp_block (RR := fun acc C => compPost (model M.prog M.w) A (fun _ _ => False) (some (assign (.Name y py) env)) (fun _ s' => Qm .next s') acc C) hs c1 hlist hz hkind hcell hx (fun y l1 hy => ?_) hax (G H1) g0 step
      fun D C h' tk wd' H' ys us mC' g E v c' kD kC p n lD oD lC oC DC => ?_
    · obtain ⟨i1, i2⟩ := hc2 y l1 hy
      obtain ⟨a, a1, a2⟩ := c1.cr y l1 i1
      exact ⟨a, i2.trans a1, a2⟩
    · obtain ⟨hf, q⟩ := hend ys H' g
      obtain ⟨nD, gD⟩ := p
      have E2 : Ext M.pu wd' ((wd'.more D (listOf us.toArray nD)).name l' false D) := Ext.name (c'.rel.free l' false hf) kD
      have N2 : News h₀ L h' ((D, listOf us.toArray nD) :: wd'.news) := fun p hp => by
        rcases List.mem_cons.mp hp with rfl | hp
        · exact ⟨gD, lD, oD⟩
        · exact c'.N p hp
      have c2 := c'.go (tk' := tk) c'.F N2 E2 (c'.rel.name (c := .list ys) hf kD ⟨D, us, nD, name_at .., .head _, v.ext _ E2⟩)
      show wpAny _ A (assign (.Name y py) env (.ref D)) _ _ _
      refine wpAny_assign_Name (wpAny_storeName_local (m := m) (by unfold Env.kindOf; rw [hs]; exact hy) (by rw [hL]; exact c2.F.ns) (fun h3 hn3 hs3 => ?_) (by rw [c2.ek]; rfl))
      rw [hL] at hn3 hs3
      have c3 := c2.store (x := y) (v := .cell l') (tk := tk) hL (.cell (name_at ..)) (c2.F.set hn3 hs3) (c2.N.set hs3)
      refine ⟨_, n.at' fun o e => (hs3.2 _ lC).trans e, fun h4 hs4 => ?_⟩
      have F4 := c3.F.change hs4 lC oC
      have N4 : News h₀ L h4 ((D, listOf us.toArray nD) :: wd'.news) := fun p hp => by
        refine ⟨(hs4.2 _ fun e => ?_).trans (c3.N p hp).1, (c3.N p hp).2⟩
        rcases List.mem_cons.mp hp with rfl | hp
        · exact DC e
        · exact kC (e ▸ mem_keys hp)
      exact k _ _ _ _ _ h4 _ _ q ((x1.trans E).trans E2) .next (c3.go2 hL F4 N4 (Ext.refl _) c3.rel c3.lr)
end
theorem scene_r (hpu : M.pu = false) (F : Facts M.K) {dg : Loc} {k N E : Nat} {τ : St} (B : BH H τ) (L : LK k H τ) (C : CV H) (W : WF N E τ) (hN : N ≤ 900) {Q : FV → List (Str × V) → MH → Prop}
    (h : ∀ H' ml', Keep noL H H' → SubL [("state", .cell .state), ("digits", .cell dg)] ml' → Q .next ml' H') :
    T1 M (d + 2) (sco (tS 67)) [("builder", .cvar)] [("state", .cell .state), ("digits", .cell dg)] H (nthS (forB (nthS (bd (tS 67)) 11)) 3) (thenS M (d + 2) (sco (tS 67)) [("builder", .cvar)] ((forB (nthS (bd (tS 67)) 11)).drop 4) Q) := by
  refine T1_at rfl rfl ?_
  have F' : Facts M.pur.K := F
  have z1 := W.zs
  have z2 := W.zn
  have hcv : H.c .cvar = some (.var (some (.cell .builder))) := C
  refine' T1_assign_comp2 (l' := .tmp H.nx) (cl' := [("builder", .cvar)]) (fun env he => by unfold swapsWith Env.blockKind Env.kindOf; rw [he]; rfl) rfl rfl (by decide +kernel) (by decide +kernel) (by decide +kernel) (fun _ _ => rfl) (fun env he => ?_) (fun H1 i ys H' => H' = H ∧ ys = (τ.stack.take i).map fun j => V.str (nameOf τ j)) ?_
  · obtain ⟨a, ha⟩ := he "builder" .cvar rfl
    refine ⟨[("builder", a)], clos_one' ha, fun y l hy => ⟨hy, ?_⟩⟩
    rw [List.lookup_cons] at hy ⊢
    split at hy
    · rename_i q; rw [eq_of_beq q, ha]
    · cases hy
  walk_at "m.run"
  refine ⟨.items, τ.stack.map vi, rfl, by walk_at "m.cell", by rw [List.length_map]; omega, ⟨rfl, rfl⟩, ?_, ?_⟩
  · rintro i ys H1 xi hxi ⟨rfl, rfl⟩
    rw [List.getElem?_map] at hxi
    cases hj : τ.stack[i]? with
    | none => rw [hj] at hxi; cases hxi
    | some j =>
      rw [hj] at hxi; cases hxi
      obtain ⟨x, hx, _⟩ := W.stk j (List.mem_of_getElem? hj)
      show TE _ _ { kind := _, names := _, isGenerator := _, isCoroutine := _, more := _ } _ _ _ _ _
      walk_at "m.run"
      rw [List.take_succ, hj, List.map_append, ← nameOf_at hx]; rfl
  rintro ys H1 ⟨rfl, rfl⟩
  rw [List.length_map, List.take_length]
  refine ⟨free_tmp (Nat.le_refl _), ?_⟩
  have B2 : BH (H1.add (.tmp H1.nx) (.list (τ.stack.map fun j => V.str (nameOf τ j)))) τ := B.atmp
  have L2 : LK k (H1.add (.tmp H1.nx) (.list (τ.stack.map fun j => V.str (nameOf τ j)))) τ := L.atmp (Nat.le_refl _)
  have hcv2 : (H1.add (.tmp H1.nx) (.list (τ.stack.map fun j => V.str (nameOf τ j)))).c .cvar = some (.var (some (.cell .builder))) := add_other (by first | exact Loc.ne_tag rfl | (intro e; cases e)) hcv
  have c2 : (H1.add (.tmp H1.nx) (.list (τ.stack.map fun j => V.str (nameOf τ j)))).c (.tmp H1.nx) = some (.list (τ.stack.map fun j => V.str (nameOf τ j))) := add_same
  have k2 : Keep noL H1 (H1.add (.tmp H1.nx) (.list (τ.stack.map fun j => V.str (nameOf τ j)))) := (Keep.refl _).tmp' (Nat.le_refl _)
  have n2 : H1.nx < (H1.add (.tmp H1.nx) (.list (τ.stack.map fun j => V.str (nameOf τ j)))).nx := lt_bump _ _
  revert B2 L2 hcv2 c2 k2 n2
  generalize H1.add (.tmp H1.nx) (.list (τ.stack.map fun j => V.str (nameOf τ j))) = H2
  intro B2 L2 hcv2 c2 k2 n2
  walk_at "m.run"
  refine' TE_comp (l' := .tmp H2.nx) (cl' := []) rfl (by decide +kernel) (by decide +kernel) (by decide +kernel) (fun _ _ => rfl) (fun env he => ⟨[], clos_none, fun y l hy => nomatch hy⟩) (fun H1 i ys H' => H' = H2 ∧ ys = (τ.stack.take i).map fun j => V.str (nameOf τ j)) ?_
  walk_at "m.run"
  refine ⟨.tmp k, τ.stack.map lnV, rfl, L2.pa, by rw [List.length_map]; omega, ⟨rfl, rfl⟩, ?_, ?_⟩
  · rintro i ys H3 xi hxi ⟨rfl, rfl⟩
    rw [List.getElem?_map] at hxi
    cases hj : τ.stack[i]? with
    | none => rw [hj] at hxi; cases hxi
    | some j =>
      rw [hj] at hxi; cases hxi
      obtain ⟨x, hx, h1, _, h3⟩ := W.stk j (List.mem_of_getElem? hj)
      have hnode := L2.node (isEl_of hx (.inl h1) h3)
      show TE _ _ { kind := _, names := _, isGenerator := _, isCoroutine := _, more := _ } _ _ _ _ _
      walk_at "m.run"
      rw [List.take_succ, hj, List.map_append, ← nameOf_at hx]; rfl
  rintro ys H3 ⟨rfl, rfl⟩
  rw [List.length_map, List.take_length]
  refine ⟨free_tmp (Nat.le_refl _), ?_⟩
  have B4 : BH (H3.add (.tmp H3.nx) (.list (τ.stack.map fun j => V.str (nameOf τ j)))) τ := B2.atmp
  have L4 : LK k (H3.add (.tmp H3.nx) (.list (τ.stack.map fun j => V.str (nameOf τ j)))) τ := L2.atmp (Nat.le_refl _)
  have hcv4 : (H3.add (.tmp H3.nx) (.list (τ.stack.map fun j => V.str (nameOf τ j)))).c .cvar = some (.var (some (.cell .builder))) := add_other (by first | exact Loc.ne_tag rfl | (intro e; cases e)) hcv2
  have c4 : (H3.add (.tmp H3.nx) (.list (τ.stack.map fun j => V.str (nameOf τ j)))).c (.tmp H3.nx) = some (.list (τ.stack.map fun j => V.str (nameOf τ j))) := add_same
  have c5 : (H3.add (.tmp H3.nx) (.list (τ.stack.map fun j => V.str (nameOf τ j)))).c (.tmp H1.nx) = some (.list (τ.stack.map fun j => V.str (nameOf τ j))) := add_other (fun e => by have := Loc.tmp.inj e; omega) c2
  have k4 : Keep noL H1 (H3.add (.tmp H3.nx) (.list (τ.stack.map fun j => V.str (nameOf τ j)))) := k2.trans ((Keep.refl _).tmp' (Nat.le_refl _))
  revert B4 L4 hcv4 c4 c5 k4
  generalize H3.add (.tmp H3.nx) (.list (τ.stack.map fun j => V.str (nameOf τ j))) = H4
  intro B4 L4 hcv4 c4 c5 k4
  walk_at "m.run"
  refine OP_ne_data (da := lookD τ) (db := lookD τ) (.tup (.cons (.str _) (.cons (.list c5 DVs.strs) (.cons (.bool _) .nil)))) (.tup (.cons (.str _) (.cons (.list c4 DVs.strs) (.cons (.bool _) .nil)))) (look_ok W).1 (look_ok W).1 ?_
  rw [SeqAt.eqv_refl _ (look_ok W).2]
  walk_at "m.run"
  exact h _ _ k4 ⟨rfl, rfl, trivial⟩
end
structure Turn (H H' : MH) (i k : Nat) (σ : St) : Prop where
  B : BH H' σ
  L : LK k H' σ
  C : CV H'
  K : Keep Loc.isS H H'
  W : WF (9 + i) (4 * i) σ
  R : σ.done = false → RootS σ
theorem Keep.ofN {H H' : MH} {p : Loc → Bool} (k : Keep noL H H') : Keep p H H' := ⟨k.1, fun l _ ht => k.2 l rfl ht⟩
noncomputable abbrev frS (dg : Loc) : List (Str × V) := [("state", .cell .state), ("digits", .cell dg)]
section
variable {M : Amb} {d : Nat} {cl : List (Str × Loc)} {ml : List (Str × V)} {H : MH}
theorem scene_t (hpu : M.pu = false) (F : Facts M.K) {dg : Loc} {i k : Nat} {H' : MH} {σ : St} (hi : i < 11) (t : Turn H H' (i + 1) k σ) {ml : List (Str × V)} (hml : SubL (frS dg) ml) {Q : FV → List (Str × V) → MH → Prop}
    (hQ : ∀ ml' H', (∃ a' : Unit, (∃ k σ, Turn H H' (i + 1) k σ) ∧ SubL (frS dg) ml') → Q .next ml' H') :
    T1 M (d + 20) (sco (tS 67)) [("builder", .cvar)] ml H' (nthS (forB (nthS (bd (tS 67)) 11)) 3) (thenS M (d + 20) (sco (tS 67)) [("builder", .cvar)] ((forB (nthS (bd (tS 67)) 11)).drop 4) Q) :=
  TX.sub hml (scene_r (dg := dg) hpu F t.B t.L t.C t.W (by omega) fun H2 ml' kk ss => hQ _ _ ⟨(), ⟨k, σ, t.B.noL kk, t.L.keep kk (fun _ _ => rfl) (fun _ => rfl), (kk.2 .cvar rfl nofun).trans t.C, t.K.trans kk.ofN, t.W, t.R⟩, ss⟩)
theorem scene_c (hpu : M.pu = false) (F : Facts M.K) {dg : Loc} {ds : List Int} (hds : ds.length = 12) (hdS : dg.isS = false) {k : Nat} {σ : St} {m c : Str} (B : BH H σ) (L : LK k H σ) (C : CV H) (W : WF 9 0 σ) (R : RootS σ)
    (hdg : H.c dg = some (.list (ds.map .int))) (hdt : ∀ j, dg = .tmp j → j < H.nx) {Q : FV → List (Str × V) → MH → Prop}
    (h : ∀ H' k' τ, BH H' τ → LK k' H' τ → CV H' → Keep Loc.isS H H' → WF 20 44 τ → thenS M (d + 20) (sco (tS 67)) [("builder", .cvar)] ((bd (tS 67)).drop 12) Q .next (frS dg) H') :
    T1 M (d + 20) (sco (tS 67)) [("builder", .cvar)] [("state", .cell .state), ("mode", .str m), ("context", .str c), ("digits", .cell dg)] H (nthS (bd (tS 67)) 11) (thenS M (d + 20) (sco (tS 67)) [("builder", .cvar)] ((bd (tS 67)).drop 12) Q) := by
  refine T1_at rfl rfl ?_
  refine' T1_range' (fun _ => rfl) (fun _ => rfl) rfl (fun _ _ => rfl) (fun i (_ : Unit) H' => ∃ k σ, Turn H H' i k σ) (fun _ _ => frS dg) 11 () (by decide) (fun _ _ _ s h => TX.sub s h) ?hrn ?step ?hend
  case hrn =>
    walk_at "m.run"
    exact ⟨⟨k, σ, B, L, C, Keep.refl _, W, fun _ => R⟩, ⟨rfl, rfl, trivial⟩⟩
  case hend =>
    rintro _ H' ⟨k', τ, t⟩
    exact h H' k' τ t.B t.L t.C t.K t.W
  case step =>
    rintro i _ H1 hi ⟨k1, σ, t⟩
    obtain ⟨B1, L1, C1, K1, W1, R1⟩ := t
    have hcv : H1.c .cvar = some (.var (some (.cell .builder))) := C1
    have hdg1 : H1.c dg = some (.list (ds.map .int)) := (K1.2 dg hdS hdt).trans hdg
    obtain ⟨di, hdi⟩ : ∃ di, ds[i + 1]? = some di := ⟨_, List.getElem?_eq_getElem (by omega)⟩
    walk_at "m.run"
    refine OP_item_list (x := .int di) hdg1 (by omega) (by omega) (by rw [show ((i : Int) + 1).toNat = i + 1 from by omega, List.getElem?_map, hdi]; rfl) (fun _ _ => rfl) ?_
    walk_at "m.run"
    refine w_law_token F hi fun H2 ho hn => ?_
    have k2 : Keep noL H1 H2 := ⟨hn, fun l _ h => ho l h⟩
    have ht := tokOf_ok di hi
    revert ht
    generalize tokOf di i = t
    intro ht
    have B2 := B1.noL k2
    have L2 : LK k1 H2 σ := L1.keep k2 (fun _ _ => rfl) fun _ => rfl
    have C2 : CV H2 := (k2.2 .cvar rfl nofun).trans C1
    have K2 := K1.trans (k2.ofN (p := Loc.isS))
    have hcv : H2.c .cvar = some (.var (some (.cell .builder))) := C2
    clear B1 L1 C1 K1 ho hn hdg1
    walk_at "m.run"
    refine w_feed hpu F B2 W1 (by omega) (by omega) (by omega) (fun e => (R1 e).ne) ht fun H3 B3 k3 => ?_
    have L3 := L2.keepB k3
    have C3 := C2.keepB k3
    have K3 := K2.trans (k3.toS fun _ => b_s)
    walk_at "m.run"
    cases hd : σ.done with
    | true =>
      rw [if_pos hd] at B3
      refine ite_neg (by decide) ?_
      walk_at "m.run"
      exact scene_t (dg := dg) hpu F hi ⟨B3, L3, C3, K3, W1.mono (by omega) (by omega), R1⟩ ⟨rfl, rfl, trivial⟩ fun _ _ g => g
    | false =>
      rw [if_neg (by rw [hd]; decide)] at B3
      have R2 := R1 hd
      have hfl := feed_law W1 ht
      rw [hfl] at B3
      have W2 : WF (9 + (i + 1)) (4 * (i + 1)) (lawN σ t) := by
        rw [← hfl]
        exact (W1.feed (by omega) R2.ne ht).mono (by omega) (by omega)
      have R3 : (lawN σ t).done = false → RootS (lawN σ t) := fun e => by
        rcases R2.law (t := t) with q | q
        · rw [q] at e; cases e
        · exact q
      refine ite_pos (by decide) ?_
      walk_at "m.run"
      refine w_due hpu F (W1.ack false) (by omega) (by omega) (L3.ack false) R2.ne ht fun H4 k4 L4 kk4 => ?_
      have B4 := B3.keepL kk4
      have C4 := C3.keepL kk4
      have K4 := K3.trans (kk4.toS fun _ => l_s)
      clear B3 L3 C3 K3 k3 B2 L2 C2 K2 hcv hfl
      cases t with
      | start n a s =>
        simp only [tkV]
        walk_at "m.run"
        cases s with
        | false =>
          walk_at "m.run"
          exact scene_t (dg := dg) hpu F hi ⟨B4, L4, C4, K4, W2, R3⟩ ⟨rfl, rfl, trivial⟩ fun _ _ g => g
        | true =>
          walk_at "m.run"
          by_cases hv : (actOf σ.mode (.start n a true) != "void") = true
          · have hq : lawN σ (.start n a true) = errN (actN { σ with ack := false } (.start n a true) (actOf σ.mode (.start n a true))) (.tup [.str slashW, .str (actN { σ with ack := false } (.start n a true) (actOf σ.mode (.start n a true))).mode]) := if_pos (by rw [hv]; rfl)
            rw [hq] at B4 W2 R3
            have hz : (actN { σ with ack := false } (.start n a true) (actOf σ.mode (.start n a true))).errs.length ≤ 900 := by
              have r : actN { σ with ack := false } (.start n a true) (actOf σ.mode (.start n a true)) = runN { σ with ack := false } (.start n a true) := act_run (W1.ack false) ht
              rw [r]
              have := ((W1.ack false).run (by omega) R2.ne ht).ze
              omega
            walk_at "m.run"
            have tt : Turn H (H4.put .notes (.list ((actN { σ with ack := false } (.start n a true) (actOf σ.mode (.start n a true))).errs ++ [.tup [.str slashW, .str (actN { σ with ack := false } (.start n a true) (actOf σ.mode (.start n a true))).mode]]))) (i + 1) k4 (errN (actN { σ with ack := false } (.start n a true) (actOf σ.mode (.start n a true))) (.tup [.str slashW, .str (actN { σ with ack := false } (.start n a true) (actOf σ.mode (.start n a true))).mode])) :=
              ⟨B4.keepL (Keep.put (l := .notes) rfl), L4.err _, C4.keepL (Keep.put (l := .notes) rfl), K4.trans ((Keep.put (p := Loc.isL) (l := .notes) rfl).toS fun _ => l_s), W2, R3⟩
            refine scene_t (dg := dg) hpu F hi tt ⟨rfl, rfl, trivial⟩ fun _ _ g => g
          · have hq : lawN σ (.start n a true) = actN { σ with ack := false } (.start n a true) (actOf σ.mode (.start n a true)) := if_neg (by rw [Bool.eq_false_iff.mpr hv]; decide)
            rw [hq] at B4 W2 R3
            walk_at "m.run"
            exact scene_t (dg := dg) hpu F hi ⟨B4, L4, C4, K4, W2, R3⟩ ⟨rfl, rfl, trivial⟩ fun _ _ g => g
      | fin n =>
        simp only [tkV]
        walk_at "m.run"
        exact scene_t (dg := dg) hpu F hi ⟨B4, L4, C4, K4, W2, R3⟩ ⟨rfl, rfl, trivial⟩ fun _ _ g => g
      | ch n =>
        simp only [tkV]
        walk_at "m.run"
        exact scene_t (dg := dg) hpu F hi ⟨B4, L4, C4, K4, W2, R3⟩ ⟨rfl, rfl, trivial⟩ fun _ _ g => g
      | com n =>
        simp only [tkV]
        walk_at "m.run"
        exact scene_t (dg := dg) hpu F hi ⟨B4, L4, C4, K4, W2, R3⟩ ⟨rfl, rfl, trivial⟩ fun _ _ g => g
      | doc =>
        simp only [tkV]
        walk_at "m.run"
        exact scene_t (dg := dg) hpu F hi ⟨B4, L4, C4, K4, W2, R3⟩ ⟨rfl, rfl, trivial⟩ fun _ _ g => g
      | eof =>
        simp only [tkV]
        walk_at "m.run"
        exact scene_t (dg := dg) hpu F hi ⟨B4, L4, C4, K4, W2, R3⟩ ⟨rfl, rfl, trivial⟩ fun _ _ g => g
end
theorem errs_dv : ∀ {l : List V}, (∀ v ∈ l, ErrOK v) → ∃ ds, (∀ H, DVs H l ds) ∧ PyData.canLayAll0 ds = true ∧ PyData.depthAll ds ≤ 10
  | [], _ => ⟨[], fun _ => .nil, rfl, by simp [PyData.depthAll]⟩
  | v :: r, h => by
    obtain ⟨dt, h1, h2, h3⟩ := h v (.head _)
    obtain ⟨ds, g1, g2, g3⟩ := errs_dv (l := r) fun v hv => h v (.tail _ hv)
    refine ⟨dt :: ds, fun H => .cons (h1 H) (g1 H), ?_, ?_⟩
    · simp only [PyData.canLayAll0, h2, g2]; rfl
    · simp only [PyData.depthAll]; omega
section
variable {M : Amb} {d : Nat} {cl : List (Str × Loc)} {ml : List (Str × V)} {H : MH}
theorem scene_d (hpu : M.pu = false) (F : Facts M.K) {dg : Loc} {k : Nat} {τ : St} (B : BH H τ) (L : LK k H τ) (C : CV H) (W : WF 20 44 τ) {Q : V → MH → Prop} (h : ∀ H', Keep Loc.isS H H' → Q (.bool true) H') :
    thenS M (d + 30) (sco (tS 67)) [("builder", .cvar)] ((bd (tS 67)).drop 12) (backS Q) .next (frS dg) H := by
  show TS M (d + 30) (sco (tS 67)) [("builder", .cvar)] (frS dg) H ((bd (tS 67)).drop 12) (backS Q)
  refine TS_at rfl rfl ?_
  have hcv : H.c .cvar = some (.var (some (.cell .builder))) := C
  have z1 := W.zn
  have z2 := W.ze
  obtain ⟨x0, hx0⟩ := W.doc_el
  have pk := plain_ok W 20 0 (by omega)
  have sh : SeqAt.shaped (plainD (20 + 1) τ.nodes 0) = true := by
    unfold SeqAt.shaped
    rw [pk.1, Bool.true_and, decide_eq_true_eq]
    exact Nat.le_trans pk.2 (by decide)
  walk_at "m.run"
  refine w_plain 20 (d := d + 9) F W (by omega) B (isEl_get hx0).1 (by omega) fun v H2 dv k2 => ?_
  have B2 := B.noL k2
  have L2 : LK k H2 τ := L.keep k2 (fun _ _ => rfl) fun _ => rfl
  have hcv2 : H2.c .cvar = some (.var (some (.cell .builder))) := (k2.2 .cvar rfl nofun).trans C
  walk_at "m.run"
  refine OP_ne_data dv.dv (page_dv W L2 20 0 x0 hx0 (by omega)) sh sh ?_
  rw [SeqAt.eqv_refl _ pk.1]
  walk_at "m.run"
  obtain ⟨ds, e1, e2, e3⟩ := errs_dv W.er
  have es : SeqAt.shaped (.list ds) = true := by
    unfold SeqAt.shaped
    rw [show (PyData.list ds).canLay0 = true from e2, Bool.true_and, decide_eq_true_eq]
    simp only [PyData.depth]; omega
  refine OP_eq_data (.list (B2 .errors rfl) (e1 _)) (.list L2.notes (e1 _)) es es ?_
  rw [SeqAt.eqv_refl _ (show (PyData.list ds).canLay0 = true from e2)]
  walk_at "m.run"
  refine TE_list (l := .tmp H2.nx) (fun _ => rfl) ?_
  walk_at "m.run"
  refine ⟨free_tmp (Nat.le_refl _), ?_⟩
  have g1 : (H2.add (.tmp H2.nx) (.list [])).c (.tmp H2.nx) = some (.list []) := add_same
  have n1 : H2.nx < (H2.add (.tmp H2.nx) (.list [])).nx := lt_bump _ _
  have k3 : Keep noL H2 (H2.add (.tmp H2.nx) (.list [])) := (Keep.refl _).tmp' (Nat.le_refl _)
  revert g1 n1 k3
  generalize H2.add (.tmp H2.nx) (.list []) = H3
  intro g1 n1 k3
  walk_at "m.run"
  refine TE_dict_nil (l := .tmp H3.nx) (free_tmp (Nat.le_refl _)) ?_
  have g2 : (H3.add (.tmp H3.nx) (.dict [])).c (.tmp H3.nx) = some (.dict []) := add_same
  have g3 : (H3.add (.tmp H3.nx) (.dict [])).c (.tmp H2.nx) = some (.list []) := add_other (fun e => by have := Loc.tmp.inj e; omega) g1
  have n2 : H3.nx < (H3.add (.tmp H3.nx) (.dict [])).nx := lt_bump _ _
  have k4 : Keep noL H3 (H3.add (.tmp H3.nx) (.dict [])) := (Keep.refl _).tmp' (Nat.le_refl _)
  revert g2 g3 n2 k4
  generalize H3.add (.tmp H3.nx) (.dict []) = H4
  intro g2 g3 n2 k4
  walk_at "m.run"
  refine TE_list (l := .tmp H4.nx) (fun _ => rfl) ?_
  walk_at "m.run"
  refine ⟨free_tmp (Nat.le_refl _), ?_⟩
  have g4 : (H4.add (.tmp H4.nx) (.list [])).c (.tmp H4.nx) = some (.list []) := add_same
  have g5 : (H4.add (.tmp H4.nx) (.list [])).c (.tmp H3.nx) = some (.dict []) := add_other (fun e => by have := Loc.tmp.inj e; omega) g2
  have g6 : (H4.add (.tmp H4.nx) (.list [])).c (.tmp H2.nx) = some (.list []) := add_other (fun e => by have := Loc.tmp.inj e; omega) g3
  have k5 : Keep noL H2 (H4.add (.tmp H4.nx) (.list [])) := (k3.trans k4).trans ((Keep.refl _).tmp' (Nat.le_refl _))
  revert g4 g5 g6 k5
  generalize H4.add (.tmp H4.nx) (.list []) = H5
  intro g4 g5 g6 k5
  have B5 := B2.noL k5
  walk_at "m.run"
  refine OP_eq_rest (B5 .fitems rfl) (B5 .owners rfl) (B5 .modes rfl) g6 g5 g4 ?_
  walk_at "m.run"
  exact h _ ((k2.trans k5).ofN)
end
section
variable {M : Amb} {d : Nat} {cl : List (Str × Loc)} {ml : List (Str × V)} {H : MH}
theorem w_law_scene (hpu : M.pu = false) (F : Facts M.K) {j : Nat} {ds : List Int} (hdg : H.c (.tmp j) = some (.list (ds.map .int))) (hds : ds.length = 12) (hj : j < H.nx) (hf : ∀ l, l.isS = true → H.c l = none) {Q : V → MH → Prop}
    (h : ∀ H', Keep Loc.isS H H' → Q (.bool true) H') : CALL M (d + 31) cl ml H 781 [.cell (.tmp j)] Q := by
  refine CALL_cells1 (l := .cvar) (at_law_scene F) b_law_scene rfl rfl rfl (fun _ => rfl) rfl rfl rfl (free_of (hf .cvar rfl) fun _ => nofun) ?_
  have k0 : Keep Loc.isS H (H.add .cvar (.var none)) := Keep.add rfl
  refine scene_a (d := d + 24) (dg := .tmp j) (ds := ds) hpu F (add_other (by first | exact Loc.ne_tag rfl | (intro e; cases e)) hdg) hds rfl (fun i e => by cases e; exact hj) (fun l hl hn => add_other hn (hf l hl)) add_same fun H1 k1 w c m ys P B1 L1 C1 K1 => ?_
  refine scene_b (d := d + 24) hpu F P B1 L1 C1 fun H2 k2 σ B2 L2 C2 K2 W2 R2 hd => ?_
  have KK := (k0.trans K1).trans K2
  refine scene_c (d := d + 10) hpu F hds rfl B2 L2 C2 W2 R2 ((KK.2 _ rfl fun i e => by cases e; exact hj).trans hdg) (fun i e => by cases e; exact Nat.lt_of_lt_of_le hj KK.1) fun H3 k3 τ B3 L3 C3 K3 W3 => ?_
  exact scene_d hpu F B3 L3 C3 W3 fun H4 K4 => h H4 ((KK.trans K3).trans K4)
noncomputable def basesI : List (List Int) := [[0, 14, 23, 24, 2, 8, 23, 24, 15, 11, 5, 8], [1, 0, 27, 14, 15, 3, 7, 26, 23, 9, 7, 16], [2, 7, 0, 0, 7, 7, 24, 20, 2, 5, 0, 25], [4, 17, 23, 12, 8, 18, 6, 11, 19, 21, 8, 25], [6, 15, 3, 23, 2, 0, 8, 23, 14, 24, 29, 7]]
noncomputable def basesV : List V := basesI.map fun r => .tup (r.map .int)
theorem w_law_bases (F : Facts M.K) {Q : V → MH → Prop} (h : Q (.tup basesV) H) : CALL M (d + 1) cl ml H 687 [] Q := by
  refine CALL_go (at_law_bases F) b_law_bases rfl rfl rfl ?_
  walk_at "m.run"
  exact h
theorem base_row (i : Nat) (hi : i < 5) : ∃ r : List Int, basesV[i]? = some (.tup (r.map .int)) ∧ r.length = 12 := by
  match i, hi with
  | 0, _ => exact ⟨[0, 14, 23, 24, 2, 8, 23, 24, 15, 11, 5, 8], rfl, rfl⟩
  | 1, _ => exact ⟨[1, 0, 27, 14, 15, 3, 7, 26, 23, 9, 7, 16], rfl, rfl⟩
  | 2, _ => exact ⟨[2, 7, 0, 0, 7, 7, 24, 20, 2, 5, 0, 25], rfl, rfl⟩
  | 3, _ => exact ⟨[4, 17, 23, 12, 8, 18, 6, 11, 19, 21, 8, 25], rfl, rfl⟩
  | 4, _ => exact ⟨[6, 15, 3, 23, 2, 0, 8, 23, 14, 24, 29, 7], rfl, rfl⟩
theorem seq_nat {q n : Nat} (h : q < n) : seqIndex? (q : Int) n = some q := by
  unfold seqIndex?
  simp
  omega
end
structure Fl (H : MH) : Prop where
  n : ∀ l, (∀ j, l ≠ .tmp j) → H.c l = none
  i : ∀ l c, H.c l = some c → ∃ ys : List Int, c = .list (ys.map .int)
theorem Fl.add {H : MH} (f : Fl H) {j : Nat} {ys : List Int} : Fl (H.add (.tmp j) (.list (ys.map .int))) where
  n l hl := add_other (hl j) (f.n l hl)
  i l c h := by
    have h : (if l = .tmp j then some (Cell.list (ys.map .int)) else H.c l) = some c := h
    by_cases e : l = .tmp j
    · rw [if_pos e] at h; cases h; exact ⟨ys, rfl⟩
    · rw [if_neg e] at h; exact f.i l c h
theorem Fl.put {H : MH} (f : Fl H) {j : Nat} {ys : List Int} : Fl (H.put (.tmp j) (.list (ys.map .int))) where
  n l hl := put_other (hl j) (f.n l hl)
  i l c h := by
    have h : (if l = .tmp j then some (Cell.list (ys.map .int)) else H.c l) = some c := h
    by_cases e : l = .tmp j
    · rw [if_pos e] at h; cases h; exact ⟨ys, rfl⟩
    · rw [if_neg e] at h; exact f.i l c h
noncomputable def dropP (n : Nat) : Loc → Bool
  | .tmp k => decide (n ≤ k)
  | l => l.isS
theorem dropP_s {n : Nat} {l : Loc} (h : dropP n l = false) : l.isS = false ∧ ∀ k, l = .tmp k → k < n := by
  cases l with
  | tmp k => exact ⟨rfl, fun j e => by cases e; have := of_decide_eq_false h; omega⟩
  | _ => exact ⟨h, fun j e => nomatch e⟩
theorem Fl.drop {H H' : MH} (f : Fl H) (k : Keep Loc.isS H H') : Fl (H'.forget (dropP H.nx)) where
  n l hl := by
    show (if dropP H.nx l = true then none else H'.c l) = none
    split
    · rfl
    · rename_i q
      have := dropP_s (Bool.eq_false_iff.mpr q)
      rw [k.2 l this.1 this.2]; exact f.n l hl
  i l c h := by
    have h : (if dropP H.nx l = true then none else H'.c l) = some c := h
    split at h
    · cases h
    · rename_i q
      have := dropP_s (Bool.eq_false_iff.mpr q)
      rw [k.2 l this.1 this.2] at h; exact f.i l c h
section
variable {M : Amb} {d : Nat} {cl : List (Str × Loc)} {ml : List (Str × V)} {H : MH}
theorem w_scene_drop (hpu : M.pu = false) (F : Facts M.K) (f : Fl H) {j : Nat} {ds : List Int} (hdg : H.c (.tmp j) = some (.list (ds.map .int))) (hds : ds.length = 12) (hj : j < H.nx) {Q : V → MH → Prop}
    (h : ∀ H', Fl H' → Q (.bool true) H') : CALL M (d + 31) cl ml H 781 [.cell (.tmp j)] Q := by
  refine CALL_forget (dropP H.nx) (fun l hl => ?_) (fun l c _ hc => f.i l c hc) ?_
  · cases l with
    | tmp k => exact free_tmp (of_decide_eq_true hl)
    | _ => exact free_of (f.n _ fun _ => nofun) fun _ => nofun
  · exact w_law_scene hpu F hdg hds hj (fun l hl => f.n l fun k e => by subst e; cases hl) fun H' k => ⟨⟨true, rfl⟩, fun l hl => let q := dropP_s hl; k.2 l q.1 q.2, h _ (f.drop k)⟩
theorem w_law (hpu : M.pu = false) (F : Facts M.K) {a : Addr} {vs : List Value} {ns : List Int} (z : ZList M a vs ns) (hn : ns.length ≤ 63) (f : Fl H) {Q : V → MH → Prop} (h : ∀ H', Q (.bool true) H') :
    TS M (d + 32) (sco (tS 68)) [] [("script", .glob a)] H (bd (tS 68)) (backS Q) := by
  refine TS_at rfl rfl ?_
  walk_at "m.run"
  refine w_law_bases F ?_
  walk_at "m.run"
  refine' T1_range' (fun _ => rfl) (fun _ => rfl) rfl (fun _ _ => rfl) (fun i (_ : Unit) H' => Fl H') (fun _ _ => [("bases", .tup basesV), ("script", .glob a)]) 5 () (by decide) (fun _ _ _ s h => TX.sub s h) ?hrn ?step ?hend
  case hrn =>
    walk_at "m.run"
    exact ⟨f, ⟨rfl, rfl, trivial⟩⟩
  case hend =>
    rintro _ H' f'
    walk_at "m.run"
    exact h H'
  case step =>
    rintro i _ H1 hi f1
    walk_at "m.run"
    refine TE_list (l := .tmp H1.nx) (fun _ => rfl) ?_
    walk_at "m.run"
    refine ⟨free_tmp (Nat.le_refl _), ?_⟩
    have f2 : Fl (H1.add (.tmp H1.nx) (.list [])) := f1.add (ys := [])
    have c2 : (H1.add (.tmp H1.nx) (.list [])).c (.tmp H1.nx) = some (.list []) := add_same
    have n2 : H1.nx < (H1.add (.tmp H1.nx) (.list [])).nx := lt_bump _ _
    revert f2 c2 n2
    generalize H1.add (.tmp H1.nx) (.list []) = H2
    generalize H1.nx = j
    intro f2 c2 n2
    walk_at "m.run"
    refine' T1_range' (fun _ => rfl) (fun _ => rfl) rfl (fun _ _ => rfl) (fun k (_ : Unit) H' => ∃ ds : List Int, H'.c (.tmp j) = some (.list (ds.map .int)) ∧ ds.length = k ∧ j < H'.nx ∧ Fl H') (fun _ _ => [("digits", .cell (.tmp j)), ("scene", .int i), ("bases", .tup basesV), ("script", .glob a)]) 12 () (by decide) (fun _ _ _ s h => TX.sub s h) ?hrn ?step ?hend
    case hrn =>
      walk_at "m.run"
      exact ⟨⟨[], c2, rfl, n2, f2⟩, ⟨rfl, rfl, rfl, rfl, trivial⟩⟩
    case hend =>
      rintro _ H3 ⟨ds, c3, hds, hj, f3⟩
      walk_at "m.run"
      refine w_scene_drop hpu F f3 c3 hds hj fun H4 f4 => ?_
      walk_at "m.run"
      exact ⟨(), f4, ⟨rfl, rfl, trivial⟩⟩
    case step =>
      rintro k _ H3 hk ⟨ds, c3, hds, hj, f3⟩
      walk_at "m.run"
      refine OP_mul (by decide) ?_
      walk_at "m.run"
      obtain ⟨r, hr, hrl⟩ := base_row i hi
      obtain ⟨b, hb⟩ : ∃ b, r[k]? = some b := ⟨_, List.getElem?_eq_getElem (by omega)⟩
      refine OP_item_tup (j := i) (x := .tup (r.map .int)) (by omega) (by omega) (seq_nat (by show i < 5; exact hi)) hr (fun _ _ => rfl) ?_
      walk_at "m.run"
      refine OP_item_tup (j := k) (x := .int b) (by omega) (by omega) (seq_nat (by rw [List.length_map]; omega)) (by rw [List.getElem?_map, hb]; rfl) (fun _ _ => rfl) ?_
      walk_at "m.run"
      refine B_len_z z (by omega) ?_
      walk_at "m.run"
      by_cases e : decide (12 * (i : Int) + (k : Int) < (ns.length : Int)) = true
      · have e' := of_decide_eq_true e
        obtain ⟨x, hx⟩ : ∃ x, ns[(12 * (i : Int) + (k : Int)).toNat]? = some x := ⟨_, List.getElem?_eq_getElem (by omega)⟩
        refine ite_pos e ?_
        walk_at "m.run"
        refine OP_item_z z (x := x) (by omega) (by omega) hx (fun _ _ => rfl) ?_
        walk_at "m.run"
        refine ⟨(), ⟨ds ++ [b + x], ?_, by simp [hds], hj, ?_⟩, ⟨rfl, rfl, rfl, rfl, trivial⟩⟩
        · rw [put_same, List.map_append]; rfl
        · have := f3.put (j := j) (ys := ds ++ [b + x])
          rw [List.map_append] at this
          exact this
      · refine ite_neg e ?_
        walk_at "m.run"
        refine ⟨(), ⟨ds ++ [b + 0], ?_, by simp [hds], hj, ?_⟩, ⟨rfl, rfl, rfl, rfl, trivial⟩⟩
        · rw [put_same, List.map_append]; rfl
        · have := f3.put (j := j) (ys := ds ++ [b + 0])
          rw [List.map_append] at this
          exact this
end
theorem law_join {prog : Program} {w : World} {K : Frag} {p : Program} {loose : List Str} {mean : ExcName → Option Value} {mg mb : Str → Option Value} {g h₁ : Heap} {a fa : Addr} {cd : Value} {name : Str} {vs : List Value} {ns : List Int} {s : Shared} {Q : Flow → Shared → Prop} {E : Value → Shared → Prop}
    (F : Facts K) (X : K.In g) (T : Top p loose mean mg mb g) (B : Below callerA g [] g) (hl : g.IsList a vs.toArray) (hI : IntsAre vs ns) (hn : ns.length ≤ 63)
    (Fr₀ : Fr g g.objs.size h₁ (fun x => List.lookup x [(("script" : Str), Value.ref a)].reverse)) (N : News g g.objs.size h₁ []) (hs : s.heap = h₁)
    (hQ : ∀ h' tk', (∀ b o, g.get? b = some o → h'.get? b = some o) → Q (.ret (.bool true)) { s with heap := h', toks := tk' }) :
    wpAny (model prog w) (callerA.deeper (envOf name (sco (tS 68)) g.objs.size fa cd)) (execs (bd (tS 68)) (envOf name (sco (tS 68)) g.objs.size fa cd)) Q E s := by
  subst hs
  obtain ⟨o, h1, h2, n, h3⟩ := hl
  have z : ZList { prog := prog, w := w, K := K, p := p, loose := loose, mean := mean, mg := mg, mb := mb, pu := false, zs := [(a, o)] } a vs ns := ⟨⟨o, n, .head _, h2, h3⟩, hI⟩
  have C : CX { prog := prog, w := w, K := K, p := p, loose := loose, mean := mean, mg := mg, mb := mb, pu := false, zs := [(a, o)] } 32 (callerA.deeper (envOf name (sco (tS 68)) g.objs.size fa cd)) g g [] (envOf name (sco (tS 68)) g.objs.size fa cd) (envOf name (sco (tS 68)) g.objs.size fa cd) g.objs.size
      (fun x => List.lookup x [(("script" : Str), Value.ref a)].reverse) (fun x => List.lookup x [(("script" : Str), Value.ref a)].reverse) [] [("script", .glob a)] s ⟨fun _ _ => none, []⟩ ⟨fun _ => none, 0⟩ :=
    { hA := rfl
      bel := ⟨_, B⟩
      ff := rfl
      fk := rfl
      F := Fr₀
      N := N
      X := X
      Z := fun q hq => by rw [List.mem_singleton.mp hq]; exact h1
      T := T
      hh := rfl
      room := by show callerA.depth + 1 + 4 * 32 ≤ 600; decide
      units := by show callerA.units + 3 + 20 * 32 ≤ 9000; decide
      ek := rfl
      eg := rfl
      eb := rfl
      loc := .inl ⟨rfl, rfl⟩
      lr := fun x v hx => by
        rw [List.lookup_cons] at hx
        split at hx
        · rename_i q
          cases hx
          refine ⟨.ref a, ?_, .glob a⟩
          show List.lookup x [(("script" : Str), Value.ref a)] = _
          rw [List.lookup_cons, q]
        · cases hx
      cr := fun x l hx => nomatch hx
      rel := ⟨fun l c h => (nomatch h), fun _ _ _ _ _ h => (nomatch h), List.nodup_nil, fun _ _ _ h => (nomatch h), fun _ _ _ => rfl⟩ }
  refine wpAny_mono (w_law (d := 0) rfl F z hn (H := ⟨fun _ => none, 0⟩) ⟨fun _ _ => rfl, fun _ _ h => (nomatch h)⟩ (Q := fun v _ => v = .bool true) (fun _ => rfl) rfl rfl C (Qm := Q) fun f f' ml' H' wd' h' tk' m' q x r c' => ?_) (fun _ _ y => y) fun _ _ y => y.elim
  cases r with
  | ret rv =>
    have q : _ = V.bool true := q
    subst q
    cases rv
    exact hQ h' tk' fun b o e => c'.F.keep b o e
  | next => have q : V.none = V.bool true := q; cases q
  | brk => exact q.elim
  | cont => exact q.elim

end Mine.Internal
namespace Mine
open Internal
theorem hd.tw6818987989461384207 : True := trivial
theorem hd.tw17311223219408574766 : True := trivial
theorem hd.tw2845207389951388047 : True := trivial
theorem hd.tw17087091549796120035 : True := trivial
theorem hd.tw15616948245753086127 : True := trivial
theorem hd.tw13047593935725612058 : True := trivial
theorem hd.tw13293453174229064190 : True := trivial
theorem hd.tw7519716089354478335 : True := trivial
theorem hd.tw14892549342360969540 : True := trivial
theorem hd.tw978945382295711627 : True := trivial
theorem hd.tw7523672394736509286 : True := trivial
theorem hd.tw11034497122203965937 : True := trivial
theorem hd.tw4065347644161347641 : True := trivial
theorem hd.tw5961118342813265553 : True := trivial
theorem hd.tw9641152695372364146 : True := trivial
theorem hd.tw17325209927041812611 : True := trivial
theorem hd.tw11128854368766332075 : True := trivial
theorem hd.tw12591134339009171964 : True := trivial
theorem hd.tw4138081844389336918 : True := trivial
theorem hd.tw17076082267592564974 : True := trivial
theorem hd.tw8211384405938104136 : True := trivial
theorem hd.tw3722166409189360004 : True := trivial
theorem hd.tw4377701919642642989 : True := trivial
theorem hd.tw13468300074154594103 : True := trivial
theorem hd.tw8068729725432388964 : True := trivial
theorem hd.tw9258712216579463092 : True := trivial
theorem hd.tw9215827820722605749 : True := trivial
theorem hd.tw9577689765879766989 : True := trivial
theorem hd.tw4367455430839740993 : True := trivial
theorem hd.tw10216474801634566288 : True := trivial
theorem hd.tw12480425521718506038 : True := trivial
theorem hd.tw4091639524402994376 : True := trivial
theorem hd.tw5148922909946612681 : True := trivial
theorem hd.tw5781342201191254626 : True := trivial
theorem hd.tw17711083657039698284 : True := trivial
theorem hd.tw5732804406350252772 : True := trivial
theorem hd.tw1452849714261714991 : True := trivial
theorem hd.tw16302227732802510677 : True := trivial
theorem hd.tw14620637471214046174 : True := trivial
theorem hd.tw4126306136578151734 : True := trivial
theorem hd.tw12631932088317031055 : True := trivial
theorem hd.tw137786328141462057 : True := trivial
theorem hd.tw14176624398918483544 : True := trivial
theorem hd.tw15043168886218598503 : True := trivial
theorem hd.tw15179676742415161110 : True := trivial
theorem hd.tw2867327485932766208 : True := trivial
theorem hd.tw10752148897807903841 : True := trivial
theorem hd.tw16649331688326792143 : True := trivial
theorem hd.tw15103106377680225435 : True := trivial
theorem hd.tw11652457597714270106 : True := trivial
theorem hd.tw960944832710211464 : True := trivial
theorem hd.tw7793673504863384051 : True := trivial
theorem hd.tw17312999752573914782 : True := trivial
theorem hd.tw3513125359445811510 : True := trivial
theorem hd.tw13372043803930879067 : True := trivial
theorem hd.tw4856431653887292112 : True := trivial
theorem hd.tw307737655149646647 : True := trivial
theorem hd.tw3953601041324332601 : True := trivial
theorem hd.tw11117797201346649052 : True := trivial
theorem hd.tw6046454685291232161 : True := trivial
theorem hd.tw2216850387143573719 : True := trivial
theorem hd.tw8684328023851190084 : True := trivial
theorem hd.tw10543509907540572799 : True := trivial
theorem hd.tw3481261680137367002 : True := trivial
theorem hd.tw15427206886491885616 : True := trivial
theorem hd.tw7752569895197466512 : True := trivial
theorem hd.tw461538923250603899 : True := trivial
theorem hd.tw6838551448383532254 : True := trivial
theorem hd.tw18241275227582772068 : True := trivial
theorem hd.tw5592360268479517082 : True := trivial
theorem hd.tw9077708301081682751 : True := trivial
theorem hd.tw13994979335412520660 : True := trivial
theorem hd.tw1847840615245081061 : True := trivial
theorem hd.tw13066319289922817542 : True := trivial
theorem hd.tw8047900516022102942 : True := trivial
theorem hd.tw368366308016060594 : True := trivial
theorem hd.tw8671608845466749128 : True := trivial
theorem hd.tw14896477498954680388 : True := trivial
theorem hd.tw8343274005884668182 : True := trivial
theorem hd.tw16202701480999543083 : True := trivial
theorem hd.tw8801323125487838256 : True := trivial
theorem hd.tw4724112764586752083 : True := trivial
theorem hd.tw12509009523430927325 : True := trivial
theorem hd.tw9087110039335098043 : True := trivial
theorem hd.tw16772102934027710169 : True := trivial
theorem hd.tw12936449754285732098 : True := trivial
theorem hd.tw16301592386811335294 : True := trivial
theorem hd.tw16332348944364537037 : True := trivial
theorem hd.tw13330244855972007585 : True := trivial
theorem hd.tw18087722134493236510 : True := trivial
theorem hd.tw17599816209265215132 : True := trivial
theorem hd.tw11915594877312485397 : True := trivial
theorem hd.tw2114630138375439770 : True := trivial
theorem hd.tw10012880186880212623 : True := trivial
theorem hd.tw7752767780024739350 : True := trivial
theorem hd.tw17577478241444706838 : True := trivial
theorem hd.tw17583924267553061668 : True := trivial
theorem hd.tw17650839729002327288 : True := trivial
theorem hd.tw7540741092611519060 : True := trivial
theorem hd.tw12092154237167983948 : True := trivial
theorem hd.tw732345407407602841 : True := trivial
theorem hd.tw11293185540015357738 : True := trivial
theorem hd.tw17495340751864218003 : True := trivial
theorem hd.tw6528754448969337418 : True := trivial
theorem hd.tw5010264101278932077 : True := trivial
theorem hd.tw14598272352848978880 : True := trivial
theorem hd.tw9073681462420916055 : True := trivial
theorem hd.tw9429285754427346401 : True := trivial
theorem hd.tw16357263729072622229 : True := trivial
theorem hd.tw5373601922739893978 : True := trivial
theorem hd.tw8770205317985620760 : True := trivial
theorem hd.tw7540655947842036084 : True := trivial
theorem hd.tw7854228177987924090 : True := trivial
theorem hd.tw14353793391729792155 : True := trivial
theorem hd.tw7354087734392854552 : True := trivial
theorem hd.tw7080932558258925280 : True := trivial
theorem hd.tw8015326511298524721 : True := trivial
theorem hd.tw7746578258024575070 : True := trivial
theorem hd.tw12588582704262371052 : True := trivial
theorem hd.tw5282504435634884242 : True := trivial
theorem hd.tw11893437276241958245 : True := trivial
theorem hd.tw11953376511379268794 : True := trivial
theorem hd.tw1382963296337349011 : True := trivial
theorem hd.tw3182187488490625086 : True := trivial
theorem hd.tw18300207936620678264 : True := trivial
theorem hd.tw15368132723985388332 : True := trivial
theorem hd.tw13518370688599389936 : True := trivial
theorem hd.tw9842699097658496709 : True := trivial
theorem hd.tw5363564295841288755 : True := trivial
theorem hd.tw5562173858411828344 : True := trivial
theorem hd.tw2167537188350426706 : True := trivial
theorem hd.tw7891253978561527248 : True := trivial
theorem hd.tw5278057926702712004 : True := trivial
theorem hd.tw13903934854276604550 : True := trivial
theorem hd.tw2524978443121100084 : True := trivial
theorem hd.tw6423634429210846174 : True := trivial
theorem hd.tw4817003022231809500 : True := trivial
theorem hd.tw7698358502638924378 : True := trivial
theorem hd.tw6482722132109649516 : True := trivial
theorem hd.tw3480954088277226078 : True := trivial
theorem hd.tw14006173549557618073 : True := trivial
theorem hd.tw16502264421070913907 : True := trivial
theorem hd.tw526207354791536317 : True := trivial
theorem hd.tw5464967688985200232 : True := trivial
theorem hd.tw11912922877643110818 : True := trivial
theorem hd.tw8081886968326746073 : True := trivial
theorem hd.tw13609717118414637909 : True := trivial
theorem hd.tw6636792957720756321 : True := trivial
theorem hd.tw2799716289819351777 : True := trivial
theorem hd.tw12173100003817136821 : True := trivial
theorem hd.tw7082855905992002993 : True := trivial
theorem hd.tw11631869004601391166 : True := trivial
theorem hd.tw4478964076566166474 : True := trivial
theorem hd.tw4115565904173853331 : True := trivial
theorem hd.tw13566260322249332789 : True := trivial
theorem hd.tw6761669909254768831 : True := trivial
theorem hd.tw10111801491309104144 : True := trivial
theorem hd.tw6982297934935202809 : True := trivial
theorem hd.tw4768578896829404305 : True := trivial
theorem hd.tw17454471701868102899 : True := trivial
theorem hd.tw16456969618363192440 : True := trivial
theorem hd.tw7721951785955056133 : True := trivial
theorem hd.tw5715356086224469760 : True := trivial
theorem hd.tw7792395482447073224 : True := trivial
theorem hd.tw14294001040229213422 : True := trivial
theorem hd.tw7510230149288206974 : True := trivial
theorem hd.tw2502866573005156581 : True := trivial
theorem hd.tw12901994302517312135 : True := trivial
theorem hd.tw1299046323782801668 : True := trivial
theorem hd.tw5987830557187376847 : True := trivial
theorem hd.tw17901334829092211166 : True := trivial
theorem hd.tw2195365466389143174 : True := trivial
theorem hd.tw13225837485096350037 : True := trivial
theorem hd.tw1208734638264122097 : True := trivial
theorem hd.tw16037735763661986305 : True := trivial
theorem hd.tw6598312636042714100 : True := trivial
theorem hd.tw3759623122121258479 : True := trivial
theorem hd.tw5873113503399164460 : True := trivial
theorem hd.tw1088296927520436173 : True := trivial
theorem hd.tw1865391376527767206 : True := trivial
theorem hd.tw5513025101015932971 : True := trivial
theorem hd.tw16155205043701107222 : True := trivial
theorem hd.tw8117029840178788049 : True := trivial
theorem hd.tw9427301549700849589 : True := trivial
theorem hd.tw9421340871869096474 : True := trivial
theorem hd.tw7610815399733428385 : True := trivial
theorem hd.tw1882180444382439491 : True := trivial
theorem hd.tw7292484366425897655 : True := trivial
theorem hd.tw7303270361268845054 : True := trivial
theorem hd.tw17183889307030395790 : True := trivial
theorem hd.tw4136554803537287180 : True := trivial
theorem hd.tw16053994301053490033 : True := trivial
theorem hd.tw7914949630228597729 : True := trivial
theorem hd.tw13474097485772985973 : True := trivial
theorem hd.tw7676003278276379012 : True := trivial
theorem hd.tw9942979801534940709 : True := trivial
theorem hd.tw799355135909283525 : True := trivial
theorem hd.tw4292457097857839397 : True := trivial
theorem hd.tw11672842613191775419 : True := trivial
theorem hd.tw3922637787740509324 : True := trivial
theorem hd.tw10844753989422098599 : True := trivial
theorem hd.tw16056359734778111409 : True := trivial
theorem hd.tw17780116424223528106 : True := trivial
theorem hd.tw11623594800819314181 : True := trivial
theorem hd.tw920214292312260371 : True := trivial
theorem hd.tw9277588360372424766 : True := trivial
theorem hd.tw15463257786427224491 : True := trivial
theorem hd.tw8773699223549846113 : True := trivial
theorem hd.tw17047115858639842297 : True := trivial
theorem hd.tw17420951861521290806 : True := trivial
theorem hd.tw5978321128707920903 : True := trivial
theorem hd.tw6060742912462422084 : True := trivial
theorem hd.tw2457190517430149469 : True := trivial
theorem hd.tw1118553966540926140 : True := trivial
theorem hd.tw8965841893048198262 : True := trivial
theorem hd.tw2263123870574935043 : True := trivial
theorem hd.tw9783614193127449063 : True := trivial
theorem hd.tw13483081372092288885 : True := trivial
theorem hd.tw8977307856219701671 : True := trivial
theorem hd.tw14060154772996877548 : True := trivial
theorem hd.tw8727321023445011275 : True := trivial
theorem hd.tw7654286748164834634 : True := trivial
theorem hd.tw2274498078352570744 : True := trivial
theorem hd.tw8538877666451538035 : True := trivial
theorem hd.tw4993660671451451078 : True := trivial
theorem hd.tw11729958736954745289 : True := trivial
theorem hd.tw3085183777334472315 : True := trivial
theorem hd.tw2134215046882385847 : True := trivial
theorem hd.tw5318216170032084099 : True := trivial
theorem hd.tw10516568530972986169 : True := trivial
theorem hd.tw17628472586750557451 : True := trivial
theorem hd.tw5716766192118558609 : True := trivial
theorem hd.tw1563692795949630186 : True := trivial
theorem hd.tw7085514621470718492 : True := trivial
theorem hd.tw16006246977917349235 : True := trivial
theorem hd.tw6830512106363814048 : True := trivial
theorem hd.tw5245234834050458271 : True := trivial
theorem hd.tw7541792107247259296 : True := trivial
theorem hd.tw10258999931320997221 : True := trivial
theorem hd.tw10170382586518783626 : True := trivial
theorem hd.tw2284436838669742495 : True := trivial
theorem hd.tw15166520500009309586 : True := trivial
theorem hd.tw8351282476255451920 : True := trivial
theorem hd.tw17574625026820762457 : True := trivial
theorem hd.tw16794629799341752650 : True := trivial
theorem hd.tw11011131195910976488 : True := trivial
theorem hd.tw16412773359747925120 : True := trivial
theorem hd.tw17673860158736603733 : True := trivial
theorem hd.tw10403243965636340961 : True := trivial
theorem hd.tw9557236495431379559 : True := trivial
theorem hd.tw9753359207989701909 : True := trivial
theorem hd.tw4172343393113369950 : True := trivial
theorem hd.tw7366208706002141716 : True := trivial
theorem hd.tw4015398097383911347 : True := trivial
theorem hd.tw12393119488966705847 : True := trivial
theorem hd.tw15277330632498426303 : True := trivial
theorem hd.tw16945582573551092051 : True := trivial
theorem hd.tw1425423193147277237 : True := trivial
theorem hd.tw9430268157657104642 : True := trivial
theorem hd.tw3828038474966422129 : True := trivial
theorem hd.tw17386561741084979693 : True := trivial
theorem hd.tw15987713032478767096 : True := trivial
theorem hd.tw8004679753235328684 : True := trivial
theorem hd.tw881544763273948857 : True := trivial
theorem hd.tw12058812876911547015 : True := trivial
theorem hd.tw17130151131035750659 : True := trivial
theorem hd.tw16853341256802265648 : True := trivial
theorem hd.tw13217225542625558698 : True := trivial
theorem hd.tw2595994805191909183 : True := trivial
theorem hd.tw9386895884608548742 : True := trivial
theorem hd.tw11213053971927718326 : True := trivial
theorem hd.tw1588505670450824345 : True := trivial
theorem hd.tw15348815342697509953 : True := trivial
theorem hd.tw3876449026389394717 : True := trivial
theorem hd.tw15527848837575444561 : True := trivial
theorem hd.tw4523669819894539328 : True := trivial
theorem hd.tw14768889098011018680 : True := trivial
theorem hd.tw13638418597567726942 : True := trivial
theorem hd.tw14772383043592177042 : True := trivial
theorem hd.tw3381375190539634487 : True := trivial
theorem hd.tw9983995961361265002 : True := trivial
theorem hd.tw9420132969298855359 : True := trivial
theorem hd.tw9627899436633539337 : True := trivial
theorem hd.tw17986969038992634876 : True := trivial
theorem hd.tw13828106393651249627 : True := trivial
theorem hd.tw17588044629489971554 : True := trivial
theorem hd.tw6906073325868019850 : True := trivial
theorem hd.tw14294344414604881677 : True := trivial
theorem hd.tw10727248033764811480 : True := trivial
theorem hd.tw2000490053193787569 : True := trivial
theorem hd.tw16009884308244765898 : True := trivial
theorem hd.tw16473244170626142550 : True := trivial
theorem hd.tw14859038896228082724 : True := trivial
theorem hd.tw4851647983119433812 : True := trivial
theorem hd.tw226724450230711188 : True := trivial
theorem hd.tw14960593345356199642 : True := trivial
theorem hd.tw4182648748547736412 : True := trivial
theorem hd.tw16138627921320673191 : True := trivial
theorem hd.tw10784824025267889561 : True := trivial
theorem hd.tw14705683404202351889 : True := trivial
theorem hd.tw15508949281206285077 : True := trivial
theorem hd.tw3404104791013757517 : True := trivial
theorem hd.tw13171141561276507362 : True := trivial
theorem hd.tw2304311442786299043 : True := trivial
theorem hd.tw17172931820748874959 : True := trivial
theorem hd.tw4272726840584523970 : True := trivial
theorem hd.tw3109861748172591687 : True := trivial
theorem hd.tw16257038226119295666 : True := trivial
theorem hd.tw12487502673411948298 : True := trivial
theorem hd.tw16828841361933241965 : True := trivial
theorem hd.tw15595854959937240912 : True := trivial
theorem hd.tw17737187407176874954 : True := trivial
theorem hd.tw9390866547671247325 : True := trivial
theorem hd.tw6196171512934965099 : True := trivial
theorem hd.tw17950676927832955104 : True := trivial
theorem hd.tw16169374299450900766 : True := trivial
theorem hd.tw10458740792067480800 : True := trivial
theorem hd.tw128412058910260475 : True := trivial
theorem hd.tw12685813987229840507 : True := trivial
theorem hd.tw1506431575118746342 : True := trivial
theorem hd.tw17183224562656869120 : True := trivial
theorem hd.tw13866372431405929976 : True := trivial
theorem hd.tw4449123307109862055 : True := trivial
theorem hd.tw12112201142124510154 : True := trivial
theorem hd.tw8589211134812392127 : True := trivial
theorem hd.tw11375277706881905925 : True := trivial
theorem hd.tw12394076208661396346 : True := trivial
theorem hd.tw17213754286329925777 : True := trivial
theorem hd.tw4643362625855044894 : True := trivial
theorem hd.tw16091413853298234908 : True := trivial
theorem hd.tw2616952524820836436 : True := trivial
theorem hd.tw2781682124601125471 : True := trivial
theorem hd.tw13931416462566266981 : True := trivial
theorem hd.tw3530705653197291679 : True := trivial
theorem hd.tw84519696092419186 : True := trivial
theorem hd.tw262745018181394680 : True := trivial
theorem hd.tw10531373872144210542 : True := trivial
theorem hd.tw16904818350239718627 : True := trivial
theorem hd.tw4282304852377368616 : True := trivial
theorem hd.tw1712922718373300912 : True := trivial
theorem hd.tw9013056391748086436 : True := trivial
theorem hd.tw6820862383352777685 : True := trivial
theorem hd.tw2701402951725559080 : True := trivial
theorem hd.tw402640490398009360 : True := trivial
theorem hd.tw14991384322417631237 : True := trivial
theorem hd.tw11632984921778587759 : True := trivial
theorem hd.tw2951005344575393816 : True := trivial
theorem hd.tw8716120427605611371 : True := trivial
theorem hd.tw15837987909243819085 : True := trivial
theorem hd.tw8960069828448710407 : True := trivial
theorem hd.tw7120233287515763914 : True := trivial
theorem hd.tw12364972598781006883 : True := trivial
theorem hd.tw7763873220885509757 : True := trivial
theorem hd.tw6882427118574961969 : True := trivial
theorem hd.tw15642763164714097627 : True := trivial
theorem hd.tw6276725880618359904 : True := trivial
theorem hd.tw991583007596301734 : True := trivial
theorem hd.tw17394231825005217808 : True := trivial
theorem hd.tw11472165163037031739 : True := trivial
theorem hd.tw17989097746536338734 : True := trivial
theorem hd.tw5505005885091257285 : True := trivial
theorem hd.tw3789350110615891812 : True := trivial
theorem hd.tw18293851220164018083 : True := trivial
theorem hd.tw13466754112058979494 : True := trivial
theorem hd.tw9631708518359487223 : True := trivial
theorem hd.tw4478166936697009375 : True := trivial
theorem hd.tw15048261121198461528 : True := trivial
theorem hd.tw17491280204586788870 : True := trivial
theorem hd.tw1589133516308662214 : True := trivial
theorem hd.tw15643275761693703936 : True := trivial
theorem hd.tw10781468475247234061 : True := trivial
theorem hd.tw13431754692932380062 : True := trivial
theorem hd.tw5433107678231618845 : True := trivial
theorem hd.tw1781861727890032366 : True := trivial
theorem hd.tw11852641145169952659 : True := trivial
theorem hd.tw10210669037155785340 : True := trivial
theorem hd.tw13092906067662860646 : True := trivial
theorem hd.tw15675198926951892251 : True := trivial
theorem hd.tw1610171440888473627 : True := trivial
theorem hd.tw9170477692918782315 : True := trivial
theorem hd.tw4478177076189095293 : True := trivial
theorem hd.tw18103342009636024947 : True := trivial
theorem hd.tw1535757262459896012 : True := trivial
theorem hd.tw6136932545381038964 : True := trivial
theorem hd.tw1699103778626983548 : True := trivial
theorem hd.tw432457690288141553 : True := trivial
theorem hd.tw11210553801493137410 : True := trivial
theorem hd.tw13220430256171166289 : True := trivial
theorem hd.tw11507959949525687343 : True := trivial
theorem hd.tw17387473266821786944 : True := trivial
theorem hd.tw6123773746684550334 : True := trivial
theorem hd.tw7068711184596962023 : True := trivial
theorem hd.tw4367231431732253908 : True := trivial
theorem hd.tw13285133528070534704 : True := trivial
theorem hd.tw663384727985864361 : True := trivial
theorem hd.tw13160604113216922460 : True := trivial
theorem hd.tw9719896912496429819 : True := trivial
theorem hd.tw5902613922787404954 : True := trivial
theorem hd.tw442638132926106271 : True := trivial
theorem hd.tw17845618019537910915 : True := trivial
theorem hd.tw16919406825032445293 : True := trivial
theorem hd.tw11115866451450875312 : True := trivial
theorem hd.tw825126770350376351 : True := trivial
theorem hd.tw11713075325732132258 : True := trivial
theorem hd.tw10841399608879689956 : True := trivial
theorem hd.tw8428860471423672150 : True := trivial
theorem hd.tw8210421348078903774 : True := trivial
theorem hd.tw3920623390966001496 : True := trivial
theorem hd.tw9731375825926819010 : True := trivial
theorem hd.tw14567429538950270057 : True := trivial
theorem hd.tw1580110805410547442 : True := trivial
theorem hd.tw10583446816852156582 : True := trivial
theorem hd.tw2295870552580634182 : True := trivial
theorem hd.tw6957150274394394060 : True := trivial
theorem hd.tw10030107230732127627 : True := trivial
theorem hd.tw12949589719889679912 : True := trivial
theorem hd.tw250903467453971090 : True := trivial
theorem hd.tw8268277133935991078 : True := trivial
theorem hd.tw14955159897011116063 : True := trivial
theorem hd.tw15278966056882409248 : True := trivial
theorem hd.tw8242931771332617035 : True := trivial
theorem hd.tw3419581819265744254 : True := trivial
theorem hd.tw2579130931290207214 : True := trivial
theorem hd.tw10404513684093684653 : True := trivial
theorem hd.tw10246146449241189800 : True := trivial
theorem hd.tw5130813555471234732 : True := trivial
theorem hd.tw11364443708160879001 : True := trivial
theorem hd.tw5505332120971382143 : True := trivial
theorem hd.tw5983496337302601536 : True := trivial
theorem hd.tw16259696140248634718 : True := trivial
theorem hd.tw12590977762386282803 : True := trivial
theorem hd.tw15089522573102190283 : True := trivial
theorem hd.tw14683707025165767436 : True := trivial
theorem hd.tw11917015161858427179 : True := trivial
theorem hd.tw7382370116671421104 : True := trivial
theorem hd.tw15924899543223041283 : True := trivial
theorem hd.tw6879831473291441079 : True := trivial
theorem hd.tw10292235466723388172 : True := trivial
theorem hd.tw10286656452748174568 : True := trivial
theorem hd.tw18166333605607142505 : True := trivial
theorem hd.tw17895171251205151618 : True := trivial
theorem hd.tw11513968764499736323 : True := trivial
theorem hd.tw16299908979028503884 : True := trivial
theorem hd.tw1359830224848277088 : True := trivial
theorem hd.tw12744807935193187038 : True := trivial
theorem hd.tw11079593142295127227 : True := trivial
theorem hd.tw11054480109507316185 : True := trivial
theorem hd.tw11631947586910100387 : True := trivial
theorem hd.tw2386827423013361158 : True := trivial
theorem hd.tw100483095206116625 : True := trivial
theorem hd.tw5480042469492414594 : True := trivial
theorem hd.tw16634568088961857937 : True := trivial
theorem hd.tw6627881031435992008 : True := trivial
theorem hd.tw9398405308114057262 : True := trivial
theorem hd.tw7379015992945566340 : True := trivial
theorem hd.tw5388632664720090651 : True := trivial
theorem hd.tw7174315439194531881 : True := trivial
theorem hd.tw5629675986466331604 : True := trivial
theorem hd.tw13790719812936386609 : True := trivial
theorem hd.tw6164396464334811476 : True := trivial
theorem hd.tw8770659054964912022 : True := trivial
theorem hd.tw17919194246423945575 : True := trivial
theorem hd.tw2315301623876862497 : True := trivial
theorem hd.tw2101469004524951375 : True := trivial
theorem hd.tw10847404155465417027 : True := trivial
theorem hd.tw9702936160620672325 : True := trivial
theorem hd.tw16443024508289211202 : True := trivial
theorem hd.tw15615537253650120727 : True := trivial
theorem hd.tw15199589371867527261 : True := trivial
theorem hd.tw6469175993241445255 : True := trivial
theorem hd.tw7598622570094877466 : True := trivial
theorem hd.tw15207398651663016943 : True := trivial
theorem hd.tw8934143017859847078 : True := trivial
theorem hd.tw12575139184659369484 : True := trivial
theorem hd.tw6184208073178115725 : True := trivial
theorem hd.tw15422856539912107476 : True := trivial
theorem hd.tw3350930974749635488 : True := trivial
theorem hd.tw464777395874653626 : True := trivial
theorem hd.tw1013155817946168525 : True := trivial
theorem hd.tw1836080755315867724 : True := trivial
theorem hd.tw17330945745186091897 : True := trivial
theorem hd.tw12861998865439983172 : True := trivial
theorem hd.tw14137390275340422267 : True := trivial
theorem hd.tw16970440968685349367 : True := trivial
theorem hd.tw12690835874199464660 : True := trivial
theorem hd.tw4870687313549177768 : True := trivial
theorem hd.tw1666387254794493845 : True := trivial
theorem hd.tw12350410155528471161 : True := trivial
theorem hd.tw1011335219593555734 : True := trivial
theorem hd.tw5292301768408028288 : True := trivial
theorem hd.tw243823211424636713 : True := trivial
theorem hd.tw5899666649113621702 : True := trivial
theorem hd.tw6683769817339685419 : True := trivial
theorem hd.tw4833718069199227053 : True := trivial
theorem hd.tw162610821266807592 : True := trivial
theorem hd.tw7006195865600381663 : True := trivial
theorem hd.tw12659318050587179527 : True := trivial
theorem hd.tw8609351116199087170 : True := trivial
theorem hd.tw18093812233618175256 : True := trivial
theorem hd.tw12399718760709695909 : True := trivial
theorem hd.tw1222794163293265305 : True := trivial
theorem hd.tw13409441903868389331 : True := trivial
theorem hd.tw9763420282994701918 : True := trivial
theorem hd.tw17672654358674132775 : True := trivial
theorem hd.tw4360684699965382250 : True := trivial
theorem hd.tw9155422001095189878 : True := trivial
theorem hd.tw8735263284916673568 : True := trivial
theorem hd.tw17893044597097874663 : True := trivial
theorem hd.tw13267510147771200024 : True := trivial
theorem hd.tw11032806212648032379 : True := trivial
theorem hd.tw14906377314874228009 : True := trivial
theorem hd.tw6931407450589930559 : True := trivial
theorem hd.tw8112040973832200146 : True := trivial
theorem hd.tw15910714762333108613 : True := trivial
theorem hd.tw257007361410690125 : True := trivial
theorem hd.tw16640546478005224243 : True := trivial
theorem hd.tw8312999807965096350 : True := trivial
theorem hd.tw17491317419825422843 : True := trivial
theorem hd.tw18343703819029505601 : True := trivial
theorem hd.tw16694946328126371552 : True := trivial
theorem hd.tw17681399029576232318 : True := trivial
theorem hd.tw10203026625882799534 : True := trivial
theorem hd.tw16156708551869547534 : True := trivial
theorem hd.tw9132557439983319658 : True := trivial
theorem hd.tw2040990291671593033 : True := trivial
theorem hd.tw7640094616464845771 : True := trivial
theorem hd.tw12940713784782232206 : True := trivial
theorem hd.tw2930668341846507884 : True := trivial
theorem hd.tw13277076834127875243 : True := trivial
theorem hd.tw689954013368505116 : True := trivial
theorem hd.tw12900700647772717614 : True := trivial
theorem hd.tw15220180469806662145 : True := trivial
theorem hd.tw3484992998616243462 : True := trivial
theorem hd.tw280609765759037681 : True := trivial
theorem hd.tw16178712458983371728 : True := trivial
theorem hd.tw7152984921513172624 : True := trivial
theorem hd.tw13315533130655954831 : True := trivial
theorem hd.tw7880807054014371918 : True := trivial
theorem hd.tw7270182246851987180 : True := trivial
theorem hd.tw3309697970292668127 : True := trivial
theorem hd.tw12614811148066621264 : True := trivial
theorem hd.tw14706022693812145444 : True := trivial
theorem hd.tw13289513938125300765 : True := trivial
theorem hd.tw6079173187612997037 : True := trivial
theorem hd.tw12127338746724423809 : True := trivial
theorem hd.tw6140570298594658328 : True := trivial
theorem hd.tw9741134391959003819 : True := trivial
theorem hd.tw15992342658441690333 : True := trivial
theorem hd.tw16661405048812198066 : True := trivial
theorem hd.tw5009564483982726761 : True := trivial
theorem hd.tw4383666589626881386 : True := trivial
theorem hd.tw17234923516513369237 : True := trivial
theorem hd.tw10949625832625181284 : True := trivial
theorem hd.tw8479784124755550697 : True := trivial
theorem hd.tw17696971302532935780 : True := trivial
theorem hd.tw11709330566771433103 : True := trivial
theorem hd.tw2480057099694739299 : True := trivial
theorem hd.tw15813434630575017362 : True := trivial
theorem hd.tw15152743547302097792 : True := trivial
theorem hd.tw5976792059365374437 : True := trivial
theorem hd.tw16722109127936396110 : True := trivial
theorem hd.tw354778512879773586 : True := trivial
theorem hd.tw5535567543195554156 : True := trivial
theorem hd.tw3940546777539579641 : True := trivial
theorem hd.tw12070654863422294720 : True := trivial
theorem hd.tw11402939732021071671 : True := trivial
theorem hd.tw5608270528595127837 : True := trivial
theorem hd.tw16713699803418581334 : True := trivial
theorem hd.tw6555240042291301478 : True := trivial
theorem hd.tw8977460988437922124 : True := trivial
theorem hd.tw6411954120941647267 : True := trivial
theorem hd.tw2001351230973187099 : True := trivial
theorem hd.tw15625209780758371316 : True := trivial
theorem hd.tw8516288146210602744 : True := trivial
theorem hd.tw9131607905817354932 : True := trivial
theorem hd.tw2391449824757734642 : True := trivial
theorem hd.tw313027258313007627 : True := trivial
theorem hd.tw16896567674234606475 : True := trivial
theorem hd.tw12851660460077801712 : True := trivial
theorem hd.tw6785817131721698500 : True := trivial
theorem hd.tw17258206423299326598 : True := trivial
theorem hd.tw11663481321943121269 : True := trivial
theorem hd.tw15416985209724490359 : True := trivial
theorem hd.tw9525452488782058459 : True := trivial
theorem hd.tw9298403506768410418 : True := trivial
theorem hd.tw12070051907170230399 : True := trivial
theorem hd.tw12952509933414984302 : True := trivial
theorem hd.tw11256106856564762260 : True := trivial
theorem hd.tw9499510787657705874 : True := trivial
theorem hd.tw3816877163431070358 : True := trivial
theorem hd.tw11232374478483605306 : True := trivial
theorem hd.tw17562767543260142214 : True := trivial
theorem hd.tw9990345226319884068 : True := trivial
theorem hd.tw10860895700388868024 : True := trivial
theorem hd.tw7317836474542784337 : True := trivial
theorem hd.tw9345676750909349944 : True := trivial
theorem hd.tw11587034568685482758 : True := trivial
theorem hd.tw16211521421427940678 : True := trivial
theorem hd.tw2442259710966052079 : True := trivial
theorem hd.tw2603259988358896889 : True := trivial
theorem hd.tw14029546391885035639 : True := trivial
theorem hd.tw2999033326186475339 : True := trivial
theorem hd.tw8664936974563722654 : True := trivial
theorem hd.tw185848376630758926 : True := trivial
theorem hd.tw17843490464661113860 : True := trivial
theorem hd.tw17714235663813219645 : True := trivial
theorem hd.tw5366084841770067474 : True := trivial
theorem hd.tw8789358453043137523 : True := trivial
theorem hd.tw14745743045033390146 : True := trivial
theorem hd.tw16547865195752855329 : True := trivial
theorem hd.tw6896469178606551848 : True := trivial
theorem hd.tw4021928978595405253 : True := trivial
theorem hd.tw9960721518486171458 : True := trivial
theorem hd.tw8990313861142287110 : True := trivial
theorem hd.tw7339039647409124788 : True := trivial
theorem hd.tw1005483496087919985 : True := trivial
theorem hd.tw7153062008950511462 : True := trivial
theorem hd.tw16007149819294483003 : True := trivial
theorem hd.tw8134915037123179040 : True := trivial
theorem hd.tw845060206244984605 : True := trivial
theorem hd.tw4734902545126651661 : True := trivial
theorem hd.tw14754404106442844205 : True := trivial
theorem hd.tw2855845756224970109 : True := trivial
theorem hd.tw17903497710992402801 : True := trivial
theorem hd.tw10365702040365258594 : True := trivial
theorem hd.tw701333769924781912 : True := trivial
theorem hd.tw9345929723534960622 : True := trivial
theorem hd.tw14462709497994964445 : True := trivial
theorem hd.tw2808349399557158395 : True := trivial
theorem hd.tw3919010098100093602 : True := trivial
theorem hd.tw1997569388931296116 : True := trivial
theorem hd.tw6449127861642672459 : True := trivial
theorem hd.tw17948085552500728524 : True := trivial
theorem hd.tw7563641570988238572 : True := trivial
theorem hd.tw15064902949301533346 : True := trivial
theorem hd.tw17054507655720011243 : True := trivial
theorem hd.tw5416991563250132298 : True := trivial
theorem hd.tw11389486352061984695 : True := trivial
theorem hd.tw1760603350576429475 : True := trivial
theorem hd.tw3008623586974134963 : True := trivial
theorem hd.tw5927567313105069670 : True := trivial
theorem hd.tw16920754564084929960 : True := trivial
theorem hd.tw519851828213033955 : True := trivial
theorem hd.tw9617658007855726926 : True := trivial
theorem hd.tw14673209030070457562 : True := trivial
theorem hd.tw10491609206876299696 : True := trivial
theorem hd.tw4819202231147424091 : True := trivial
theorem hd.tw17975533764899295144 : True := trivial
theorem hd.tw6804821044290156842 : True := trivial
theorem hd.tw4111692666942324129 : True := trivial
theorem hd.tw9330943631129107780 : True := trivial
theorem hd.tw13321331477185743149 : True := trivial
theorem hd.tw13893168526513508166 : True := trivial
theorem hd.tw9184186324627900627 : True := trivial
theorem hd.tw13363553139645760527 : True := trivial
theorem hd.tw15946356160694317329 : True := trivial
theorem hd.tw8244733829118024811 : True := trivial
theorem hd.tw17336936450418997793 : True := trivial
theorem hd.tw13122850982685727845 : True := trivial
theorem hd.tw1848646778235469078 : True := trivial
theorem hd.tw6759412095888398321 : True := trivial
theorem hd.tw4402725079659364252 : True := trivial
theorem hd.tw1600037746751723098 : True := trivial
theorem hd.tw15213948185873263833 : True := trivial
theorem hd.tw500953250457666378 : True := trivial
theorem hd.tw8458067239894703972 : True := trivial
theorem hd.tw8226494294326810461 : True := trivial
theorem hd.tw10778013660560245624 : True := trivial
theorem hd.tw11251137523995926341 : True := trivial
theorem hd.tw16858285156579221889 : True := trivial
theorem hd.tw13770079208771991547 : True := trivial
theorem hd.tw17739348878880393726 : True := trivial
theorem hd.tw11319892378374348655 : True := trivial
theorem hd.tw15790720579355451973 : True := trivial
theorem hd.tw3452082135128663414 : True := trivial
theorem hd.tw2042292140826266357 : True := trivial
theorem hd.tw728884934406724761 : True := trivial
theorem hd.tw13628142620392400109 : True := trivial
theorem hd.tw12611767792052310623 : True := trivial
theorem hd.tw15687388767607454252 : True := trivial
theorem hd.tw833173182276230429 : True := trivial
theorem hd.tw16684818696116721337 : True := trivial
theorem hd.tw2051048951616859547 : True := trivial
theorem hd.tw3196399650302076718 : True := trivial
theorem hd.tw11465210709893060100 : True := trivial
theorem hd.tw3451239065008710300 : True := trivial
theorem hd.tw15344866539931968096 : True := trivial
theorem hd.tw18291419657060728153 : True := trivial
theorem hd.tw5859118754885311737 : True := trivial
theorem hd.tw10738003575532504788 : True := trivial
theorem hd.tw15759970867653108152 : True := trivial
theorem hd.tw6407587892757256292 : True := trivial
theorem hd.tw10955317050725887447 : True := trivial
theorem hd.tw8184699220007379433 : True := trivial
theorem hd.tw15411387601460861337 : True := trivial
theorem hd.tw4086058157674990017 : True := trivial
theorem hd.tw14446474709323646786 : True := trivial
theorem hd.tw12239354291974867115 : True := trivial
theorem hd.tw3333446698644548216 : True := trivial
theorem hd.tw12521463284412890351 : True := trivial
theorem hd.tw17429513623812275283 : True := trivial
theorem hd.tw10905682514733158466 : True := trivial
theorem hd.tw7494724483528729301 : True := trivial
theorem hd.tw3793221421916198646 : True := trivial
theorem hd.tw242841246431481386 : True := trivial
theorem hd.tw13132618709999183898 : True := trivial
theorem hd.tw3878383114103592795 : True := trivial
theorem hd.tw4159134105002834734 : True := trivial
theorem hd.tw9228397985900620932 : True := trivial
theorem hd.tw8457440626546761165 : True := trivial
theorem hd.tw9673543361469618366 : True := trivial
theorem hd.tw8269573656231971908 : True := trivial
theorem hd.tw2799067240506288376 : True := trivial
theorem hd.tw9566141503761928105 : True := trivial
theorem hd.tw16157073509204512506 : True := trivial
theorem hd.tw14984183105004643987 : True := trivial
theorem hd.tw3571134770919094901 : True := trivial
theorem hd.tw15529170255622000948 : True := trivial
theorem hd.tw4642405928176397000 : True := trivial
theorem hd.tw15946388913382835224 : True := trivial
theorem hd.tw13181700845877081190 : True := trivial
theorem hd.tw16345102440705955213 : True := trivial
theorem hd.tw12647368939536790636 : True := trivial
theorem hd.tw11546794813071737295 : True := trivial
theorem hd.tw16240987189780228909 : True := trivial
theorem hd.tw7754304195085646258 : True := trivial
theorem hd.tw1197925565968671727 : True := trivial
theorem hd.tw15673258824015622330 : True := trivial
theorem hd.tw11968265576560266318 : True := trivial
theorem hd.tw17925215291927510665 : True := trivial
theorem hd.tw11754176132448286083 : True := trivial
theorem hd.tw8273930003744585626 : True := trivial
theorem hd.tw3493717111155160527 : True := trivial
theorem hd.tw18103420901670897651 : True := trivial
theorem hd.tw12994019391074448376 : True := trivial
theorem hd.tw22551697357593593 : True := trivial
theorem hd.tw15578025631644234493 : True := trivial
theorem hd.tw3795277891434052102 : True := trivial
theorem hd.tw18176940659606848779 : True := trivial
theorem hd.tw18268791191939849864 : True := trivial
theorem hd.tw6868836192036940282 : True := trivial
theorem hd.tw13365295217650922812 : True := trivial
theorem hd.tw8683856772340465682 : True := trivial
theorem hd.tw1603739661141634737 : True := trivial
theorem hd.tw7534799579077118603 : True := trivial
theorem hd.tw6547078798241139092 : True := trivial
theorem hd.tw18163647496604598072 : True := trivial
theorem hd.tw9533747618267967006 : True := trivial
theorem hd.tw7355570028127101125 : True := trivial
theorem hd.tw3694398316872202419 : True := trivial
theorem hd.tw6767318904944593275 : True := trivial
theorem hd.tw7296583596125217682 : True := trivial
theorem hd.tw10678649693572172417 : True := trivial
theorem hd.tw12268275109542032366 : True := trivial
theorem hd.tw11778180911958503814 : True := trivial
theorem hd.tw14478148883734587675 : True := trivial
theorem hd.tw2608437505485318709 : True := trivial
theorem hd.tw541196102884509978 : True := trivial
theorem hd.tw8381844023166312768 : True := trivial
theorem hd.tw15852365999677673905 : True := trivial
theorem hd.tw3646829019195819677 : True := trivial
theorem hd.tw18264374347568628810 : True := trivial
theorem hd.tw4971549296188076032 : True := trivial
theorem hd.tw7289634563603522867 : True := trivial
theorem hd.tw1792636949448641307 : True := trivial
theorem hd.tw17542962492245011380 : True := trivial
theorem hd.tw14612060388864693735 : True := trivial
theorem hd.tw17252143746492648416 : True := trivial
theorem hd.tw12459740579856956213 : True := trivial
theorem hd.tw17001982702790524580 : True := trivial
theorem hd.tw13217827037086042188 : True := trivial
theorem hd.tw6184460063843016694 : True := trivial
theorem hd.tw14457593812595234344 : True := trivial
theorem hd.tw5343241284826551009 : True := trivial
theorem hd.tw12870888531099404533 : True := trivial
theorem hd.tw16376525773666504680 : True := trivial
theorem hd.tw6320253292602491972 : True := trivial
theorem hd.tw2922222751358710265 : True := trivial
theorem hd.tw1147470481896660410 : True := trivial
theorem hd.tw3673020696563887462 : True := trivial
theorem hd.tw7578210074245671484 : True := trivial
theorem hd.tw6264232113106981867 : True := trivial
theorem hd.tw18219297243305740317 : True := trivial
theorem hd.tw4702841417184801058 : True := trivial
theorem hd.tw2739504486584576224 : True := trivial
theorem hd.tw3386092968808520798 : True := trivial
theorem hd.tw940617070666608080 : True := trivial
theorem hd.tw15367242080415987702 : True := trivial
theorem hd.tw18293732401869909652 : True := trivial
theorem hd.tw11660266114150955751 : True := trivial
theorem hd.tw7191455744419660376 : True := trivial
theorem hd.tw3704167492566942397 : True := trivial
theorem hd.tw3496965988886986938 : True := trivial
theorem hd.tw6442067068224118133 : True := trivial
theorem hd.tw1379335367625716243 : True := trivial
theorem hd.tw16477043939570097188 : True := trivial
theorem hd.tw7712595579559962911 : True := trivial
theorem hd.tw16171809288044610508 : True := trivial
theorem hd.tw13262116225945230012 : True := trivial
theorem hd.tw3229955645248102723 : True := trivial
theorem hd.tw10603584201595350602 : True := trivial
theorem hd.tw15948780112781908787 : True := trivial
theorem hd.tw14980023328507725902 : True := trivial
theorem hd.tw8317466277049474617 : True := trivial
theorem hd.tw12602439190401603521 : True := trivial
theorem hd.tw3221592705415737273 : True := trivial
theorem hd.tw9449672872311958731 : True := trivial
theorem hd.tw17143205804819765802 : True := trivial
theorem hd.tw11151547217846952531 : True := trivial
theorem hd.tw10806950440038215891 : True := trivial
theorem hd.tw1051681510052472703 : True := trivial
theorem hd.tw3608708970678896270 : True := trivial
theorem hd.tw9657781627882305391 : True := trivial
theorem hd.tw11905163887095721015 : True := trivial
theorem hd.tw2068664650715991707 : True := trivial
theorem hd.tw1241404454085649124 : True := trivial
theorem hd.tw2329189449893159454 : True := trivial
theorem hd.tw14060237666301923597 : True := trivial
theorem hd.tw2788664435532181463 : True := trivial
theorem hd.tw13532847315355080253 : True := trivial
theorem hd.tw5190246844813560578 : True := trivial
theorem hd.tw14439243815434019604 : True := trivial
theorem hd.tw14492701947808656938 : True := trivial
theorem hd.tw17956543221229664512 : True := trivial
theorem hd.tw14852329139284432860 : True := trivial
theorem hd.tw7372000682148998216 : True := trivial
theorem hd.tw8356816923877370021 : True := trivial
theorem hd.tw26425463804135960 : True := trivial
theorem hd.tw3350844169311001129 : True := trivial
theorem hd.tw9513423893830186035 : True := trivial
theorem hd.tw15683763237869141255 : True := trivial
theorem hd.tw17902569758825723728 : True := trivial
theorem hd.tw10604169790165778682 : True := trivial
theorem hd.tw4297731678662094536 : True := trivial
theorem hd.tw16432713993328977331 : True := trivial
theorem hd.tw6755925336976613232 : True := trivial
theorem hd.tw16415028865518655546 : True := trivial
theorem hd.tw5283464899586487735 : True := trivial
theorem hd.tw876933089483189297 : True := trivial
theorem hd.tw7028611270464810887 : True := trivial
theorem hd.tw8438522148716505817 : True := trivial
theorem hd.tw1194904439430580092 : True := trivial
theorem hd.tw10264135568141901301 : True := trivial
theorem hd.tw12113243949977362033 : True := trivial
theorem hd.tw9153386212771759811 : True := trivial
theorem hd.tw8228950375871286339 : True := trivial
theorem hd.tw1043307727769730188 : True := trivial
theorem hd.tw10879034167726328663 : True := trivial
theorem hd.tw6578402527460240241 : True := trivial
theorem hd.tw14667805832236412624 : True := trivial
theorem hd.tw6394381022753523788 : True := trivial
theorem hd.tw17062030032774818151 : True := trivial
theorem hd.tw12337632362937886050 : True := trivial
theorem hd.tw6305734824756694309 : True := trivial
theorem hd.tw11283319371284918911 : True := trivial
theorem hd.tw2252305205657439004 : True := trivial
theorem hd.tw2708950531961675432 : True := trivial
theorem hd.tw4494801613693538912 : True := trivial
theorem hd.tw16487816990975572028 : True := trivial
theorem hd.tw7526368328331116154 : True := trivial
theorem hd.tw18095200977026478895 : True := trivial
theorem hd.tw11551083187376567056 : True := trivial
theorem hd.tw10424393626065333798 : True := trivial
theorem hd.tw678209747344391502 : True := trivial
theorem hd.tw6438293893037913957 : True := trivial
theorem hd.tw5486487638281291605 : True := trivial
theorem hd.tw14685462170515437407 : True := trivial
set_option Elab.async true
theorem hd : PySem.Challenge.rw_nz0099_01.Holds := by
  w_on
  o_law
  k_head
  (case hw => w_witness2)
  k_go0
  refine law_join ?FF (by assumption) (by assumption) (below_caller _) (by assumption) (by assumption) ?hn (by assumption) (by assumption) rfl (fun h' tk' hk => ?_)
  case hn => omega
  case FF =>
    refine ⟨?_, ?_, ?_, ?_, ?_, ?_, ?_, ?_⟩
    · repeat' first | exact True.intro | refine And.intro ?_ ?_ | (show nsIn _ _ _ = _; k_is) | (show keepIn _ _ = _; k_is)
    · repeat' first | exact True.intro | refine And.intro ?_ ?_ | (show nsIn _ _ _ = _; k_is)
    · repeat' first | exact True.intro | refine And.intro ?_ ?_ | (show AttrOK _ _ _; dsimp only; exact attrOK_mk (by k_is) (by k_is) (by k_is) (by k_is))
    · repeat' first | exact True.intro | refine And.intro ?_ ?_ | (show SetOK _ _ _; dsimp only; refine ⟨?_, ?_, ?_, ?_⟩ <;> k_is)
    · repeat' first | exact True.intro | refine And.intro ?_ ?_ | (show MethOK _ _ _ _; dsimp only; refine ⟨?_, ?_, ?_, ?_⟩ <;> k_is)
    · repeat' first | exact True.intro | refine And.intro ?_ ?_ | (dsimp only; k_is)
    · repeat' first | exact True.intro | refine And.intro ?_ ?_ | (dsimp only; k_is)
    · repeat' first | exact True.intro | refine And.intro ?_ ?_ | (show FnAt _ _ _ _ _; dsimp only; exact fnAt_mk (by k_is) (by k_is))
  refine ⟨.inl ⟨.bool true, .bool true, [], rfl, fun _ => ?_, .bool true, ?_, fun _ => ⟨List.nodup_nil, fun _ h => (nomatch h)⟩⟩, hk, rfl, ?_⟩
  · rfl
  · wrow_post
  · assumption
set_option Elab.async false
end Mine
theorem PySem.Challenge.cw_nz0099_01_holds : PySem.Challenge.rw_nz0099_01.Holds := by
  exact Mine.hd
